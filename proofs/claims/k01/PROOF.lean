import PyProof.Rows.All
import Wide.All
import OpenK.AllK
import Wide.FinOn
import HandS.ForMost
import HandS.Exc
import HandS.TryOnly
import HandS.ExcOwn
import HandS.WordsExc
import HandS.TupAny
import HandS.Walk
import HandS.IsInst
import HandS.Conv
import HandS.Zip
import HandS.DictComp
import HandS.More
import HandS.SortInts
import PySem.Challenge.RW_asyncframes_k01_boxes_are_listed_and_che
set_option Elab.async false
set_option linter.all false
set_option maxRecDepth 100000
set_option maxHeartbeats 1000000
/-! Deep values over the hand layer. D: a Python value as a whole (frozen data), .ref a: a mutable cell by its address.
    B: the frozen part of the heap, C: the cells (mutable), F: a frame that is kept as it is. -/
namespace Dv
open PySem L2

inductive D where
  | non | bl (b : Bool) | int (i : Int) | str (x : Str) | ref (a : Addr) | ty (n : String)
  | tup (l : List D) | lst (l : List D) | dic (l : List (Int × D))

mutual
inductive Rep (B : Hp) : V → D → Prop
  | non : Rep B .non .non
  | bl {b} : Rep B (.bl b) (.bl b)
  | int {i} : Rep B (.int i) (.int i)
  | str {x} : Rep B (.str x) (.str x)
  | ref {a} : Rep B (.ref a) (.ref a)
  | ty {n} : Rep B (.ty n) (.ty n)
  | tup {a vs ds} : B a = some (.tup vs) → Reps B vs ds → Rep B (.ref a) (.tup ds)
  | lst {a vs ds} : B a = some (.lst vs) → Reps B vs ds → Rep B (.ref a) (.lst ds)
  | dic {a vs ds} : B a = some (.dK vs) → RepK B vs ds → Rep B (.ref a) (.dic ds)
inductive Reps (B : Hp) : List V → List D → Prop
  | nil : Reps B [] []
  | cons {v d vs ds} : Rep B v d → Reps B vs ds → Reps B (v :: vs) (d :: ds)
inductive RepK (B : Hp) : List (Key × V) → List (Int × D) → Prop
  | nil : RepK B [] []
  | cons {k v d vs ds} : Rep B v d → RepK B vs ds → RepK B ((Sum.inl k, v) :: vs) ((k, d) :: ds)
end

inductive RepF (B : Hp) : List (Str × V) → List (Str × D) → Prop
  | nil : RepF B [] []
  | cons {k v d vs ds} : Rep B v d → RepF B vs ds → RepF B ((k, v) :: vs) ((k, d) :: ds)

mutual
theorem Rep.mono {B B' : Hp} (e : Same B B') : ∀ {v d}, Rep B v d → Rep B' v d
  | _, _, .non => .non
  | _, _, .bl => .bl
  | _, _, .int => .int
  | _, _, .str => .str
  | _, _, .ref => .ref
  | _, _, .ty => .ty
  | _, _, .tup h r => .tup (e _ _ h) (Reps.mono e r)
  | _, _, .lst h r => .lst (e _ _ h) (Reps.mono e r)
  | _, _, .dic h r => .dic (e _ _ h) (RepK.mono e r)
theorem Reps.mono {B B' : Hp} (e : Same B B') : ∀ {vs ds}, Reps B vs ds → Reps B' vs ds
  | _, _, .nil => .nil
  | _, _, .cons h r => .cons (Rep.mono e h) (Reps.mono e r)
theorem RepK.mono {B B' : Hp} (e : Same B B') : ∀ {vs ds}, RepK B vs ds → RepK B' vs ds
  | _, _, .nil => .nil
  | _, _, .cons h r => .cons (Rep.mono e h) (RepK.mono e r)
end
theorem RepF.mono {B B' : Hp} (e : Same B B') {vs ds} (h : RepF B vs ds) : RepF B' vs ds := by
  induction h with
  | nil => exact .nil
  | cons h _ ih => exact .cons (h.mono e) ih

theorem Reps.length {B : Hp} : ∀ {vs ds}, Reps B vs ds → vs.length = ds.length
  | _, _, .nil => rfl
  | _, _, .cons _ r => by rw [List.length_cons, List.length_cons, Reps.length r]
theorem Reps.get {B : Hp} : ∀ {vs ds} {i : Nat} {d : D}, Reps B vs ds → ds[i]? = some d → ∃ v, vs[i]? = some v ∧ Rep B v d
  | _, _, _, _, .nil, e => by simp at e
  | _, _, 0, _, .cons h _, e => by simp at e; subst e; exact ⟨_, rfl, h⟩
  | _, _, i + 1, d, .cons _ r, e => by
    obtain ⟨v, h1, h2⟩ := Reps.get (i := i) (d := d) r (by simpa using e)
    exact ⟨v, by simpa using h1, h2⟩
theorem Reps.getV {B : Hp} : ∀ {vs ds} {i : Nat} {v : V}, Reps B vs ds → vs[i]? = some v → ∃ d, ds[i]? = some d ∧ Rep B v d
  | _, _, _, _, .nil, e => by simp at e
  | _, _, 0, _, .cons h _, e => by simp at e; subst e; exact ⟨_, rfl, h⟩
  | _, _, i + 1, v, .cons _ r, e => by
    obtain ⟨d, h1, h2⟩ := Reps.getV (i := i) (v := v) r (by simpa using e)
    exact ⟨d, by simpa using h1, h2⟩
theorem Reps.append {B : Hp} : ∀ {vs ds ws es}, Reps B vs ds → Reps B ws es → Reps B (vs ++ ws) (ds ++ es)
  | _, _, _, _, .nil, s => s
  | _, _, _, _, .cons h r, s => .cons h (Reps.append r s)
theorem Reps.take {B : Hp} : ∀ {vs ds} (n : Nat), Reps B vs ds → Reps B (vs.take n) (ds.take n)
  | _, _, 0, _ => .nil
  | _, _, _ + 1, .nil => .nil
  | _, _, n + 1, .cons h r => .cons h (Reps.take n r)
theorem Reps.drop {B : Hp} : ∀ {vs ds} (n : Nat), Reps B vs ds → Reps B (vs.drop n) (ds.drop n)
  | _, _, 0, r => r
  | _, _, _ + 1, .nil => .nil
  | _, _, n + 1, .cons _ r => Reps.drop n r
theorem Reps.set {B : Hp} {v d} (h : Rep B v d) : ∀ {vs ds} (i : Nat), Reps B vs ds → Reps B (vs.set i v) (ds.set i d)
  | _, _, _, .nil => .nil
  | _, _, 0, .cons _ r => .cons h r
  | _, _, i + 1, .cons q r => .cons q (Reps.set h i r)
theorem Reps.one {B : Hp} {v d} (h : Rep B v d) : Reps B [v] [d] := .cons h .nil
theorem Reps.ints {B : Hp} : ∀ {ns : List Int} {vs}, Reps B vs (ns.map D.int) → vs = ns.map V.int
  | [], _, .nil => rfl
  | _ :: _, _, .cons h r => by
    cases h
    rw [Reps.ints r]
    rfl
theorem Reps.ofInts {B : Hp} : ∀ (ns : List Int), Reps B (ns.map V.int) (ns.map D.int)
  | [] => .nil
  | _ :: r => .cons .int (Reps.ofInts r)
theorem Reps.bls {B : Hp} : ∀ {ns : List Bool} {vs}, Reps B vs (ns.map D.bl) → vs = ns.map V.bl
  | [], _, .nil => rfl
  | _ :: _, _, .cons h r => by
    cases h
    rw [Reps.bls r]
    rfl
theorem Reps.strs {B : Hp} : ∀ {ns : List Str} {vs}, Reps B vs (ns.map D.str) → vs = ns.map V.str
  | [], _, .nil => rfl
  | _ :: _, _, .cons h r => by
    cases h
    rw [Reps.strs r]
    rfl

/-! ### cells -/
inductive Cell where
  | lst (l : List D) | dic (l : List (Int × D)) | ins (c : Addr) (fs : List (Str × D))
abbrev CH := Addr → Option Cell
def updC (C : CH) (a : Addr) (c : Cell) : CH := fun b => if b = a then some c else C b
def delC (C : CH) (a : Addr) : CH := fun b => if b = a then none else C b
theorem updC_same {C : CH} {a : Addr} {c : Cell} : updC C a c a = some c := by unfold updC; rw [if_pos rfl]
theorem updC_ne {C : CH} {a b : Addr} {c : Cell} (h : b ≠ a) : updC C a c b = C b := by unfold updC; rw [if_neg h]
theorem updC_updC {C : CH} {a : Addr} {c c' : Cell} : updC (updC C a c) a c' = updC C a c' := by
  funext b
  unfold updC
  by_cases h : b = a
  · simp [h]
  · simp [h]
theorem delC_updC {C : CH} {a : Addr} {c : Cell} (h : C a = none) : delC (updC C a c) a = C := by
  funext b
  unfold delC updC
  by_cases e : b = a
  · subst e; simp [h]
  · simp [e]
inductive RepO (B : Hp) : HO → Cell → Prop
  | lst {vs ds} : Reps B vs ds → RepO B (.lst vs) (.lst ds)
  | dic {vs ds} : RepK B vs ds → RepO B (.dK vs) (.dic ds)
  | ins {c dx fs gs} : RepF B fs gs → RepO B (.ins c dx fs) (.ins c gs)
theorem RepO.mono {B B' : Hp} (e : Same B B') {o c} (h : RepO B o c) : RepO B' o c := by
  cases h with
  | lst r => exact .lst (r.mono e)
  | dic r => exact .dic (r.mono e)
  | ins r => exact .ins (r.mono e)

structure Rel (B : Hp) (C : CH) (F H : Hp) : Prop where
  ex : Same B H
  fr : Same F H
  bf : ∀ a o, F a = some o → B a = none
  cf : ∀ a o, F a = some o → C a = none
  bc : ∀ a c, C a = some c → B a = none
  own : ∀ a c, C a = some c → ∃ o, H a = some o ∧ RepO B o c

theorem same_upd {B : Hp} {p : Addr} {o : HO} (h : B p = none) : Same B (upd B p o) := fun b u q => by
  rw [upd_ne (ne_of_none q h)]; exact q
section
variable {B F H : Hp} {C : CH} {p a : Addr} {o : HO} {c : Cell}
theorem Rel.noB (r : Rel B C F H) (h : H p = none) : B p = none := r.ex.free h
theorem Rel.noC (r : Rel B C F H) (h : H p = none) : C p = none := by
  cases e : C p with
  | none => rfl
  | some c =>
    obtain ⟨o, h1, _⟩ := r.own p c e
    rw [h] at h1
    cases h1
theorem Rel.noF (r : Rel B C F H) (h : H p = none) : F p = none := r.fr.free h
theorem Rel.new (r : Rel B C F H) (h : H p = none) : Rel (upd B p o) C F (upd H p o) where
  ex := fun b u q => by
    by_cases e : b = p
    · subst e; rw [upd_same] at q ⊢; exact q
    · rw [upd_ne e] at q ⊢; exact r.ex b u q
  fr := fun b u q => by
    rw [upd_ne (ne_of_none (r.fr b u q) h)]; exact r.fr b u q
  bf := fun b u q => by
    rw [upd_ne (ne_of_none q (r.noF h))]; exact r.bf b u q
  cf := r.cf
  bc := fun b u q => by
    have n : b ≠ p := fun e => by subst e; rw [r.noC h] at q; cases q
    rw [upd_ne n]; exact r.bc b u q
  own := fun b u q => by
    obtain ⟨o', h1, h2⟩ := r.own b u q
    exact ⟨o', by rw [upd_ne (ne_of_none h1 h)]; exact h1, h2.mono (same_upd (r.noB h))⟩
theorem Rel.newC (r : Rel B C F H) (h : H p = none) (k : RepO B o c) : Rel B (updC C p c) F (upd H p o) where
  ex := fun b u q => by rw [upd_ne (ne_of_none (r.ex b u q) h)]; exact r.ex b u q
  fr := fun b u q => by rw [upd_ne (ne_of_none (r.fr b u q) h)]; exact r.fr b u q
  bf := r.bf
  cf := fun b u q => by rw [updC_ne (ne_of_none q (r.noF h))]; exact r.cf b u q
  bc := fun b u q => by
    by_cases e : b = p
    · subst e; exact r.noB h
    · rw [updC_ne e] at q; exact r.bc b u q
  own := fun b u q => by
    by_cases e : b = p
    · subst e; rw [updC_same] at q; cases q; exact ⟨o, upd_same, k⟩
    · rw [updC_ne e] at q
      obtain ⟨o', h1, h2⟩ := r.own b u q
      exact ⟨o', by rw [upd_ne e]; exact h1, h2⟩
theorem Rel.write (r : Rel B C F H) {c0 : Cell} (h : C a = some c0) (k : RepO B o c) : Rel B (updC C a c) F (upd H a o) where
  ex := fun b u q => by
    have n : b ≠ a := fun e => by subst e; rw [r.bc b _ h] at q; cases q
    rw [upd_ne n]; exact r.ex b u q
  fr := fun b u q => by
    have n : b ≠ a := fun e => by subst e; rw [r.cf b _ q] at h; cases h
    rw [upd_ne n]; exact r.fr b u q
  bf := r.bf
  cf := fun b u q => by
    have n : b ≠ a := fun e => by subst e; rw [r.cf b _ q] at h; cases h
    rw [updC_ne n]; exact r.cf b u q
  bc := fun b u q => by
    by_cases e : b = a
    · subst e; exact r.bc b _ h
    · rw [updC_ne e] at q; exact r.bc b u q
  own := fun b u q => by
    by_cases e : b = a
    · subst e; rw [updC_same] at q; cases q; exact ⟨o, upd_same, k⟩
    · rw [updC_ne e] at q
      obtain ⟨o', h1, h2⟩ := r.own b u q
      exact ⟨o', by rw [upd_ne e]; exact h1, h2⟩
theorem Rel.freeze (r : Rel B C F H) (h : C a = some c) (k : H a = some o) : Rel (upd B a o) (delC C a) F H where
  ex := fun b u q => by
    by_cases e : b = a
    · subst e; rw [upd_same] at q; cases q; exact k
    · rw [upd_ne e] at q; exact r.ex b u q
  fr := r.fr
  bf := fun b u q => by
    have n : b ≠ a := fun e => by subst e; rw [r.cf b _ q] at h; cases h
    rw [upd_ne n]; exact r.bf b u q
  cf := fun b u q => by
    unfold delC
    split
    · rfl
    · exact r.cf b u q
  bc := fun b u q => by
    unfold delC at q
    split at q
    · cases q
    · rename_i n
      rw [upd_ne n]; exact r.bc b u q
  own := fun b u q => by
    unfold delC at q
    split at q
    · cases q
    · obtain ⟨o', h1, h2⟩ := r.own b u q
      exact ⟨o', h1, h2.mono (same_upd (r.bc a c h))⟩
/-- a cell that is not to be touched goes into the frame -/
theorem Rel.hide (r : Rel B C F H) (h : C a = some c) (k : H a = some o) : Rel B (delC C a) (upd F a o) H where
  ex := r.ex
  fr := fun b u q => by
    by_cases e : b = a
    · subst e; rw [upd_same] at q; cases q; exact k
    · rw [upd_ne e] at q; exact r.fr b u q
  bf := fun b u q => by
    by_cases e : b = a
    · subst e; exact r.bc b _ h
    · rw [upd_ne e] at q; exact r.bf b u q
  cf := fun b u q => by
    unfold delC
    by_cases e : b = a
    · rw [if_pos e]
    · rw [if_neg e]; rw [upd_ne e] at q; exact r.cf b u q
  bc := fun b u q => by
    unfold delC at q
    split at q
    · cases q
    · exact r.bc b u q
  own := fun b u q => by
    unfold delC at q
    split at q
    · cases q
    · exact r.own b u q
/-- a new object straight into the frame -/
theorem Rel.newF (r : Rel B C F H) (h : H p = none) : Rel B C (upd F p o) (upd H p o) where
  ex := fun b u q => by rw [upd_ne (ne_of_none (r.ex b u q) h)]; exact r.ex b u q
  fr := fun b u q => by
    by_cases e : b = p
    · subst e; rw [upd_same] at q ⊢; exact q
    · rw [upd_ne e] at q ⊢; exact r.fr b u q
  bf := fun b u q => by
    by_cases e : b = p
    · subst e; exact r.noB h
    · rw [upd_ne e] at q; exact r.bf b u q
  cf := fun b u q => by
    by_cases e : b = p
    · subst e; exact r.noC h
    · rw [upd_ne e] at q; exact r.cf b u q
  bc := r.bc
  own := fun b u q => by
    obtain ⟨o', h1, h2⟩ := r.own b u q
    exact ⟨o', by rw [upd_ne (ne_of_none h1 h)]; exact h1, h2⟩
/-- the frame's object at p changes -/
theorem Rel.writeF {o' : HO} (r : Rel B C (upd F p o) H) : Rel B C (upd F p o') (upd H p o') where
  ex := fun b u q => by
    have n : b ≠ p := fun e => by subst e; rw [r.bf b _ upd_same] at q; cases q
    rw [upd_ne n]; exact r.ex b u q
  fr := fun b u q => by
    by_cases e : b = p
    · subst e; rw [upd_same] at q ⊢; exact q
    · rw [upd_ne e] at q ⊢; exact r.fr b u (by rw [upd_ne e]; exact q)
  bf := fun b u q => by
    by_cases e : b = p
    · subst e; exact r.bf b _ upd_same
    · rw [upd_ne e] at q; exact r.bf b u (by rw [upd_ne e]; exact q)
  cf := fun b u q => by
    by_cases e : b = p
    · subst e; exact r.cf b _ upd_same
    · rw [upd_ne e] at q; exact r.cf b u (by rw [upd_ne e]; exact q)
  bc := r.bc
  own := fun b u q => by
    obtain ⟨o2, h1, h2⟩ := r.own b u q
    have n : b ≠ p := fun e => by subst e; rw [r.cf b _ upd_same] at q; cases q
    exact ⟨o2, by rw [upd_ne n]; exact h1, h2⟩
/-- the frame's object at p (new since F) is frozen -/
theorem Rel.freezeF (r : Rel B C (upd F p o) H) (hF : F p = none) : Rel (upd B p o) C F H where
  ex := fun b u q => by
    by_cases e : b = p
    · subst e; rw [upd_same] at q; cases q; exact r.fr b _ upd_same
    · rw [upd_ne e] at q; exact r.ex b u q
  fr := fun b u q => r.fr b u (by rw [upd_ne (ne_of_none q hF)]; exact q)
  bf := fun b u q => by
    have n := ne_of_none q hF
    rw [upd_ne n]; exact r.bf b u (by rw [upd_ne n]; exact q)
  cf := fun b u q => r.cf b u (by rw [upd_ne (ne_of_none q hF)]; exact q)
  bc := fun b u q => by
    have n : b ≠ p := fun e => by subst e; rw [r.cf b _ upd_same] at q; cases q
    rw [upd_ne n]; exact r.bc b u q
  own := fun b u q => by
    obtain ⟨o2, h1, h2⟩ := r.own b u q
    exact ⟨o2, h1, h2.mono (same_upd (r.bf p _ upd_same))⟩
/-- the frame's object at p (new since F) becomes a cell -/
theorem Rel.cellF (r : Rel B C (upd F p o) H) (hF : F p = none) (k : RepO B o c) : Rel B (updC C p c) F H where
  ex := r.ex
  fr := fun b u q => r.fr b u (by rw [upd_ne (ne_of_none q hF)]; exact q)
  bf := fun b u q => r.bf b u (by rw [upd_ne (ne_of_none q hF)]; exact q)
  cf := fun b u q => by
    have n := ne_of_none q hF
    rw [updC_ne n]; exact r.cf b u (by rw [upd_ne n]; exact q)
  bc := fun b u q => by
    by_cases e : b = p
    · subst e; exact r.bf b _ upd_same
    · rw [updC_ne e] at q; exact r.bc b u q
  own := fun b u q => by
    by_cases e : b = p
    · subst e; rw [updC_same] at q; cases q; exact ⟨o, r.fr b _ upd_same, k⟩
    · rw [updC_ne e] at q; exact r.own b u q
end

/-! ### the slots -/
abbrev EnvD := List (Option D)
structure RelE (B : Hp) (σ : St) (E : EnvD) : Prop where
  len : σ.length = E.length
  get : ∀ (i : Nat) (d : D), E[i]? = some (some d) → ∃ v, σ[i]? = some (some v) ∧ Rep B v d
theorem RelE.mono {B B' : Hp} {σ : St} {E : EnvD} (e : Same B B') (r : RelE B σ E) : RelE B' σ E :=
  ⟨r.len, fun i d h => by obtain ⟨v, h1, h2⟩ := r.get i d h; exact ⟨v, h1, h2.mono e⟩⟩
theorem RelE.set {B : Hp} {σ : St} {E : EnvD} {v : V} {d : D} (r : RelE B σ E) (i : Nat) (h : Rep B v d) : RelE B (σ.set i (some v)) (E.set i (some d)) := by
  refine ⟨by rw [List.length_set, List.length_set, r.len], fun j x e => ?_⟩
  by_cases ij : i = j
  · subst ij
    by_cases hl : i < E.length
    · rw [List.getElem?_set_self hl] at e
      cases e
      exact ⟨v, List.getElem?_set_self (by rw [r.len]; exact hl), h⟩
    · rw [List.getElem?_eq_none (by rw [List.length_set]; omega)] at e
      cases e
  · rw [List.getElem?_set_ne ij] at e ⊢
    exact r.get j x e
theorem RelE.unset {B : Hp} {σ : St} {E : EnvD} (r : RelE B σ E) (i : Nat) : RelE B (σ.set i none) (E.set i none) := by
  refine ⟨by rw [List.length_set, List.length_set, r.len], fun j x e => ?_⟩
  by_cases ij : i = j
  · subst ij
    by_cases hl : i < E.length
    · rw [List.getElem?_set_self hl] at e; cases e
    · rw [List.getElem?_eq_none (by rw [List.length_set]; omega)] at e; cases e
  · rw [List.getElem?_set_ne ij] at e ⊢
    exact r.get j x e
/-- fewer slots told -/
theorem RelE.less {B : Hp} {σ : St} {E E' : EnvD} (r : RelE B σ E) (hl : E'.length = E.length) (h : ∀ (i : Nat) (d : D), E'[i]? = some (some d) → E[i]? = some (some d)) : RelE B σ E' :=
  ⟨by rw [r.len, hl], fun i d e => r.get i d (h i d e)⟩
def startD (n : Nat) (ds : List D) : EnvD := ds.map some ++ List.replicate (n - ds.length) none
theorem RelE.begin {B : Hp} {N : List Str} {vs : List V} {ds : List D} (h : Reps B vs ds) : RelE B (L2.start N vs) (startD N.length ds) := by
  have hl := h.length
  refine ⟨by simp [L2.start, startD, hl], fun i d e => ?_⟩
  unfold startD at e
  unfold L2.start
  by_cases hi : i < ds.length
  · rw [List.getElem?_append_left (by simpa using hi), List.getElem?_map] at e
    cases q : ds[i]? with
    | none => rw [q] at e; cases e
    | some x =>
      rw [q] at e
      have ex : x = d := by simpa using e
      subst ex
      obtain ⟨v, h1, h2⟩ := h.get q
      exact ⟨v, by rw [List.getElem?_append_left (by simpa [hl] using hi), List.getElem?_map, h1]; rfl, h2⟩
  · rw [List.getElem?_append_right (by simp; omega), List.getElem?_replicate] at e
    split at e <;> cases e

/-! ### the judgements -/
def W (B0 : Hp) (te : TE) (E : EnvD) (C : CH) (P : D → CH → Prop) : Prop :=
  ∀ (B F : Hp) (σ : St) (H : Hp), Same B0 B → Rel B C F H → RelE B σ E → ∀ Q : VK,
    (∀ v d B' C' H', Same B B' → Rel B' C' F H' → Rep B' v d → P d C' → Q v H') → te σ H Q
def WT (B0 : Hp) (tt : TT) (E : EnvD) (C : CH) (P : Bool → CH → Prop) : Prop :=
  ∀ (B F : Hp) (σ : St) (H : Hp), Same B0 B → Rel B C F H → RelE B σ E → ∀ Q : Bool → Hp → Prop,
    (∀ b B' C' H', Same B B' → Rel B' C' F H' → P b C' → Q b H') → tt σ H Q
def WA (B0 : Hp) (ta : TA) (E : EnvD) (C : CH) (P : List D → CH → Prop) : Prop :=
  ∀ (B F : Hp) (σ : St) (H : Hp), Same B0 B → Rel B C F H → RelE B σ E → ∀ Q : List V → Hp → Prop,
    (∀ vs ds B' C' H', Same B B' → Rel B' C' F H' → Reps B' vs ds → P ds C' → Q vs H') → ta σ H Q
def WR (B0 : Hp) (r : R2) (x y : D) (C : CH) (P : D → CH → Prop) : Prop :=
  ∀ (B F H : Hp) (vx vy : V), Same B0 B → Rel B C F H → Rep B vx x → Rep B vy y → ∀ Q : VK,
    (∀ v d B' C' H', Same B B' → Rel B' C' F H' → Rep B' v d → P d C' → Q v H') → r vx vy H Q
def WU (B0 : Hp) (r : V → Hp → VK → Prop) (x : D) (C : CH) (P : D → CH → Prop) : Prop :=
  ∀ (B F H : Hp) (vx : V), Same B0 B → Rel B C F H → Rep B vx x → ∀ Q : VK,
    (∀ v d B' C' H', Same B B' → Rel B' C' F H' → Rep B' v d → P d C' → Q v H') → r vx H Q
def WC (B0 : Hp) (r : List V → Hp → VK → Prop) (ds : List D) (C : CH) (P : D → CH → Prop) : Prop :=
  ∀ (B F H : Hp) (vs : List V), Same B0 B → Rel B C F H → Reps B vs ds → ∀ Q : VK,
    (∀ v d B' C' H', Same B B' → Rel B' C' F H' → Rep B' v d → P d C' → Q v H') → r vs H Q
def WG (B0 : Hp) (g : TG) (d : D) (E : EnvD) (C : CH) (N : EnvD → CH → Prop) : Prop :=
  ∀ (B F : Hp) (σ : St) (H : Hp) (v : V), Same B0 B → Rel B C F H → RelE B σ E → Rep B v d → ∀ Q : St → Hp → Prop,
    (∀ σ' E' B' C' H', Same B B' → Rel B' C' F H' → RelE B' σ' E' → N E' C' → Q σ' H') → g v σ H Q
def WGs (B0 : Hp) (g : TGs) (ds : List D) (E : EnvD) (C : CH) (N : EnvD → CH → Prop) : Prop :=
  ∀ (B F : Hp) (σ : St) (H : Hp) (vs : List V), Same B0 B → Rel B C F H → RelE B σ E → Reps B vs ds → ∀ Q : St → Hp → Prop,
    (∀ σ' E' B' C' H', Same B B' → Rel B' C' F H' → RelE B' σ' E' → N E' C' → Q σ' H') → g vs σ H Q
structure EndD where
  nx : EnvD → CH → Prop
  rt : D → CH → Prop
  bk : EnvD → CH → Prop := fun _ _ => False
  ct : EnvD → CH → Prop := fun _ _ => False
structure EOk (B F : Hp) (Dn : Ends) (D : EndD) : Prop where
  nx : ∀ σ' E' B' C' H', Same B B' → Rel B' C' F H' → RelE B' σ' E' → D.nx E' C' → Dn.nx σ' H'
  rt : ∀ v d B' C' H', Same B B' → Rel B' C' F H' → Rep B' v d → D.rt d C' → Dn.rt v H'
  bk : ∀ σ' E' B' C' H', Same B B' → Rel B' C' F H' → RelE B' σ' E' → D.bk E' C' → Dn.bk σ' H'
  ct : ∀ σ' E' B' C' H', Same B B' → Rel B' C' F H' → RelE B' σ' E' → D.ct E' C' → Dn.ct σ' H'
theorem EOk.mono {B B1 F : Hp} {Dn : Ends} {D : EndD} (o : EOk B F Dn D) (e : Same B B1) : EOk B1 F Dn D :=
  ⟨fun σ' E' B' C' H' s => o.nx σ' E' B' C' H' (e.trans s), fun v d B' C' H' s => o.rt v d B' C' H' (e.trans s),
   fun σ' E' B' C' H' s => o.bk σ' E' B' C' H' (e.trans s), fun σ' E' B' C' H' s => o.ct σ' E' B' C' H' (e.trans s)⟩
def WS (B0 : Hp) (t : TS) (E : EnvD) (C : CH) (D : EndD) : Prop :=
  ∀ (B F : Hp) (σ : St) (H : Hp), Same B0 B → Rel B C F H → RelE B σ E → ∀ Dn : Ends, EOk B F Dn D → t Dn σ H

section
variable {B0 : Hp} {te ta tb : TE} {t u tt tu : TT} {tA : TA} {E : EnvD} {C : CH} {P : D → CH → Prop} {PB : Bool → CH → Prop} {PA' : List D → CH → Prop} {x y d : D} {r : R2}

theorem W.imp {P' : D → CH → Prop} (h : W B0 te E C P) (k : ∀ d C, P d C → P' d C) : W B0 te E C P' :=
  fun B F σ H sb rl re Q q => h B F σ H sb rl re Q fun v d B' C' H' e r' rp p => q v d B' C' H' e r' rp (k d C' p)
theorem WS.imp {t : TS} {D D' : EndD} (h : WS B0 t E C D) (k1 : ∀ E C, D.nx E C → D'.nx E C) (k2 : ∀ d C, D.rt d C → D'.rt d C) (k3 : ∀ E C, D.bk E C → D'.bk E C) (k4 : ∀ E C, D.ct E C → D'.ct E C) : WS B0 t E C D' :=
  fun B F σ H sb rl re Dn ok => h B F σ H sb rl re Dn
    ⟨fun σ' E' B' C' H' e r' re' n => ok.nx σ' E' B' C' H' e r' re' (k1 _ _ n), fun v d B' C' H' e r' rp p => ok.rt v d B' C' H' e r' rp (k2 _ _ p),
     fun σ' E' B' C' H' e r' re' n => ok.bk σ' E' B' C' H' e r' re' (k3 _ _ n), fun σ' E' B' C' H' e r' re' n => ok.ct σ' E' B' C' H' e r' re' (k4 _ _ n)⟩

/-! ### expressions -/
theorem w_var {i : Nat} (h : E[i]? = some (some d)) (k : P d C) : W B0 (tVar i) E C P := fun B F σ H _ rl re Q q => by
  obtain ⟨v, h1, h2⟩ := re.get i d h
  exact ⟨v, h1, q v d B C H (Same.refl B) rl h2 k⟩
theorem w_int {i : Int} (k : P (.int i) C) : W B0 (tC (.int i)) E C P := fun B _ _ H _ rl _ _ q => q _ _ B C H (Same.refl B) rl .int k
theorem w_bl {i : Bool} (k : P (.bl i) C) : W B0 (tC (.bl i)) E C P := fun B _ _ H _ rl _ _ q => q _ _ B C H (Same.refl B) rl .bl k
theorem w_str {i : Str} (k : P (.str i) C) : W B0 (tC (.str i)) E C P := fun B _ _ H _ rl _ _ q => q _ _ B C H (Same.refl B) rl .str k
theorem w_non (k : P .non C) : W B0 (tC .non) E C P := fun B _ _ H _ rl _ _ q => q _ _ B C H (Same.refl B) rl .non k
theorem w_ref {a : Addr} (k : P (.ref a) C) : W B0 (tC (.ref a)) E C P := fun B _ _ H _ rl _ _ q => q _ _ B C H (Same.refl B) rl .ref k
theorem w_ty {n : String} (k : P (.ty n) C) : W B0 (tC (.ty n)) E C P := fun B _ _ H _ rl _ _ q => q _ _ B C H (Same.refl B) rl .ty k
theorem w_op (h : W B0 ta E C fun x C1 => W B0 tb E C1 fun y C2 => WR B0 r x y C2 P) : W B0 (tOp r ta tb) E C P := fun B F σ H sb rl re Q q =>
  h B F σ H sb rl re _ fun v1 d1 B1 C1 H1 e1 rl1 rp1 h1 =>
    h1 B1 F σ H1 (sb.trans e1) rl1 (re.mono e1) _ fun v2 d2 B2 C2 H2 e2 rl2 rp2 h2 =>
      h2 B2 F H2 v1 v2 ((sb.trans e1).trans e2) rl2 (rp1.mono e2) rp2 Q fun v d B3 C3 H3 e3 rl3 rp3 p => q v d B3 C3 H3 ((e1.trans e2).trans e3) rl3 rp3 p
theorem w_un {r : V → Hp → VK → Prop} (h : W B0 ta E C fun x C1 => WU B0 r x C1 P) : W B0 (tUn r ta) E C P := fun B F σ H sb rl re Q q =>
  h B F σ H sb rl re _ fun v1 d1 B1 C1 H1 e1 rl1 rp1 h1 => h1 B1 F H1 v1 (sb.trans e1) rl1 rp1 Q fun v d B3 C3 H3 e3 rl3 rp3 p => q v d B3 C3 H3 (e1.trans e3) rl3 rp3 p
theorem w_cb {r : List V → Hp → VK → Prop} (h : WA B0 tA E C fun ds C1 => WC B0 r ds C1 P) : W B0 (tCB r tA) E C P := fun B F σ H sb rl re Q q =>
  h B F σ H sb rl re _ fun v1 d1 B1 C1 H1 e1 rl1 rp1 h1 => h1 B1 F H1 v1 (sb.trans e1) rl1 rp1 Q fun v d B3 C3 H3 e3 rl3 rp3 p => q v d B3 C3 H3 (e1.trans e3) rl3 rp3 p
theorem wa_nil (k : PA' [] C) : WA B0 tNil E C PA' := fun B _ _ H _ rl _ _ q => q _ _ B C H (Same.refl B) rl .nil k
theorem wa_cons (h : W B0 ta E C fun x C1 => WA B0 tA E C1 fun xs C2 => PA' (x :: xs) C2) : WA B0 (tCons ta tA) E C PA' := fun B F σ H sb rl re Q q =>
  h B F σ H sb rl re _ fun v1 d1 B1 C1 H1 e1 rl1 rp1 h1 => h1 B1 F σ H1 (sb.trans e1) rl1 (re.mono e1) _ fun vs ds B3 C3 H3 e3 rl3 rp3 p => q _ _ B3 C3 H3 (e1.trans e3) rl3 (.cons (rp1.mono e3) rp3) p
theorem w_tup (h : WA B0 tA E C fun ds C1 => ds.length ≤ 100000 ∧ P (.tup ds) C1) : W B0 (tTup tA) E C P := fun B F σ H sb rl re Q q =>
  h B F σ H sb rl re _ fun vs ds B1 C1 H1 e1 rl1 rp1 ⟨hl, p⟩ => ⟨by rw [rp1.length]; exact Nat.le_trans hl (by decide), fun a ha => by
    have s := same_upd (o := .tup vs) (rl1.noB ha)
    exact q _ _ _ C1 _ (e1.trans s) (rl1.new ha) (.tup upd_same (rp1.mono s)) p⟩
theorem w_lst (h : WA B0 tA E C fun ds C1 => ds.length ≤ 100000 ∧ P (.lst ds) C1) : W B0 (tLst tA) E C P := fun B F σ H sb rl re Q q =>
  h B F σ H sb rl re _ fun vs ds B1 C1 H1 e1 rl1 rp1 ⟨hl, p⟩ => ⟨by rw [rp1.length]; exact Nat.le_trans hl (by decide), fun a ha => by
    have s := same_upd (o := .lst vs) (rl1.noB ha)
    exact q _ _ _ C1 _ (e1.trans s) (rl1.new ha) (.lst upd_same (rp1.mono s)) p⟩
/-- a list that is to change: a cell -/
theorem w_lstC (h : WA B0 tA E C fun ds C1 => ds.length ≤ 100000 ∧ ∀ a, C1 a = none → P (.ref a) (updC C1 a (.lst ds))) : W B0 (tLst tA) E C P := fun B F σ H sb rl re Q q =>
  h B F σ H sb rl re _ fun vs ds B1 C1 H1 e1 rl1 rp1 ⟨hl, p⟩ => ⟨by rw [rp1.length]; exact Nat.le_trans hl (by decide), fun a ha =>
    q _ _ B1 _ _ e1 (rl1.newC ha (.lst rp1)) .ref (p a (rl1.noC ha))⟩
theorem w_ifExp (h : WT B0 t E C fun b C1 => (b = true → W B0 ta E C1 P) ∧ (b = false → W B0 tb E C1 P)) : W B0 (tIf t ta tb) E C P := fun B F σ H sb rl re Q q =>
  h B F σ H sb rl re _ fun b B1 C1 H1 e1 rl1 p => by
    cases b with
    | true => exact p.1 rfl B1 F σ H1 (sb.trans e1) rl1 (re.mono e1) Q fun v d B3 C3 H3 e3 => q v d B3 C3 H3 (e1.trans e3)
    | false => exact p.2 rfl B1 F σ H1 (sb.trans e1) rl1 (re.mono e1) Q fun v d B3 C3 H3 e3 => q v d B3 C3 H3 (e1.trans e3)
theorem w_andV (h : W B0 ta E C fun x C1 => ∃ b, x = .bl b ∧ (b = true → W B0 tb E C1 P) ∧ (b = false → P (.bl false) C1)) : W B0 (tAndV ta tb) E C P := fun B F σ H sb rl re Q q =>
  h B F σ H sb rl re _ fun v d B1 C1 H1 e1 rl1 rp ⟨b, hb, p1, p2⟩ => by
    subst hb
    cases rp
    refine ⟨b, rfl, ?_⟩
    cases b with
    | true => exact p1 rfl B1 F σ H1 (sb.trans e1) rl1 (re.mono e1) Q fun v d B3 C3 H3 e3 => q v d B3 C3 H3 (e1.trans e3)
    | false => exact q _ _ B1 C1 H1 e1 rl1 .bl (p2 rfl)
theorem w_orV (h : W B0 ta E C fun x C1 => ∃ b, x = .bl b ∧ (b = true → P (.bl true) C1) ∧ (b = false → W B0 tb E C1 P)) : W B0 (tOrV ta tb) E C P := fun B F σ H sb rl re Q q =>
  h B F σ H sb rl re _ fun v d B1 C1 H1 e1 rl1 rp ⟨b, hb, p1, p2⟩ => by
    subst hb
    cases rp
    refine ⟨b, rfl, ?_⟩
    cases b with
    | true => exact q _ _ B1 C1 H1 e1 rl1 .bl (p1 rfl)
    | false => exact p2 rfl B1 F σ H1 (sb.trans e1) rl1 (re.mono e1) Q fun v d B3 C3 H3 e3 => q v d B3 C3 H3 (e1.trans e3)
theorem w_notV (h : W B0 ta E C fun x C1 => ∃ b, x = .bl b ∧ P (.bl (!b)) C1) : W B0 (tNotV ta) E C P := fun B F σ H sb rl re Q q =>
  h B F σ H sb rl re _ fun v d B1 C1 H1 e1 rl1 rp ⟨b, hb, p1⟩ => by
    subst hb
    cases rp
    exact ⟨b, rfl, q _ _ B1 C1 H1 e1 rl1 .bl p1⟩

/-! ### tests -/
theorem wt_test (h : W B0 te E C fun x C1 => ∃ b, x = .bl b ∧ PB b C1) : WT B0 (tTest te) E C PB := fun B F σ H sb rl re Q q =>
  h B F σ H sb rl re _ fun v d B1 C1 H1 e1 rl1 rp ⟨b, hb, p1⟩ => by
    subst hb
    cases rp
    exact ⟨b, rfl, q _ B1 C1 H1 e1 rl1 p1⟩
theorem wt_B (h : W B0 te E C fun x C1 => ∃ b, x = .bl b ∧ PB b C1) : WT B0 (tB te) E C PB := fun B F σ H sb rl re Q q =>
  h B F σ H sb rl re _ fun v d B1 C1 H1 e1 rl1 rp ⟨b, hb, p1⟩ => by
    subst hb
    cases rp
    exact ⟨b, rfl, q _ B1 C1 H1 e1 rl1 p1⟩
theorem wt_and (h : WT B0 t E C fun b C1 => (b = true → WT B0 u E C1 PB) ∧ (b = false → PB false C1)) : WT B0 (tAnd t u) E C PB := fun B F σ H sb rl re Q q =>
  h B F σ H sb rl re _ fun b B1 C1 H1 e1 rl1 p => by
    cases b with
    | true => exact p.1 rfl B1 F σ H1 (sb.trans e1) rl1 (re.mono e1) Q fun b B3 C3 H3 e3 => q b B3 C3 H3 (e1.trans e3)
    | false => exact q _ B1 C1 H1 e1 rl1 (p.2 rfl)
theorem wt_or (h : WT B0 t E C fun b C1 => (b = true → PB true C1) ∧ (b = false → WT B0 u E C1 PB)) : WT B0 (tOr t u) E C PB := fun B F σ H sb rl re Q q =>
  h B F σ H sb rl re _ fun b B1 C1 H1 e1 rl1 p => by
    cases b with
    | true => exact q _ B1 C1 H1 e1 rl1 (p.1 rfl)
    | false => exact p.2 rfl B1 F σ H1 (sb.trans e1) rl1 (re.mono e1) Q fun b B3 C3 H3 e3 => q b B3 C3 H3 (e1.trans e3)
theorem wt_not (h : WT B0 t E C fun b C1 => PB (!b) C1) : WT B0 (tNot t) E C PB := fun B F σ H sb rl re Q q =>
  h B F σ H sb rl re _ fun b B1 C1 H1 e1 rl1 p => q _ B1 C1 H1 e1 rl1 p
/-- a value's truth -/
def TruD (C : CH) : D → Option Bool
  | .non => some false
  | .bl b => some b
  | .int i => some (i != 0)
  | .tup l => some (!l.isEmpty)
  | .lst l => some (!l.isEmpty)
  | .dic l => some (!l.isEmpty)
  | .str x => if x.length ≤ 1000000 then some ((x.length : Int) != 0) else none
  | .ty _ => none
  | .ref a => match C a with
    | some (.lst l) => some (!l.isEmpty)
    | some (.dic l) => some (!l.isEmpty)
    | _ => none
theorem reps_emp {B : Hp} {vs : List V} {ds : List D} (h : Reps B vs ds) : (!ds.isEmpty) = !vs.isEmpty := by cases h <;> rfl
theorem repk_emp {B : Hp} {vs : List (Key × V)} {ds : List (Int × D)} (h : RepK B vs ds) : (!ds.isEmpty) = !vs.isEmpty := by cases h <;> rfl
theorem truD_ok {B F H : Hp} {C : CH} {K : PySem.W.Frag} {v : V} {d : D} {b : Bool} (rl : Rel B C F H) (h : Rep B v d) (e : TruD C d = some b) : TruV K v H b := by
  cases h with
  | non => cases e; rfl
  | bl => cases e; rfl
  | int => cases e; rfl
  | ty => cases e
  | @str x =>
    have e : (if x.length ≤ 1000000 then some ((x.length : Int) != 0) else none) = some b := e
    by_cases hl : x.length ≤ 1000000
    · rw [if_pos hl] at e
      cases e
      exact ⟨Nat.le_trans hl (by decide : 1000000 ≤ sizeLine), rfl⟩
    · rw [if_neg hl] at e
      cases e
  | tup h r => cases e; exact .inr (.inl ⟨_, SqT.of (rl.ex _ _ h), reps_emp r⟩)
  | lst h r => cases e; exact .inl ⟨_, SqL.of (rl.ex _ _ h), reps_emp r⟩
  | dic h r => cases e; exact .inr (.inr ⟨_, rl.ex _ _ h, repk_emp r⟩)
  | @ref a =>
    have e : (match C a with
      | some (.lst l) => some (!l.isEmpty)
      | some (.dic l) => some (!l.isEmpty)
      | _ => none) = some b := e
    split at e
    · rename_i l hc
      cases e
      obtain ⟨o, h1, h2⟩ := rl.own _ _ hc
      cases h2 with
      | lst r => exact .inl ⟨_, SqL.of h1, reps_emp r⟩
    · rename_i l hc
      cases e
      obtain ⟨o, h1, h2⟩ := rl.own _ _ hc
      cases h2 with
      | dic r => exact .inr (.inr ⟨_, h1, repk_emp r⟩)
    · cases e
/-- a test that is a value's truth, named -/
def tTruth (K : PySem.W.Frag) (ta : TE) : TT := fun σ H Q => ta σ H fun x H' => ∃ k, TruV K x H' k ∧ Q k H'
theorem wt_truth {K : PySem.W.Frag} (h : W B0 te E C fun x C1 => ∃ b, TruD C1 x = some b ∧ PB b C1) : WT B0 (tTruth K te) E C PB := fun B F σ H sb rl re Q q =>
  h B F σ H sb rl re _ fun v d B1 C1 H1 e1 rl1 rp ⟨b, hb, p1⟩ => ⟨b, truD_ok rl1 rp hb, q _ B1 C1 H1 e1 rl1 p1⟩

/-! ### targets -/
variable {N : EnvD → CH → Prop}
theorem wg_name {i : Nat} (k : N (E.set i (some d)) C) : WG B0 (gName i) d E C N := fun B F σ H v _ rl re rp Q q => q _ _ B C H (Same.refl B) rl (re.set i rp) k
theorem wgs_nil (k : N E C) : WGs B0 gNil [] E C N := fun B F σ H vs _ rl re rp Q q => by
  cases rp
  exact ⟨rfl, q _ _ B C H (Same.refl B) rl re k⟩
theorem wgs_cons {g : TG} {gs : TGs} {ds : List D} (h : WG B0 g d E C fun E1 C1 => WGs B0 gs ds E1 C1 N) : WGs B0 (gCons g gs) (d :: ds) E C N := fun B F σ H vs sb rl re rp Q q => by
  cases rp with
  | cons h1 r =>
    exact ⟨_, _, rfl, h B F σ H _ sb rl re h1 _ fun σ1 E1 B1 C1 H1 e1 rl1 re1 n1 => n1 B1 F σ1 H1 _ (sb.trans e1) rl1 re1 (r.mono e1) Q fun σ' E' B' C' H' e => q σ' E' B' C' H' (e1.trans e)⟩
theorem wg_tup {K : PySem.W.Frag} {n : Nat} {gs : TGs} {ds : List D} (hl : ds.length = n) (h : WGs B0 gs ds E C N) : WG B0 (gTup K n gs) (.tup ds) E C N := fun B F σ H v sb rl re rp Q q => by
  cases rp with
  | tup ha r => exact ⟨_, _, rfl, SqT.of (rl.ex _ _ ha), by rw [r.length]; exact hl, h B F σ H _ sb rl re r Q q⟩

/-! ### statements -/
variable {D1 : EndD} {s1 s2 : TS}
theorem ws_next (k : D1.nx E C) : WS B0 tNext E C D1 := fun B F σ H _ rl re Dn ok => ok.nx σ E B C H (Same.refl B) rl re k
theorem ws_break (k : D1.bk E C) : WS B0 tBreak E C D1 := fun B F σ H _ rl re Dn ok => ok.bk σ E B C H (Same.refl B) rl re k
theorem ws_cont (k : D1.ct E C) : WS B0 tCont E C D1 := fun B F σ H _ rl re Dn ok => ok.ct σ E B C H (Same.refl B) rl re k
theorem ws_seq (h : WS B0 s1 E C { D1 with nx := fun E1 C1 => WS B0 s2 E1 C1 D1 }) : WS B0 (tSeq s1 s2) E C D1 := fun B F σ H sb rl re Dn ok =>
  h B F σ H sb rl re _ ⟨fun σ' E' B' C' H' e rl' re' n => n B' F σ' H' (sb.trans e) rl' re' Dn (ok.mono e), ok.rt, ok.bk, ok.ct⟩
theorem ws_asg {g : TG} (h : W B0 te E C fun d C1 => WG B0 g d E C1 D1.nx) : WS B0 (tAsg te g) E C D1 := fun B F σ H sb rl re Dn ok =>
  h B F σ H sb rl re _ fun v d B1 C1 H1 e1 rl1 rp n => n B1 F σ H1 v (sb.trans e1) rl1 (re.mono e1) rp _ fun σ' E' B' C' H' e rl' re' k => ok.nx σ' E' B' C' H' (e1.trans e) rl' re' k
theorem ws_set {i : Nat} (h : W B0 te E C fun d C1 => D1.nx (E.set i (some d)) C1) : WS B0 (tAsg te (gName i)) E C D1 := ws_asg (h.imp fun _ _ k => wg_name k)
theorem ws_drop (h : W B0 te E C fun _ C1 => D1.nx E C1) : WS B0 (tDrop te) E C D1 := fun B F σ H sb rl re Dn ok =>
  h B F σ H sb rl re _ fun v d B1 C1 H1 e1 rl1 rp n => ok.nx σ E B1 C1 H1 e1 rl1 (re.mono e1) n
theorem ws_ret (h : W B0 te E C D1.rt) : WS B0 (tRet te) E C D1 := fun B F σ H sb rl re Dn ok =>
  h B F σ H sb rl re _ fun v d B1 C1 H1 e1 rl1 rp n => ok.rt v d B1 C1 H1 e1 rl1 rp n
theorem ws_retN (h : D1.rt .non C) : WS B0 tRetN E C D1 := fun B F σ H sb rl re Dn ok => ok.rt .non .non B C H (Same.refl B) rl .non h
theorem ws_if {c : TT} (h : WT B0 c E C fun b C1 => (b = true → WS B0 s1 E C1 D1) ∧ (b = false → WS B0 s2 E C1 D1)) : WS B0 (tIfS c s1 s2) E C D1 := fun B F σ H sb rl re Dn ok =>
  h B F σ H sb rl re _ fun b B1 C1 H1 e1 rl1 p => by
    cases b with
    | true => exact p.1 rfl B1 F σ H1 (sb.trans e1) rl1 (re.mono e1) Dn (ok.mono e1)
    | false => exact p.2 rfl B1 F σ H1 (sb.trans e1) rl1 (re.mono e1) Dn (ok.mono e1)
theorem ws_aug {i : Nat} {ti : TIp} (hx : E[i]? = some (some x)) (h : W B0 te E C fun y C1 => WR B0 (fun a b H Q => ti a b H Q) x y C1 fun z C2 => D1.nx (E.set i (some z)) C2) : WS B0 (tAug i te ti) E C D1 := fun B F σ H sb rl re Dn ok => by
  obtain ⟨v, h1, h2⟩ := re.get i x hx
  exact ⟨v, h1, h B F σ H sb rl re _ fun w d B1 C1 H1 e1 rl1 rp n => n B1 F H1 v w (sb.trans e1) rl1 (h2.mono e1) rp _ fun z d' B2 C2 H2 e2 rl2 rp2 k =>
    ok.nx _ _ B2 C2 H2 (e1.trans e2) rl2 ((re.mono (e1.trans e2)).set i rp2) k⟩
theorem ws_never (h : False) : WS B0 tNever E C D1 := h.elim
end
end Dv

set_option maxRecDepth 100000
set_option maxHeartbeats 1000000
/-! Operations by values, loops, comprehensions, calls. -/
namespace Dv
open PySem L2

/-! ### reading what stands there -/
section
variable {B F H : Hp} {C : CH} {K : PySem.W.Frag} {v : V} {d : D} {ds : List D} {ks : List (Int × D)}
/-- d is a list or a tuple of ds (frozen, or a list in a cell) -/
inductive SeqD (C : CH) : D → List D → Prop
  | lst {ds : List D} : SeqD C (.lst ds) ds
  | tup {ds : List D} : SeqD C (.tup ds) ds
  | cell {a : Addr} {ds : List D} : C a = some (.lst ds) → SeqD C (.ref a) ds
inductive LstD (C : CH) : D → List D → Prop
  | lst {ds : List D} : LstD C (.lst ds) ds
  | cell {a : Addr} {ds : List D} : C a = some (.lst ds) → LstD C (.ref a) ds
theorem lstD_rd (rl : Rel B C F H) (h : Rep B v d) (s : LstD C d ds) : ∃ a vs, v = .ref a ∧ H a = some (.lst vs) ∧ Reps B vs ds := by
  cases s with
  | lst => cases h with | lst h r => exact ⟨_, _, rfl, rl.ex _ _ h, r⟩
  | cell hc =>
    cases h
    obtain ⟨o, h1, h2⟩ := rl.own _ _ hc
    cases h2 with | lst r => exact ⟨_, _, rfl, h1, r⟩
theorem tupD_rd (rl : Rel B C F H) (h : Rep B v (.tup ds)) : ∃ a vs, v = .ref a ∧ H a = some (.tup vs) ∧ Reps B vs ds := by
  cases h with | tup h r => exact ⟨_, _, rfl, rl.ex _ _ h, r⟩
theorem seqD_rd (rl : Rel B C F H) (h : Rep B v d) (s : SeqD C d ds) : ∃ a vs, v = .ref a ∧ (SqL K H a vs ∨ SqT K H a vs) ∧ Reps B vs ds := by
  cases s with
  | lst => obtain ⟨a, vs, e, h1, r⟩ := lstD_rd rl h .lst; exact ⟨a, vs, e, .inl (SqL.of h1), r⟩
  | tup => obtain ⟨a, vs, e, h1, r⟩ := tupD_rd rl h; exact ⟨a, vs, e, .inr (SqT.of h1), r⟩
  | cell hc => obtain ⟨a, vs, e, h1, r⟩ := lstD_rd rl h (.cell hc); exact ⟨a, vs, e, .inl (SqL.of h1), r⟩
theorem seqD_rd' (rl : Rel B C F H) (h : Rep B v d) (s : SeqD C d ds) : ∃ a vs, v = .ref a ∧ (H a = some (.lst vs) ∨ H a = some (.tup vs)) ∧ Reps B vs ds := by
  cases s with
  | lst => obtain ⟨a, vs, e, h1, r⟩ := lstD_rd rl h .lst; exact ⟨a, vs, e, .inl h1, r⟩
  | tup => obtain ⟨a, vs, e, h1, r⟩ := tupD_rd rl h; exact ⟨a, vs, e, .inr h1, r⟩
  | cell hc => obtain ⟨a, vs, e, h1, r⟩ := lstD_rd rl h (.cell hc); exact ⟨a, vs, e, .inl h1, r⟩
/-- a dict: frozen or a cell -/
inductive DicD (C : CH) : D → List (Int × D) → Prop
  | dic {ks : List (Int × D)} : DicD C (.dic ks) ks
  | cell {a : Addr} {ks : List (Int × D)} : C a = some (.dic ks) → DicD C (.ref a) ks
theorem dicD_rd (rl : Rel B C F H) (h : Rep B v d) (s : DicD C d ks) : ∃ a vs, v = .ref a ∧ H a = some (.dK vs) ∧ RepK B vs ks := by
  cases s with
  | dic => cases h with | dic h r => exact ⟨_, _, rfl, rl.ex _ _ h, r⟩
  | cell hc =>
    cases h
    obtain ⟨o, h1, h2⟩ := rl.own _ _ hc
    cases h2 with | dic r => exact ⟨_, _, rfl, h1, r⟩
theorem Reps.at {vs : List V} {i : Int} (r : Reps B vs ds) (h : atI ds i = some d) : ∃ v, atI vs i = some v ∧ Rep B v d := by
  unfold atI at h ⊢
  rw [r.length]
  cases e : ixN ds.length i with
  | none => rw [e] at h; cases h
  | some j =>
    rw [e] at h
    exact r.get h
end

theorem atI_some {ds : List D} {i : Int} (h0 : 0 ≤ i) (h : i < (ds.length : Int)) : ∃ d, d ∈ ds ∧ ds[i.toNat]? = some d ∧ atI ds i = some d := by
  have hl : i.toNat < ds.length := by omega
  refine ⟨ds[i.toNat], List.getElem_mem hl, List.getElem?_eq_getElem hl, ?_⟩
  unfold atI ixN
  rw [if_pos h0, if_pos h]
  exact List.getElem?_eq_getElem hl
theorem atI_zero {α : Type} {z : α} {zs : List α} : atI (z :: zs) 0 = some z := by
  unfold atI ixN
  rw [if_pos (by decide), if_pos (by rw [List.length_cons]; omega)]
  rfl
theorem atI_int {ns : List Int} {i : Int} (h0 : 0 ≤ i) (h : i < (ns.length : Int)) : ∃ z, z ∈ ns ∧ atI (ns.map D.int) i = some (.int z) := by
  obtain ⟨d, h1, _, h2⟩ := atI_some (ds := ns.map D.int) h0 (by rw [List.length_map]; exact h)
  obtain ⟨z, hz, e⟩ := List.mem_map.mp h1
  exact ⟨z, hz, by rw [h2, e]⟩

/-! ### dicts on the deep side -/
def lookD (ks : List (Int × D)) (k : Int) : Option D := (ks.find? fun p => decide (p.1 = k)).map (·.2)
def putD (ks : List (Int × D)) (k : Int) (d : D) : List (Int × D) :=
  if ks.any fun p => decide (p.1 = k) then ks.map fun p => if p.1 = k then (p.1, d) else p else ks ++ [(k, d)]
theorem repK_look {B : Hp} {vs : List (Key × V)} {ks : List (Int × D)} (r : RepK B vs ks) (k : Int) :
    (lookD ks k = none → valV vs (Sum.inl k) = none) ∧ ∀ d, lookD ks k = some d → ∃ v, valV vs (Sum.inl k) = some v ∧ Rep B v d := by
  induction vs generalizing ks with
  | nil => cases r; exact ⟨fun _ => rfl, fun d h => by cases h⟩
  | cons p vs ih =>
    cases r with
    | @cons j v d vs ds h r =>
      obtain ⟨i1, i2⟩ := ih r
      by_cases e : j = k
      · subst e
        refine ⟨fun h => by simp [lookD] at h, fun d' h' => ?_⟩
        have : d = d' := by simpa [lookD] using h'
        subst this
        exact ⟨v, valV_pos rfl, h⟩
      · have e1 : lookD ((j, d) :: ds) k = lookD ds k := by simp [lookD, e]
        have e2 : valV ((Sum.inl j, v) :: vs) (Sum.inl k : Key) = valV vs (Sum.inl k) := valV_neg (by intro z; exact e (Sum.inl.inj z))
        rw [e1, e2]
        exact ⟨i1, i2⟩
theorem repK_any {B : Hp} {vs : List (Key × V)} {ks : List (Int × D)} (r : RepK B vs ks) (k : Int) :
    (vs.any fun p => decide (p.1 = Sum.inl k)) = ks.any fun p => decide (p.1 = k) := by
  induction vs generalizing ks with
  | nil => cases r; rfl
  | cons p vs ih =>
    cases r with
    | cons h r => simp [ih r]
theorem repK_len {B : Hp} {vs : List (Key × V)} {ks : List (Int × D)} (r : RepK B vs ks) : vs.length = ks.length := by
  induction vs generalizing ks with
  | nil => cases r; rfl
  | cons p vs ih =>
    cases r with
    | cons h r => simp [ih r]
theorem repK_map {B : Hp} {vs : List (Key × V)} {ks : List (Int × D)} (r : RepK B vs ks) (k : Int) {v d} (h : Rep B v d) :
    RepK B (vs.map fun p => if p.1 = Sum.inl k then (p.1, v) else p) (ks.map fun p => if p.1 = k then (p.1, d) else p) := by
  induction vs generalizing ks with
  | nil => cases r; exact .nil
  | cons p vs ih =>
    cases r with
    | @cons j v' d' vs ds h' r =>
      by_cases e : j = k
      · subst e
        simpa using RepK.cons h (ih r)
      · have e' : ¬ (Sum.inl j : Key) = Sum.inl k := fun z => e (Sum.inl.inj z)
        simpa [e] using RepK.cons (k := j) h' (ih r)
theorem repK_app {B : Hp} {vs ws : List (Key × V)} {ks ls : List (Int × D)} (r : RepK B vs ks) (s : RepK B ws ls) : RepK B (vs ++ ws) (ks ++ ls) := by
  induction vs generalizing ks with
  | nil => cases r; exact s
  | cons p vs ih =>
    cases r with
    | cons h r => exact .cons h (ih r)
theorem repK_put {B : Hp} {vs : List (Key × V)} {ks : List (Int × D)} (r : RepK B vs ks) (k : Int) {v d} (h : Rep B v d) : RepK B (putK vs (Sum.inl k) v) (putD ks k d) := by
  unfold putK putD
  rw [repK_any r k]
  by_cases e : (ks.any fun p => decide (p.1 = k)) = true
  · rw [if_pos e, if_pos e]; exact repK_map r k h
  · rw [if_neg e, if_neg e]; exact repK_app r (.cons h .nil)

/-! ### one value handed on -/
section
variable {B0 : Hp} {C : CH} {P : D → CH → Prop} {x y d : D} {i j : Int} {K : PySem.W.Frag} {ds es : List D} {E : EnvD}

theorem wr_int {g : Int → Int → Int} (k : P (.int (g i j)) C) : WR B0 (rI0 fun i j => .int (g i j)) (.int i) (.int j) C P := fun B F H vx vy _ rl hx hy Q q => by
  cases hx; cases hy
  exact ⟨i, j, rfl, rfl, q _ _ B C H (Same.refl B) rl .int k⟩
theorem wr_intB {g : Int → Int → Bool} (k : P (.bl (g i j)) C) : WR B0 (rI0 fun i j => .bl (g i j)) (.int i) (.int j) C P := fun B F H vx vy _ rl hx hy Q q => by
  cases hx; cases hy
  exact ⟨i, j, rfl, rfl, q _ _ B C H (Same.refl B) rl .bl k⟩
theorem wr_intC {R : Int → Int → Prop} {g : Int → Int → Int} (hc : R i j) (k : P (.int (g i j)) C) : WR B0 (rI R fun i j => .int (g i j)) (.int i) (.int j) C P := fun B F H vx vy _ rl hx hy Q q => by
  cases hx; cases hy
  exact ⟨i, j, rfl, rfl, hc, q _ _ B C H (Same.refl B) rl .int k⟩
theorem wu_int {g : Int → Int} (k : P (.int (g i)) C) : WU B0 (rU fun i => .int (g i)) (.int i) C P := fun B F H vx _ rl hx Q q => by
  cases hx
  exact ⟨i, rfl, q _ _ B C H (Same.refl B) rl .int k⟩

/-! + -/
def rStrCat : R2 := fun x y H Q => ∃ i j, x = .str i ∧ y = .str j ∧ i.length + j.length ≤ sizeLine ∧ Q (.str (i ++ j)) H
def rAddU (K : PySem.W.Frag) : R2 := fun x y H Q => (rI0 fun i j => .int (i + j)) x y H Q ∨ rCat x y H Q ∨ rCatA K x y H Q ∨ rStrCat x y H Q
theorem op_addU {X : Cx} : OpR X (binaryOp .Add) (rAddU X.K) := op_add.or (op_cat.or (op_catA.or op_add_str))
theorem wr_add (k : P (.int (i + j)) C) : WR B0 (rAddU K) (.int i) (.int j) C P := fun B F H vx vy sb rl hx hy Q q => .inl (wr_int (g := fun i j => i + j) k B F H vx vy sb rl hx hy Q q)
theorem wr_addS {a b : Str} (hl : a.length + b.length ≤ 1000000) (k : P (.str (a ++ b)) C) : WR B0 (rAddU K) (.str a) (.str b) C P := fun B F H vx vy _ rl hx hy Q q => by
  cases hx; cases hy
  exact .inr (.inr (.inr ⟨a, b, rfl, rfl, Nat.le_trans hl (by decide), q _ _ B C H (Same.refl B) rl .str k⟩))
theorem wr_addT (hl : ds.length + es.length ≤ 1000000) (k : P (.tup (ds ++ es)) C) : WR B0 (rAddU K) (.tup ds) (.tup es) C P := fun B F H vx vy _ rl hx hy Q q => by
  cases hx with
  | @tup a vs _ ha r =>
  cases hy with
  | @tup b ws _ hb s =>
  refine .inr (.inr (.inl ⟨a, b, vs, ws, rfl, rfl, SqT.of (rl.ex _ _ ha), SqT.of (rl.ex _ _ hb), by rw [r.length, s.length]; exact Nat.le_trans hl (by decide), fun e => ?_, fun _ e => ?_, fun _ _ p hp => ?_⟩))
  · subst e
    cases r
    exact q _ _ B C H (Same.refl B) rl (.tup hb s) k
  · subst e
    cases s
    rw [List.append_nil] at k
    exact q _ _ B C H (Same.refl B) rl (.tup ha r) k
  · have e := same_upd (o := .tup (vs ++ ws)) (rl.noB hp)
    exact q _ _ _ C _ e (rl.new hp) (.tup upd_same ((r.append s).mono e)) k
theorem wr_addL (hx : LstD C x ds) (hy : LstD C y es) (hl : ds.length + es.length ≤ 1000000) (k : P (.lst (ds ++ es)) C) : WR B0 (rAddU K) x y C P := fun B F H vx vy _ rl h1 h2 Q q => by
  obtain ⟨a, vs, rfl, ha, r⟩ := lstD_rd rl h1 hx
  obtain ⟨b, ws, rfl, hb, s⟩ := lstD_rd rl h2 hy
  refine .inr (.inl ⟨a, b, vs, ws, rfl, rfl, ha, hb, by rw [r.length, s.length]; exact Nat.le_trans hl (by decide), fun p hp => ?_⟩)
  have e := same_upd (o := .lst (vs ++ ws)) (rl.noB hp)
  exact q _ _ _ C _ e (rl.new hp) (.lst upd_same ((r.append s).mono e)) k

/-! == -/
def tyN : D → Nat
  | .non => 0 | .bl _ => 1 | .int _ => 2 | .str _ => 3 | _ => 9
/-- == of scalars: what decides is whether they are the same -/
def eqS : D → D → Option Bool
  | .non, .non => some true
  | .int i, .int j => some (decide (i = j))
  | .bl i, .bl j => some (decide (i = j))
  | .str i, .str j => some (decide (i = j))
  | .non, .int _ => some false | .int _, .non => some false | .non, .bl _ => some false | .bl _, .non => some false
  | .non, .str _ => some false | .str _, .non => some false
  | .int _, .str _ => some false | .str _, .int _ => some false | .bl _, .str _ => some false | .str _, .bl _ => some false
  | _, _ => none
theorem eqS_ok {B : Hp} {v w : V} {b : Bool} (h1 : Rep B v x) (h2 : Rep B w y) (e : eqS x y = some b) : scal v w = true ∧ decide (v = w) = b := by
  cases h1 <;> cases h2 <;> first
    | (cases e; exact ⟨rfl, by simp⟩)
    | (cases e)
end

section
variable {B0 : Hp} {C : CH} {P : D → CH → Prop} {x y d : D} {i j : Int} {K : PySem.W.Frag} {ds es : List D} {E : EnvD}
/-! deep data without cells and dicts -/
mutual
def toPy : D → Option PyData
  | .non => some .none
  | .bl b => some (.bool b)
  | .int i => some (.int i)
  | .str x => some (.str x)
  | .tup l => (toPys l).map .tuple
  | .lst l => (toPys l).map .list
  | .dic _ => none
  | .ref _ => none
  | .ty _ => none
def toPys : List D → Option (List PyData)
  | [] => some []
  | d :: r => (toPy d).bind fun a => (toPys r).map fun b => a :: b
end
mutual
theorem toPy_ok {B H : Hp} {K : PySem.W.Frag} (e : Same B H) : ∀ {v : V} {d : D} {p : PyData}, Rep B v d → toPy d = some p → Dp K H v p
  | _, _, _, .non, h => by cases h; exact .non
  | _, _, _, .bl, h => by cases h; exact .bl _
  | _, _, _, .int, h => by cases h; exact .int _
  | _, _, _, .str, h => by cases h; exact .str _
  | _, .tup l, _, .tup ha r, h => by
    have h : (toPys l).map PyData.tuple = some _ := h
    cases q : toPys l with
    | none => rw [q] at h; cases h
    | some ps => rw [q] at h; cases h; exact .tup (SqT.of (e _ _ ha)) (toPys_ok e r q)
  | _, .lst l, _, .lst ha r, h => by
    have h : (toPys l).map PyData.list = some _ := h
    cases q : toPys l with
    | none => rw [q] at h; cases h
    | some ps => rw [q] at h; cases h; exact .lst (SqL.of (e _ _ ha)) (toPys_ok e r q)
  | _, _, _, .dic _ _, h => by cases h
  | _, _, _, .ref, h => by cases h
  | _, _, _, .ty, h => by cases h
theorem toPys_ok {B H : Hp} {K : PySem.W.Frag} (e : Same B H) : ∀ {vs : List V} {ds : List D} {ps : List PyData}, Reps B vs ds → toPys ds = some ps → DpAll K H vs ps
  | _, _, _, .nil, h => by cases h; exact .nil
  | _, d :: r, _, .cons h1 hr, h => by
    have h : (toPy d).bind (fun a => (toPys r).map fun b => a :: b) = some _ := h
    cases q : toPy d with
    | none => rw [q] at h; cases h
    | some a =>
      cases q2 : toPys r with
      | none => rw [q, q2] at h; cases h
      | some b => rw [q, q2] at h; cases h; exact .cons (toPy_ok e h1 q) (toPys_ok e hr q2)
end
def rEqU (K : PySem.W.Frag) : R2 := fun x y H Q => rEq x y H Q ∨ rEqD K x y H Q ∨ rEqDA x y H Q
def rNeU (K : PySem.W.Frag) : R2 := fun x y H Q => rNe x y H Q ∨ rNeD K x y H Q ∨ rNeDA x y H Q
theorem op_eqU {X : Cx} {n : Nat} (hr : Room n X.A) : OpR X (compareOp .Eq) (rEqU X.K) := op_eq.or ((op_eqD hr.units).or (op_eq_dictA hr.units0))
theorem op_neU {X : Cx} {n : Nat} (hr : Room n X.A) : OpR X (compareOp .NotEq) (rNeU X.K) := op_ne.or ((op_neD hr.units).or (op_ne_dictA hr.units0))
theorem wr_eq {b : Bool} (h : eqS x y = some b) (k : P (.bl b) C) : WR B0 (rEqU K) x y C P := fun B F H vx vy _ rl hx hy Q q => by
  obtain ⟨h1, h2⟩ := eqS_ok hx hy h
  exact .inl ⟨h1, by rw [h2]; exact q _ _ B C H (Same.refl B) rl .bl k⟩
theorem wr_ne {b : Bool} (h : eqS x y = some b) (k : P (.bl (!b)) C) : WR B0 (rNeU K) x y C P := fun B F H vx vy _ rl hx hy Q q => by
  obtain ⟨h1, h2⟩ := eqS_ok hx hy h
  exact .inl ⟨h1, by rw [h2]; exact q _ _ B C H (Same.refl B) rl .bl k⟩
theorem wr_eqP {p r : PyData} (h1 : toPy x = some p) (h2 : toPy y = some r) (s1 : SeqAt.shaped p = true) (s2 : SeqAt.shaped r = true) (k : P (.bl (PyData.eqv p r)) C) : WR B0 (rEqU K) x y C P := fun B F H vx vy _ rl hx hy Q q =>
  .inr (.inl ⟨p, r, toPy_ok rl.ex hx h1, toPy_ok rl.ex hy h2, s1, s2, q _ _ B C H (Same.refl B) rl .bl k⟩)
theorem wr_neP {p r : PyData} (h1 : toPy x = some p) (h2 : toPy y = some r) (s1 : SeqAt.shaped p = true) (s2 : SeqAt.shaped r = true) (k : P (.bl (!PyData.eqv p r)) C) : WR B0 (rNeU K) x y C P := fun B F H vx vy _ rl hx hy Q q =>
  .inr (.inl ⟨p, r, toPy_ok rl.ex hx h1, toPy_ok rl.ex hy h2, s1, s2, q _ _ B C H (Same.refl B) rl .bl k⟩)

/-! is None -/
def isNonD : D → Bool
  | .non => true | _ => false
theorem rep_non {B : Hp} {v : V} (h : Rep B v d) : decide (v = .non) = isNonD d := by
  cases h <;> simp [isNonD]
theorem wr_isN (k : P (.bl (isNonD x)) C) : WR B0 (fun x y H Q => y = .non ∧ Q (.bl (decide (x = .non))) H) x .non C P := fun B F H vx vy _ rl hx hy Q q => by
  cases hy
  exact ⟨rfl, by rw [rep_non hx]; exact q _ _ B C H (Same.refl B) rl .bl k⟩
theorem wr_notN (k : P (.bl (!isNonD x)) C) : WR B0 (fun x y H Q => y = .non ∧ Q (.bl (!decide (x = .non))) H) x .non C P := fun B F H vx vy _ rl hx hy Q q => by
  cases hy
  exact ⟨rfl, by rw [rep_non hx]; exact q _ _ B C H (Same.refl B) rl .bl k⟩
theorem w_isN {ta : TE} (h : W B0 ta E C fun x C1 => P (.bl (isNonD x)) C1) : W B0 (tIsN ta) E C P := fun B F σ H sb rl re Q q =>
  h B F σ H sb rl re _ fun v d B1 C1 H1 e1 rl1 rp p => by
    show Q (.bl (decide (v = .non))) H1
    rw [rep_non rp]
    exact q _ _ B1 C1 H1 e1 rl1 .bl p
theorem w_notN {ta : TE} (h : W B0 ta E C fun x C1 => P (.bl (!isNonD x)) C1) : W B0 (tNotN ta) E C P := fun B F σ H sb rl re Q q =>
  h B F σ H sb rl re _ fun v d B1 C1 H1 e1 rl1 rp p => by
    show Q (.bl (!decide (v = .non))) H1
    rw [rep_non rp]
    exact q _ _ B1 C1 H1 e1 rl1 .bl p

/-! subscripts -/
theorem wr_ix (hx : SeqD C x ds) (h : atI ds i = some d) (k : P d C) : WR B0 (rIx K) x (.int i) C P := fun B F H vx vy _ rl h1 h2 Q q => by
  cases h2
  obtain ⟨a, vs, rfl, hs, r⟩ := seqD_rd (K := K) rl h1 hx
  obtain ⟨v, h3, h4⟩ := r.at h
  rcases hs with hs | hs
  · exact .inl ⟨a, vs, i, v, rfl, rfl, hs, h3, q _ _ B C H (Same.refl B) rl h4 k⟩
  · exact .inr (.inl ⟨a, vs, i, v, rfl, rfl, hs, h3, q _ _ B C H (Same.refl B) rl h4 k⟩)
theorem wr_ixS {z : Str} {c : Nat} (hl : z.length ≤ 1000000) (h : atI z.cps.toList i = some c) (k : P (.str ⟨#[c]⟩) C) : WR B0 (rIx K) (.str z) (.int i) C P := fun B F H vx vy _ rl h1 h2 Q q => by
  cases h1; cases h2
  exact .inr (.inr ⟨z, i, c, rfl, rfl, Nat.le_trans hl (by decide), h, q _ _ B C H (Same.refl B) rl .str k⟩)
/-- slices -/
def cutD (ds : List D) (lo hi : Option Int) : List D := (ds.drop (HT.sIx ds.length 0 lo)).take (HT.sIx ds.length ds.length hi - HT.sIx ds.length 0 lo)
theorem reps_cut {B : Hp} {vs : List V} (r : Reps B vs ds) (lo hi : Option Int) : Reps B (cutV vs lo hi) (cutD ds lo hi) := by
  unfold cutV cutD
  rw [r.length]
  exact (r.drop _).take _
def WO (B0 : Hp) (to : TO) (E : EnvD) (C : CH) (P : Option Int → CH → Prop) : Prop :=
  ∀ (B F : Hp) (σ : St) (H : Hp), Same B0 B → Rel B C F H → RelE B σ E → ∀ Q : Option Int → Hp → Prop,
    (∀ o B' C' H', Same B B' → Rel B' C' F H' → P o C' → Q o H') → to σ H Q
theorem wo_none {PO : Option Int → CH → Prop} (k : PO none C) : WO B0 tNoPart E C PO := fun B _ _ H _ rl _ _ q => q _ B C H (Same.refl B) rl k
theorem wo_some {te : TE} {PO : Option Int → CH → Prop} (h : W B0 te E C fun d C1 => ∃ i, d = .int i ∧ PO (some i) C1) : WO B0 (tPart te) E C PO := fun B F σ H sb rl re Q q =>
  h B F σ H sb rl re _ fun v d B1 C1 H1 e1 rl1 rp ⟨i, hi, p⟩ => by
    subst hi
    cases rp
    exact ⟨i, rfl, q _ B1 C1 H1 e1 rl1 p⟩
def WSl (B0 : Hp) (r : V → Option Int → Option Int → Hp → VK → Prop) (x : D) (lo hi : Option Int) (C : CH) (P : D → CH → Prop) : Prop :=
  ∀ (B F H : Hp) (vx : V), Same B0 B → Rel B C F H → Rep B vx x → ∀ Q : VK, (∀ v d B' C' H', Same B B' → Rel B' C' F H' → Rep B' v d → P d C' → Q v H') → r vx lo hi H Q
theorem w_slice {r : V → Option Int → Option Int → Hp → VK → Prop} {te : TE} {tl th : TO} (h : W B0 te E C fun x C1 => WO B0 tl E C1 fun lo C2 => WO B0 th E C2 fun hi C3 => WSl B0 r x lo hi C3 P) : W B0 (tSl r te tl th) E C P := fun B F σ H sb rl re Q q =>
  h B F σ H sb rl re _ fun v d B1 C1 H1 e1 rl1 rp h1 => h1 B1 F σ H1 (sb.trans e1) rl1 (re.mono e1) _ fun lo B2 C2 H2 e2 rl2 h2 =>
    h2 B2 F σ H2 ((sb.trans e1).trans e2) rl2 (re.mono (e1.trans e2)) _ fun hi B3 C3 H3 e3 rl3 h3 =>
      h3 B3 F H3 v (((sb.trans e1).trans e2).trans e3) rl3 (rp.mono (e2.trans e3)) Q fun v d B4 C4 H4 e4 => q v d B4 C4 H4 (((e1.trans e2).trans e3).trans e4)
def rSlU (K : PySem.W.Frag) : V → Option Int → Option Int → Hp → VK → Prop := fun x lo hi H Q => rSlL K x lo hi H Q ∨ rSlA K x lo hi H Q ∨ rSlS x lo hi H Q
theorem sl_U {X : Cx} : SlR X (rSlU X.K) := sl_list.or (sl_tupA.or sl_str)
theorem wsl_lst {lo hi : Option Int} (hx : LstD C x ds) (k : P (.lst (cutD ds lo hi)) C) : WSl B0 (rSlU K) x lo hi C P := fun B F H vx _ rl h1 Q q => by
  obtain ⟨a, vs, rfl, ha, r⟩ := lstD_rd rl h1 hx
  refine .inl ⟨a, vs, rfl, SqL.of ha, fun p hp => ?_⟩
  have e := same_upd (o := .lst (cutV vs lo hi)) (rl.noB hp)
  exact q _ _ _ C _ e (rl.new hp) (.lst upd_same ((reps_cut r lo hi).mono e)) k
theorem wsl_tup {lo hi : Option Int} (k : P (.tup (cutD ds lo hi)) C) : WSl B0 (rSlU K) (.tup ds) lo hi C P := fun B F H vx _ rl h1 Q q => by
  cases h1 with
  | @tup a vs _ ha r =>
  refine .inr (.inl ⟨a, vs, rfl, SqT.of (rl.ex _ _ ha), fun ⟨h1, h2⟩ => ?_, fun _ p hp => ?_⟩)
  · have e : cutD ds lo hi = ds := by
      rw [r.length] at h1 h2
      unfold cutD
      rw [h1, h2]
      simp
    rw [e] at k
    exact q _ _ B C H (Same.refl B) rl (.tup ha r) k
  · have e := same_upd (o := .tup (cutV vs lo hi)) (rl.noB hp)
    exact q _ _ _ C _ e (rl.new hp) (.tup upd_same ((reps_cut r lo hi).mono e)) k
theorem wsl_str {z : Str} {lo hi : Option Int} (hl : z.length ≤ 1000000) (k : P (.str (cutS z lo hi)) C) : WSl B0 (rSlU K) (.str z) lo hi C P := fun B F H vx _ rl h1 Q q => by
  cases h1
  exact .inr (.inr ⟨z, rfl, Nat.le_trans hl (by decide), q _ _ B C H (Same.refl B) rl .str k⟩)
end
end Dv

set_option maxRecDepth 100000
set_option maxHeartbeats 1000000
namespace Dv
open PySem PySem.Spec L2

/-! ### what is walked -/
structure JD (J : It) (B : Hp) (ds : List D) : Prop where
  go : ∀ (i : Nat) (B' F H : Hp) (C : CH), Same B B' → Rel B' C F H → i < ds.length → J.go i H
  stop : ∀ (B' F H : Hp) (C : CH), Same B B' → Rel B' C F H → J.stop ds.length H
  yld : ∀ (i : Nat) (x : V) (B' F H H' : Hp) (C : CH), Same B B' → Rel B' C F H → i < ds.length → J.yld i H x H' → ∃ d B'', ds[i]? = some d ∧ Same B' B'' ∧ Rel B'' C F H' ∧ Rep B'' x d
def WI (B0 : Hp) (wi : TI) (E : EnvD) (C : CH) (P : List D → CH → Prop) : Prop :=
  ∀ (B F : Hp) (σ : St) (H : Hp), Same B0 B → Rel B C F H → RelE B σ E → ∀ R : It → Hp → Prop,
    (∀ J ds B' C' H', Same B B' → Rel B' C' F H' → JD J B' ds → P ds C' → R J H') → wi σ H R
theorem jd_list {K : PySem.W.Frag} {B : Hp} {a : Addr} {vs : List V} {ds : List D} (h : B a = some (.lst vs)) (r : Reps B vs ds) : JD (Itl K a) B ds where
  go := fun i B' F H C s rl hi => by
    have hi' : i < vs.length := by rw [r.length]; exact hi
    exact ⟨vs, vs[i], SqL.of (rl.ex _ _ (s _ _ h)), by simp [hi']⟩
  stop := fun B' F H C s rl => ⟨vs, SqL.of (rl.ex _ _ (s _ _ h)), by rw [r.length]; exact Nat.le_refl _⟩
  yld := fun i x B' F H H' C s rl hi y => by
    obtain ⟨e, y⟩ := y
    subst e
    obtain ⟨d, h1, h2⟩ := r.getV (y vs (SqL.of (rl.ex _ _ (s _ _ h))))
    exact ⟨d, B', h1, Same.refl _, rl, h2.mono s⟩
theorem jd_tup {K : PySem.W.Frag} {B : Hp} {a : Addr} {vs : List V} {ds : List D} (h : B a = some (.tup vs)) (r : Reps B vs ds) : JD (Itt K a) B ds where
  go := fun i B' F H C s rl hi => by
    have hi' : i < vs.length := by rw [r.length]; exact hi
    exact ⟨vs, vs[i], SqT.of (rl.ex _ _ (s _ _ h)), by simp [hi']⟩
  stop := fun B' F H C s rl => ⟨vs, SqT.of (rl.ex _ _ (s _ _ h)), by rw [r.length]; exact Nat.le_refl _⟩
  yld := fun i x B' F H H' C s rl hi y => by
    obtain ⟨e, y⟩ := y
    subst e
    obtain ⟨d, h1, h2⟩ := r.getV (y vs (SqT.of (rl.ex _ _ (s _ _ h))))
    exact ⟨d, B', h1, Same.refl _, rl, h2.mono s⟩
def rngD (lo : Int) (n : Nat) : List D := (List.range n).map fun i => D.int (lo + (i : Nat))
theorem rngD_len (lo : Int) (n : Nat) : (rngD lo n).length = n := by simp [rngD]
theorem rngD_at {lo : Int} {n i : Nat} (h : i < n) : (rngD lo n)[i]? = some (.int (lo + (i : Nat))) := by simp [rngD, h]
theorem rngD_mem {lo : Int} {n : Nat} {x : D} (h : x ∈ rngD lo n) : ∃ i : Nat, i < n ∧ x = .int (lo + (i : Nat)) := by
  obtain ⟨i, hi, e⟩ := List.mem_map.mp h
  exact ⟨i, List.mem_range.mp hi, e.symm⟩
theorem rngD_const {lo : Int} {n : Nat} {z : D} : (rngD lo n).map (fun _ => z) = List.replicate n z := by
  unfold rngD
  rw [List.map_map]
  apply List.ext_getElem?
  intro i
  by_cases h : i < n
  · simp [h]
  · simp [h]
theorem rngD_drop {lo : Int} {n i : Nat} (h : i < n) : (rngD lo n).drop i = .int (lo + (i : Nat)) :: (rngD lo n).drop (i + 1) := by
  have e := List.drop_eq_getElem_cons (l := rngD lo n) (i := i) (by rw [rngD_len]; exact h)
  rw [e]
  have q := rngD_at (lo := lo) h
  rw [List.getElem?_eq_getElem (by rw [rngD_len]; exact h)] at q
  rw [Option.some.inj q]
theorem jd_rng {B : Hp} {lo : Int} {n : Nat} : JD (Itr lo n) B (rngD lo n) where
  go := fun i B' F H C s rl hi => by rw [rngD_len] at hi; exact hi
  stop := fun B' F H C s rl => by rw [rngD_len]; exact Nat.le_refl _
  yld := fun i x B' F H H' C s rl hi y => by
    obtain ⟨e, y⟩ := y
    subst e y
    rw [rngD_len] at hi
    exact ⟨_, B', rngD_at hi, Same.refl _, rl, .int⟩
section
variable {B0 : Hp} {C : CH} {K : PySem.W.Frag} {E : EnvD} {PI' : List D → CH → Prop} {tl : TE} {ta : TA}
theorem wi_list (h : W B0 tl E C fun d C1 => ∃ ds, d = .lst ds ∧ PI' ds C1) : WI B0 (iList K tl) E C PI' := fun B F σ H sb rl re R q =>
  h B F σ H sb rl re _ fun v d B1 C1 H1 e1 rl1 rp ⟨ds, hd, p⟩ => by
    subst hd
    cases rp with
    | lst ha r => exact ⟨_, rfl, ⟨_, SqL.of (rl1.ex _ _ ha)⟩, q _ ds B1 C1 H1 e1 rl1 (jd_list ha r) p⟩
theorem wi_tup (h : W B0 tl E C fun d C1 => ∃ ds, d = .tup ds ∧ PI' ds C1) : WI B0 (iTup K tl) E C PI' := fun B F σ H sb rl re R q =>
  h B F σ H sb rl re _ fun v d B1 C1 H1 e1 rl1 rp ⟨ds, hd, p⟩ => by
    subst hd
    cases rp with
    | tup ha r => exact ⟨_, rfl, ⟨_, SqT.of (rl1.ex _ _ ha)⟩, q _ ds B1 C1 H1 e1 rl1 (jd_tup ha r) p⟩
theorem wi_rng1 (h : WA B0 ta E C fun ds C1 => ∃ n : Int, ds = [.int n] ∧ n < 2 ^ 62 ∧ -(2 ^ 62) ≤ n ∧ PI' (rngD 0 n.toNat) C1) : WI B0 (iRng1 ta) E C PI' := fun B F σ H sb rl re R q =>
  h B F σ H sb rl re _ fun vs ds B1 C1 H1 e1 rl1 rp ⟨n, hd, h1, h2, p⟩ => by
    subst hd
    cases rp with
    | cons a r =>
      cases a
      cases r
      exact ⟨n, rfl, h2, h1, q _ _ B1 C1 H1 e1 rl1 jd_rng p⟩
theorem wi_rng2 (h : WA B0 ta E C fun ds C1 => ∃ m n : Int, ds = [.int m, .int n] ∧ (-(2 ^ 62) ≤ m ∧ m < 2 ^ 62 ∧ -(2 ^ 62) ≤ n ∧ n < 2 ^ 62) ∧ PI' (rngD m (n - m).toNat) C1) : WI B0 (iRng2 ta) E C PI' := fun B F σ H sb rl re R q =>
  h B F σ H sb rl re _ fun vs ds B1 C1 H1 e1 rl1 rp ⟨m, n, hd, h1, p⟩ => by
    subst hd
    cases rp with
    | cons a r =>
      cases a
      cases r with
      | cons b r =>
        cases b
        cases r
        exact ⟨m, n, rfl, h1, q _ _ B1 C1 H1 e1 rl1 jd_rng p⟩
end
/-- a list or a tuple walked -/
def iSeq (K : PySem.W.Frag) (tl : TE) : TI := fun σ H R => tl σ H fun x H1 => ∃ a, x = .ref a ∧ ((∃ xs, SqL K H1 a xs) ∧ R (Itl K a) H1 ∨ (∃ xs, SqT K H1 a xs) ∧ R (Itt K a) H1)
theorem pi_seq {X : Cx} {tg l : Expr} {tl : TE} (hl : PE X l tl) : PI X tg l (iSeq X.K tl) := by
  constructor
  intro pins s σ H R I h
  refine thn (hl.run pins s σ H _ I h) ?_
  rintro v s1 ⟨x, H1, J1, r1, a, e, hh⟩
  subst e
  cases r1
  have fresh := J1.fpOk (Nat.le_refl s1.heap.objs.size) (J1.hok.fresh (Nat.le_refl _))
  rcases hh with ⟨⟨xs, hq⟩, q⟩ | ⟨⟨xs, hq⟩, q⟩
  · obtain ⟨its, _, p, _⟩ := J1.list hq
    apply wpAny_pyIter_list p.isList
    refine ⟨_, [_], _, _, H1, rfl, J1.kept (t' := s1.toks) ?_, turn_list a _, ⟨_, Heap.get?_push_size _ rfl, rfl, rfl⟩, ?_, q⟩
    · intro b o eb
      exact Heap.get?_push_of_some _ eb
    · intro b hb
      obtain rfl : b = s1.heap.objs.size := by simpa using hb
      exact fresh
  · obtain ⟨its, _, p, _⟩ := J1.tuple hq
    apply wpAny_pyIter_tuple (show s1.heap.IsTuple a its.toArray from p)
    refine ⟨_, [_], _, _, H1, rfl, J1.kept (t' := s1.toks) ?_, turn_tuple a _, ⟨_, Heap.get?_push_size _ rfl, rfl, rfl⟩, ?_, q⟩
    · intro b o eb
      exact Heap.get?_push_of_some _ eb
    · intro b hb
      obtain rfl : b = s1.heap.objs.size := by simpa using hb
      exact fresh
section
variable {B0 : Hp} {C : CH} {K : PySem.W.Frag} {E : EnvD} {PI' : List D → CH → Prop} {tl : TE}
/-- frozen data that can be walked -/
inductive SeqF : D → List D → Prop
  | lst {ds : List D} : SeqF (.lst ds) ds
  | tup {ds : List D} : SeqF (.tup ds) ds
theorem wi_seq (h : W B0 tl E C fun d C1 => ∃ ds, SeqF d ds ∧ PI' ds C1) : WI B0 (iSeq K tl) E C PI' := fun B F σ H sb rl re R q =>
  h B F σ H sb rl re _ fun v d B1 C1 H1 e1 rl1 rp ⟨ds, hd, p⟩ => by
    cases hd with
    | lst =>
      cases rp with
      | lst ha r => exact ⟨_, rfl, .inl ⟨⟨_, SqL.of (rl1.ex _ _ ha)⟩, q _ ds B1 C1 H1 e1 rl1 (jd_list ha r) p⟩⟩
    | tup =>
      cases rp with
      | tup ha r => exact ⟨_, rfl, .inr ⟨⟨_, SqT.of (rl1.ex _ _ ha)⟩, q _ ds B1 C1 H1 e1 rl1 (jd_tup ha r) p⟩⟩
end

/-! ### for -/
section
variable {B0 : Hp} {C : CH} {E : EnvD} {D1 : EndD} {wi : TI} {g : TG} {tb : TS}
/-- L: what holds by the items that are left -/
theorem ws_for (L : List D → EnvD → CH → Prop) (h : WI B0 wi E C fun ds C1 => L ds E C1) (hn : ∀ E1 C1, L [] E1 C1 → D1.nx E1 C1)
    (hs : ∀ x xs E1 C1, L (x :: xs) E1 C1 → WG B0 g x E1 C1 fun E2 C2 => WS B0 tb E2 C2 { D1 with nx := L xs, ct := L xs, bk := D1.nx }) : WS B0 (tFor wi g tb) E C D1 := fun B F σ H sb rl re Dn ok =>
  h B F σ H sb rl re _ fun J ds B1 C1 H1 e1 rl1 jd l0 => by
    have main : ∀ (i : Nat) (σ' : St) (H' : Hp), (∃ B' C' E', Same B1 B' ∧ Rel B' C' F H' ∧ RelE B' σ' E' ∧ L (ds.drop i) E' C') → i < ds.length →
        ∀ x H2, J.yld i H' x H2 → g x σ' H2 fun σ2 H2 => tb { Dn with
          nx := fun σ3 H3 => ∃ B' C' E', Same B1 B' ∧ Rel B' C' F H3 ∧ RelE B' σ3 E' ∧ L (ds.drop (i + 1)) E' C'
          ct := fun σ3 H3 => ∃ B' C' E', Same B1 B' ∧ Rel B' C' F H3 ∧ RelE B' σ3 E' ∧ L (ds.drop (i + 1)) E' C'
          bk := Dn.nx } σ2 H2 := by
      rintro i σ' H' ⟨B', C', E', s', rl', re', l⟩ hi x H2 y
      obtain ⟨d, B2, hd, s2, rl2, rp2⟩ := jd.yld i x B' F H' H2 C' s' rl' hi y
      have e : ds.drop i = d :: ds.drop (i + 1) := by
        rw [List.drop_eq_getElem_cons hi]
        rw [List.getElem?_eq_getElem hi] at hd
        rw [Option.some.inj hd]
      rw [e] at l
      have sb2 : Same B B2 := (e1.trans s').trans s2
      refine hs d _ E' C' l B2 F σ' H2 x (sb.trans sb2) rl2 (re'.mono s2) rp2 _ fun σ3 E3 B3 C3 H3 s3 rl3 re3 w => ?_
      refine w B3 F σ3 H3 (sb.trans (sb2.trans s3)) rl3 re3 _ ⟨?_, ?_, ?_, ?_⟩
      · exact fun σ4 E4 B4 C4 H4 s4 rl4 re4 l4 => ⟨B4, C4, E4, ((s'.trans s2).trans s3).trans s4, rl4, re4, l4⟩
      · exact fun v d B4 C4 H4 s4 rl4 rp4 k => ok.rt v d B4 C4 H4 ((sb2.trans s3).trans s4) rl4 rp4 k
      · exact fun σ4 E4 B4 C4 H4 s4 rl4 re4 k => ok.nx σ4 E4 B4 C4 H4 ((sb2.trans s3).trans s4) rl4 re4 k
      · exact fun σ4 E4 B4 C4 H4 s4 rl4 re4 l4 => ⟨B4, C4, E4, ((s'.trans s2).trans s3).trans s4, rl4, re4, l4⟩
    refine ⟨fun i m σ' H' => m = ds.length - i ∧ i ≤ ds.length ∧ ∃ B' C' E', Same B1 B' ∧ Rel B' C' F H' ∧ RelE B' σ' E' ∧ L (ds.drop i) E' C',
      ⟨ds.length, by simp, Nat.zero_le _, B1, C1, E, Same.refl _, rl1, re.mono e1, by simpa using l0⟩, ?_⟩
    rintro i m σ' H' ⟨rfl, hi, z⟩
    by_cases hlt : i < ds.length
    · obtain ⟨B', C', E', s', rl', re', l⟩ := id z
      exact .inr ⟨jd.go i B' F H' C' s' rl' hlt, _, fun σ2 H2 n => ⟨ds.length - (i + 1), by omega, rfl, hlt, n⟩, main i σ' H' z hlt⟩
    · obtain ⟨B', C', E', s', rl', re', l⟩ := z
      have e : i = ds.length := by omega
      subst e
      rw [List.drop_length] at l
      exact .inl ⟨jd.stop B' F H' C' s' rl', ok.nx σ' E' B' C' H' (e1.trans s') rl' re' (hn _ _ l)⟩
end

/-! ### comprehensions -/
def wipeE (E : EnvD) : List Nat → EnvD
  | [] => E
  | v :: vs => (wipeE E vs).set v none
theorem relE_wipe {B : Hp} {σ : St} {E : EnvD} (r : RelE B σ E) : ∀ vs : List Nat, RelE B (wipe σ vs) (wipeE E vs)
  | [] => r
  | v :: vs => (relE_wipe r vs).unset v
theorem wipe_get (σ : St) (i : Nat) : ∀ vs : List Nat, (wipe σ vs)[i]? = if i ∈ vs then (σ[i]?).map (fun _ => none) else σ[i]?
  | [] => by simp [wipe]
  | v :: vs => by
    unfold wipe
    by_cases e : v = i
    · subst e
      rw [if_pos (List.mem_cons_self ..)]
      by_cases hl : v < σ.length
      · rw [List.getElem?_set_self (by rw [wipe_length]; exact hl), List.getElem?_eq_getElem hl]; rfl
      · rw [List.getElem?_eq_none (by rw [List.length_set, wipe_length]; omega), List.getElem?_eq_none (by omega)]; rfl
    · rw [List.getElem?_set_ne e, wipe_get σ i vs]
      have : (i ∈ v :: vs) ↔ i ∈ vs := by
        rw [List.mem_cons]
        exact ⟨fun h => h.elim (fun z => absurd z.symm e) id, .inr⟩
      by_cases m : i ∈ vs
      · rw [if_pos m, if_pos (this.mpr m)]
      · rw [if_neg m, if_neg (fun z => m (this.mp z))]
theorem wipe_set {σ : St} {j : Nat} {x : Option V} {vs : List Nat} (h : j ∈ vs) : wipe (σ.set j x) vs = wipe σ vs := by
  apply List.ext_getElem?
  intro i
  rw [wipe_get, wipe_get]
  by_cases m : i ∈ vs
  · rw [if_pos m, if_pos m]
    by_cases e : j = i
    · subst e
      by_cases hl : j < σ.length
      · rw [List.getElem?_set_self hl, List.getElem?_eq_getElem hl]; rfl
      · rw [List.getElem?_eq_none (by rw [List.length_set]; omega), List.getElem?_eq_none (by omega)]
    · rw [List.getElem?_set_ne e]
  · rw [if_neg m, if_neg m, List.getElem?_set_ne (fun e : j = i => m (by rw [← e]; exact h))]
theorem wipe_wipe (σ : St) (vs : List Nat) : wipe (wipe σ vs) vs = wipe σ vs := by
  apply List.ext_getElem?
  intro i
  rw [wipe_get, wipe_get]
  by_cases m : i ∈ vs
  · simp [m]
    cases σ[i]? <;> rfl
  · simp [m]
/-- the target stores into the slots vs alone -/
def Sets (g : TG) (vs : List Nat) : Prop := ∀ v σ H (Q : St → Hp → Prop), g v σ H Q → g v σ H fun σ2 H2 => Q σ2 H2 ∧ wipe σ2 vs = wipe σ vs
def SetsS (g : TGs) (vs : List Nat) : Prop := ∀ v σ H (Q : St → Hp → Prop), g v σ H Q → g v σ H fun σ2 H2 => Q σ2 H2 ∧ wipe σ2 vs = wipe σ vs
theorem sets_name {j : Nat} {vs : List Nat} (h : j ∈ vs) : Sets (gName j) vs := fun v σ H Q q => ⟨q, wipe_set h⟩
theorem sets_nil {vs : List Nat} : SetsS gNil vs := fun v σ H Q ⟨e, q⟩ => ⟨e, q, rfl⟩
theorem sets_cons {j : Nat} {gs : TGs} {vs : List Nat} (h : j ∈ vs) (r : SetsS gs vs) : SetsS (gCons (gName j) gs) vs := fun v σ H Q ⟨a, rest, e, q⟩ => by
  have q : gs rest (σ.set j (some a)) H fun σ' H' => Q σ' H' := q
  have q2 := r _ _ _ _ q
  rw [wipe_set h] at q2
  exact ⟨a, rest, e, q2⟩
theorem sets_tup {K : PySem.W.Frag} {n : Nat} {gs : TGs} {vs : List Nat} (r : SetsS gs vs) : Sets (gTup K n gs) vs := fun v σ H Q ⟨a, xs, e, h1, h2, q⟩ => ⟨a, xs, e, h1, h2, r _ _ _ _ q⟩
section
variable {B0 : Hp} {C : CH} {E : EnvD} {P : D → CH → Prop} {wi : TI} {g : TG} {tt : TT} {te : TE} {vs : List Nat}
/-- L: by the items left and those made -/
theorem w_lcQ (cell : Bool) (L : List D → List D → CH → Prop) (st : Sets g vs) (h : WI B0 wi E C fun ds C1 => ds.length ≤ 1000000 ∧ L ds [] C1)
    (hn : ∀ acc C1, L [] acc C1 → if cell then ∀ a, C1 a = none → P (.ref a) (updC C1 a (.lst acc)) else P (.lst acc) C1)
    (hs : ∀ x xs acc C1, L (x :: xs) acc C1 → WG B0 g x (wipeE E vs) C1 fun E2 C2 => WT B0 tt E2 C2 fun b C3 =>
      (b = true → W B0 te E2 C3 fun y C4 => L xs (acc ++ [y]) C4) ∧ (b = false → L xs acc C3)) : W B0 (tLc wi g tt te vs) E C P := fun B F σ H sb rl re Q q =>
  h B F σ H sb rl re _ fun J ds B1 C1 H1 e1 rl1 jd ⟨hlen, l0⟩ Dl hD => by
    have hF := rl1.noF hD
    refine ⟨fun i m H' => m = ds.length - i ∧ i ≤ ds.length ∧ ∃ B' C' vacc acc, Same B1 B' ∧ Rel B' C' (upd F Dl (.lst vacc)) H' ∧ Reps B' vacc acc ∧ acc.length ≤ i ∧ L (ds.drop i) acc C',
      ⟨ds.length, by simp, Nat.zero_le _, B1, C1, [], [], Same.refl _, rl1.newF hD, .nil, Nat.le_refl _, by simpa using l0⟩, ?_⟩
    rintro i m H' ⟨rfl, hi, B', C', vacc, acc, s', rl', ra, hal, l⟩
    by_cases hlt : i < ds.length
    · refine .inr ⟨jd.go i B' _ H' C' s' rl' hlt, fun H2 => ∃ B' C' vacc acc, Same B1 B' ∧ Rel B' C' (upd F Dl (.lst vacc)) H2 ∧ Reps B' vacc acc ∧ acc.length ≤ i + 1 ∧ L (ds.drop (i + 1)) acc C',
        fun H2 n => ⟨ds.length - (i + 1), by omega, rfl, hlt, n⟩, fun x H2 y => ?_⟩
      obtain ⟨d, B2, hd, s2, rl2, rp2⟩ := jd.yld i x B' _ H' H2 C' s' rl' hlt y
      have e : ds.drop i = d :: ds.drop (i + 1) := by
        rw [List.drop_eq_getElem_cons hlt]
        rw [List.getElem?_eq_getElem hlt] at hd
        rw [Option.some.inj hd]
      rw [e] at l
      have sb2 : Same B B2 := (e1.trans s').trans s2
      have z := hs d _ acc C' l B2 _ (wipe σ vs) H2 x (sb.trans sb2) rl2 (relE_wipe (re.mono sb2) vs) rp2 (fun σ3 H3 => tt σ3 H3 fun b H3 =>
        if b = true then te σ3 H3 fun y H4 => ∃ acc, H4 Dl = some (.lst acc) ∧ acc.length < sizeLine ∧ ∃ B' C' vacc' acc', Same B1 B' ∧ Rel B' C' (upd F Dl (.lst vacc')) (upd H4 Dl (.lst (acc ++ [y]))) ∧ Reps B' vacc' acc' ∧ acc'.length ≤ i + 1 ∧ L (ds.drop (i + 1)) acc' C'
        else ∃ B' C' vacc acc, Same B1 B' ∧ Rel B' C' (upd F Dl (.lst vacc)) H3 ∧ Reps B' vacc acc ∧ acc.length ≤ i + 1 ∧ L (ds.drop (i + 1)) acc C') fun σ3 E3 B3 C3 H3 s3 rl3 re3 w => ?_
      · have z2 := st _ _ _ _ z
        rw [wipe_wipe] at z2
        refine cast ?_ z2
        congr 1
        funext σ2 H2
        exact propext ⟨fun ⟨a, b⟩ => ⟨b, a⟩, fun ⟨a, b⟩ => ⟨b, a⟩⟩
      · refine w B3 _ σ3 H3 (sb.trans (sb2.trans s3)) rl3 re3 _ fun b B4 C4 H4 s4 rl4 p => ?_
        cases b with
        | false =>
          refine ⟨B4, C4, vacc, acc, ((s'.trans s2).trans s3).trans s4, rl4, ra.mono ((s2.trans s3).trans s4), by omega, p.2 rfl⟩
        | true =>
          refine p.1 rfl B4 _ σ3 H4 (sb.trans ((sb2.trans s3).trans s4)) rl4 (re3.mono s4) _ fun v y B5 C5 H5 s5 rl5 rp5 l5 => ?_
          have hl5 : H5 Dl = some (.lst vacc) := rl5.fr _ _ upd_same
          have rlen := ra.length
          refine ⟨vacc, hl5, Nat.lt_of_le_of_lt (by omega : vacc.length ≤ 1000000) (by decide), B5, C5, vacc ++ [v], acc ++ [y], (((s'.trans s2).trans s3).trans s4).trans s5, rl5.writeF,
            (ra.mono (((s2.trans s3).trans s4).trans s5)).append (.one rp5), by simp; omega, l5⟩
    · have e : i = ds.length := by omega
      subst e
      rw [List.drop_length] at l
      have k := hn _ _ l
      refine .inl ⟨jd.stop B' _ H' C' s' rl', ?_⟩
      cases cell with
      | false =>
        have sf := same_upd (o := .lst vacc) (rl'.bf Dl _ upd_same)
        exact q _ _ _ C' _ ((e1.trans s').trans sf) (rl'.freezeF hF) (.lst upd_same (ra.mono sf)) k
      | true => exact q _ _ B' _ _ (e1.trans s') (rl'.cellF hF (.lst ra)) .ref (k Dl (rl'.cf Dl _ upd_same))
theorem w_lc (L : List D → List D → CH → Prop) (st : Sets g vs) (h : WI B0 wi E C fun ds C1 => ds.length ≤ 1000000 ∧ L ds [] C1) (hn : ∀ acc C1, L [] acc C1 → P (.lst acc) C1)
    (hs : ∀ x xs acc C1, L (x :: xs) acc C1 → WG B0 g x (wipeE E vs) C1 fun E2 C2 => WT B0 tt E2 C2 fun b C3 =>
      (b = true → W B0 te E2 C3 fun y C4 => L xs (acc ++ [y]) C4) ∧ (b = false → L xs acc C3)) : W B0 (tLc wi g tt te vs) E C P := w_lcQ false L st h hn hs
theorem w_lcC (L : List D → List D → CH → Prop) (st : Sets g vs) (h : WI B0 wi E C fun ds C1 => ds.length ≤ 1000000 ∧ L ds [] C1) (hn : ∀ acc C1, L [] acc C1 → ∀ a, C1 a = none → P (.ref a) (updC C1 a (.lst acc)))
    (hs : ∀ x xs acc C1, L (x :: xs) acc C1 → WG B0 g x (wipeE E vs) C1 fun E2 C2 => WT B0 tt E2 C2 fun b C3 =>
      (b = true → W B0 te E2 C3 fun y C4 => L xs (acc ++ [y]) C4) ∧ (b = false → L xs acc C3)) : W B0 (tLc wi g tt te vs) E C P := w_lcQ true L st h hn hs
theorem wt_yes {PB : Bool → CH → Prop} (k : PB true C) : WT B0 tYes E C PB := fun B F σ H _ rl _ _ q => q _ B C H (Same.refl B) rl k
/-- the common case: each item gives f of it, nothing else changes -/
theorem w_lcMap {j : Nat} (f : D → D) (hj : j ∈ vs) (h : WI B0 wi E C fun ds C1 => ds.length ≤ 1000000 ∧ (∀ x ∈ ds, W B0 te ((wipeE E vs).set j (some x)) C1 fun y C4 => y = f x ∧ C4 = C1) ∧ P (.lst (ds.map f)) C1) :
    W B0 (tLc wi (gName j) tYes te vs) E C P := by
  refine w_lc (fun rest acc C1 => ∃ ds, (∀ x ∈ ds, W B0 te ((wipeE E vs).set j (some x)) C1 fun y C4 => y = f x ∧ C4 = C1) ∧ P (.lst (ds.map f)) C1 ∧ ∃ pre, ds = pre ++ rest ∧ acc = pre.map f) (sets_name hj) ?_ ?_ ?_
  · exact fun B F σ H sb rl re R q => h B F σ H sb rl re R fun J ds B' C' H' e r jd ⟨a, b, c⟩ => q J ds B' C' H' e r jd ⟨a, ds, b, c, [], rfl, rfl⟩
  · rintro acc C1 ⟨ds, _, p, pre, rfl, rfl⟩
    simpa using p
  · rintro x xs acc C1 ⟨ds, hw, p, pre, rfl, rfl⟩
    refine wg_name (wt_yes ⟨fun _ => ?_, fun z => by cases z⟩)
    refine (hw x (by simp)).imp fun y C4 ⟨hy, hc⟩ => ?_
    subst hy hc
    exact ⟨_, hw, p, pre ++ [x], by simp, by simp⟩
/-- .. and each item that passes t -/
theorem w_lcFilter {j : Nat} (f : D → D) (b : D → Bool) (hj : j ∈ vs) (h : WI B0 wi E C fun ds C1 => ds.length ≤ 1000000 ∧
      (∀ x ∈ ds, WT B0 tt ((wipeE E vs).set j (some x)) C1 fun k C4 => k = b x ∧ C4 = C1) ∧
      (∀ x ∈ ds, b x = true → W B0 te ((wipeE E vs).set j (some x)) C1 fun y C4 => y = f x ∧ C4 = C1) ∧ P (.lst ((ds.filter b).map f)) C1) :
    W B0 (tLc wi (gName j) tt te vs) E C P := by
  refine w_lc (fun rest acc C1 => ∃ ds, (∀ x ∈ ds, WT B0 tt ((wipeE E vs).set j (some x)) C1 fun k C4 => k = b x ∧ C4 = C1) ∧ (∀ x ∈ ds, b x = true → W B0 te ((wipeE E vs).set j (some x)) C1 fun y C4 => y = f x ∧ C4 = C1) ∧ P (.lst ((ds.filter b).map f)) C1 ∧ ∃ pre, ds = pre ++ rest ∧ acc = (pre.filter b).map f) (sets_name hj) ?_ ?_ ?_
  · exact fun B F σ H sb rl re R q => h B F σ H sb rl re R fun J ds B' C' H' e r jd ⟨a, t, w, c⟩ => q J ds B' C' H' e r jd ⟨a, ds, t, w, c, [], rfl, rfl⟩
  · rintro acc C1 ⟨ds, _, _, p, pre, rfl, rfl⟩
    simpa using p
  · rintro x xs acc C1 ⟨ds, ht, hw, p, pre, rfl, rfl⟩
    refine wg_name ?_
    intro B F σ H sb rl re Q q
    refine ht x (by simp) B F σ H sb rl re Q fun k B' C' H' e rl' ⟨hk, hc⟩ => q k B' C' H' e rl' ⟨fun kt => ?_, fun kf => ?_⟩
    · subst hc
      rw [kt] at hk
      refine (hw x (by simp) hk.symm).imp fun y C4 ⟨hy, hc⟩ => ?_
      subst hy hc
      exact ⟨_, ht, hw, p, pre ++ [x], by simp, by simp [← hk]⟩
    · subst hc
      rw [kf] at hk
      exact ⟨_, ht, hw, p, pre ++ [x], by simp, by simp [← hk]⟩
end

/-! ### calls of defs -/
abbrev SpD := List D → CH → (D → CH → Prop) → Prop
def spD (f : SpD) : Sp := fun vs H Q _ => ∃ (B F : Hp) (C : CH) (ds : List D) (P : D → CH → Prop), Rel B C F H ∧ Reps B vs ds ∧ f ds C P ∧
  ∀ v d B' C' H', Same B B' → Rel B' C' F H' → Rep B' v d → P d C' → Q v H'
theorem w_call {B0 : Hp} {f : SpD} {E0' : XK} {tA : TA} {E : EnvD} {C : CH} {P : D → CH → Prop} (h : WA B0 tA E C fun ds C1 => f ds C1 P) : W B0 (tCall (spD f) [] E0' tA) E C P := fun B F σ H sb rl re Q q =>
  h B F σ H sb rl re _ fun vs ds B1 C1 H1 e1 rl1 rp p => ⟨B1, F, C1, ds, P, rl1, by rw [List.append_nil]; exact rp, p, fun v d B' C' H' e => q v d B' C' H' (e1.trans e)⟩
section
variable {P : Program} {w : World} {K : PySem.W.Frag} {mg : Str → Option Value} {base : Heap}
def Has (P : Program) (w : World) (K : PySem.W.Frag) (mg : Str → Option Value) (base : Heap) (k : Nat) (x : Str) (ps : List Str) (sp : Sp) : Prop :=
  ∃ f fd, FnOk P w K mg base CX0 k f fd ps sp ∧ mg x = some (.ref f) ∧ PySem.W.keepIn K (.ref f) = true ∧ Binds K fd ps []
/-- a def of the top, as it stands -/
def DefAt (K : PySem.W.Frag) (mg : Str → Option Value) (x : Str) (st : Stmt) (ps : List Str) : Prop :=
  ∃ f fd, Fun K x x st f fd ∧ mg x = some (.ref f) ∧ Binds K fd ps []
theorem Has.mono {j k : Nat} {x : Str} {ps : List Str} {sp : Sp} (h : Has P w K mg base j x ps sp) (l : j ≤ k) : Has P w K mg base k x ps sp := by
  obtain ⟨f, fd, a, b, c, d⟩ := h
  exact ⟨f, fd, a.mono l, b, c, d⟩
theorem Has.imp {k : Nat} {x : Str} {ps : List Str} {f g : SpD} (h : Has P w K mg base k x ps (spD f)) (l : ∀ ds C P, g ds C P → f ds C P) : Has P w K mg base k x ps (spD g) := by
  obtain ⟨a, fd, F, b, c, d⟩ := h
  exact ⟨a, fd, F.imp fun vs H Q E ⟨B, F, C, ds, P, r, rp, g, q⟩ => ⟨B, F, C, ds, P, r, rp, l _ _ _ g, q⟩, b, c, d⟩
theorem has_of {x : Str} {st : Stmt} {N ps : List Str} {k : Nat} {g : SpD} (Df : DefAt K mg x st ps) (S : FnScope N ps (defScope st)) (len : ∀ ds C P, g ds C P → ds.length = ps.length)
    (hbody : ∀ (f : Addr) (cdv : Value) (A : Around) (outer : List PySem.Env) (s : Shared) (H : Hp) (E : XK), Room k (A.deeper (PyProof.Rows.envOfC x (defScope st) s.heap.objs.size f cdv)) →
      ∃ t, PSs (cxOf CX0 P w K mg base N x (defScope st) f cdv A outer s H E).nox (defBody st) t ∧ ∀ B ds C PD, g ds C PD → WS B t (startD N.length ds) C { nx := fun _ C' => PD .non C', rt := PD }) :
    Has P w K mg base (k + 1) x ps (spD g) := by
  obtain ⟨f, fd, F, hm, hb⟩ := Df
  refine ⟨f, fd, F.ok S ?_ ?_, hm, F.kp, hb⟩
  · rintro vs H Q E ⟨B, F, C, ds, P, _, rp, h, _⟩
    rw [rp.length]
    exact len _ _ _ h
  · intro cdv A outer s H vs Q E hr h
    obtain ⟨t, h1, h2⟩ := hbody f cdv A outer s H E hr
    obtain ⟨B, F, C, ds, P, rl, rp, hg, q⟩ := h
    refine ⟨t, h1, h2 B ds C P hg B F _ H (Same.refl B) rl (RelE.begin rp) _ ⟨?_, ?_, ?_, ?_⟩⟩
    · exact fun σ' E' B' C' H' e rl' _ p => q .non .non B' C' H' e rl' .non p
    · exact fun v d B' C' H' e rl' rp' p => q v d B' C' H' e rl' rp' p
    · exact fun _ _ _ _ _ _ _ _ z => z
    · exact fun _ _ _ _ _ _ _ _ z => z
end
/-! ### what is called with the law's script -/
abbrev SpS := List Int → CH → (D → CH → Prop) → Prop
def spScr (K : PySem.W.Frag) (g : SpS) : Sp := fun vs H Q _ => ∃ (B F : Hp) (C : CH) (a : Addr) (ns : List Int) (P : D → CH → Prop), Rel B C F H ∧ vs = [.ref a] ∧ SqL K B a (ns.map V.int) ∧ g ns C P ∧
  ∀ v d B' C' H', Same B B' → Rel B' C' F H' → Rep B' v d → P d C' → Q v H'
theorem w_callScr {K : PySem.W.Frag} {B0 : Hp} {g : SpS} {E0' : XK} {E : EnvD} {C : CH} {P : D → CH → Prop} {i : Nat} {a : Addr} {ns : List Int} (he : E[i]? = some (some (.ref a))) (hs : SqL K B0 a (ns.map V.int)) (h : g ns C P) :
    W B0 (tCall (spScr K g) [] E0' (tCons (tVar i) tNil)) E C P := fun B F σ H sb rl re Q q => by
  obtain ⟨v, h1, h2⟩ := re.get i _ he
  cases h2
  exact ⟨_, h1, B, F, C, a, ns, P, rl, rfl, sb.seq hs, h, q⟩
section
variable {P : Program} {w : World} {K : PySem.W.Frag} {mg : Str → Option Value} {base : Heap}
theorem fn_ofScr {x : Str} {st : Stmt} {N : List Str} {p : Str} {k : Nat} {g : SpS} {f : Addr} {fd : FuncData} (F : Fun K x x st f fd) (S : FnScope N [p] (defScope st))
    (hbody : ∀ (f : Addr) (cdv : Value) (A : Around) (outer : List PySem.Env) (s : Shared) (H : Hp) (E : XK), Room k (A.deeper (PyProof.Rows.envOfC x (defScope st) s.heap.objs.size f cdv)) →
      ∃ t, PSs (cxOf CX0 P w K mg base N x (defScope st) f cdv A outer s H E).nox (defBody st) t ∧ ∀ B a ns C PD, SqL K B a (ns.map V.int) → g ns C PD → WS B t (startD N.length [.ref a]) C { nx := fun _ C' => PD .non C', rt := PD }) :
    FnOk P w K mg base CX0 (k + 1) f fd [p] (spScr K g) := by
  refine F.ok S ?_ ?_
  · rintro vs H Q E ⟨B, F, C, a, ns, P, _, rfl, _⟩
    rfl
  · intro cdv A outer s H vs Q E hr h
    obtain ⟨t, h1, h2⟩ := hbody f cdv A outer s H E hr
    obtain ⟨B, F, C, a, ns, P, rl, rfl, hs, hg, q⟩ := h
    refine ⟨t, h1, h2 B a ns C P hs hg B F _ H (Same.refl B) rl (RelE.begin (.one .ref)) _ ⟨?_, ?_, ?_, ?_⟩⟩
    · exact fun σ' E' B' C' H' e rl' _ p => q .non .non B' C' H' e rl' .non p
    · exact fun v d B' C' H' e rl' rp' p => q v d B' C' H' e rl' rp' p
    · exact fun _ _ _ _ _ _ _ _ z => z
    · exact fun _ _ _ _ _ _ _ _ z => z
theorem has_ofScr {x : Str} {st : Stmt} {N : List Str} {p : Str} {k : Nat} {g : SpS} (Df : DefAt K mg x st [p]) (S : FnScope N [p] (defScope st))
    (hbody : ∀ (f : Addr) (cdv : Value) (A : Around) (outer : List PySem.Env) (s : Shared) (H : Hp) (E : XK), Room k (A.deeper (PyProof.Rows.envOfC x (defScope st) s.heap.objs.size f cdv)) →
      ∃ t, PSs (cxOf CX0 P w K mg base N x (defScope st) f cdv A outer s H E).nox (defBody st) t ∧ ∀ B a ns C PD, SqL K B a (ns.map V.int) → g ns C PD → WS B t (startD N.length [.ref a]) C { nx := fun _ C' => PD .non C', rt := PD }) :
    Has P w K mg base (k + 1) x [p] (spScr K g) := by
  obtain ⟨f, fd, F, hm, hb⟩ := Df
  exact ⟨f, fd, fn_ofScr F S hbody, hm, F.kp, hb⟩
/-- what law(script) promises -/
def spLaw (K : PySem.W.Frag) : Sp := fun vs H Q _ => ∃ (a : Addr) (ns : List Int), vs = [.ref a] ∧ SqL K H a (ns.map V.int) ∧ ns.length ≤ 63 ∧ ∀ H', Q (.bl true) H'
/-- the law from its promise over deep values -/
theorem law_of {k : Nat} {f : Addr} {fd : FuncData} {ps : List Str} (F : FnOk P w K mg base CX0 k f fd ps (spScr K fun ns C P => ns.length ≤ 63 ∧ C = (fun _ => none) ∧ ∀ C', P (.bl true) C')) : FnOk P w K mg base CX0 k f fd ps (spLaw K) :=
  F.imp fun vs H Q E ⟨a, ns, e, hs, hl, q⟩ => ⟨H, fun _ => none, fun _ => none, a, ns, fun d _ => d = .bl true, ⟨Same.refl H, (fun _ _ z => by cases z), (fun _ _ z => by cases z), (fun _ _ z => by cases z), (fun _ _ z => by cases z), (fun _ _ z => by cases z)⟩, e, hs,
    ⟨hl, rfl, fun _ => rfl⟩, fun v d B' C' H' _ _ rp e => by subst e; cases rp; exact q H'⟩
end
section
variable {X : Cx} {x : Str} {ps : List Str} {sp : Sp} {k : Nat} {p pos : Pos} {e : Expr} {es : List Expr} {t : TA}
theorem pe_def (h : Has X.prog X.w X.K X.mg X.base k x ps sp) (hr : Room k X.A) (ha : PA X (e :: es) t) (hg : Gl X x := by rfl) (hdb : (x == ("__debug__" : Str)) = false := by decide)
    (he : starEach (e :: es) X.env = (false, eval e X.env) :: starEach es X.env := by rfl) (hpl : (backTo pos (starEach es X.env)).any (·.1) = false := by rfl) (hx : ∀ CXX, CXX = CX0 → Passes CXX X E0 := by intro _ h; subst h; exact pass0) :
    PE X (.Call (.Name x p) (e :: es) [] pos) (tCall sp [] E0 t) := by
  obtain ⟨f, fd, F, hm, hk, hb⟩ := h
  exact pe_call F hr hg hm hk hb .nil (hx _ rfl) ha hdb he hpl
theorem pe_def0 (h : Has X.prog X.w X.K X.mg X.base k x ps sp) (hr : Room k X.A) (hg : Gl X x := by rfl) (hdb : (x == ("__debug__" : Str)) = false := by decide) (hx : ∀ CXX, CXX = CX0 → Passes CXX X E0 := by intro _ h; subst h; exact pass0) :
    PE X (.Call (.Name x p) [] [] pos) (tCall sp [] E0 tNil) := by
  obtain ⟨f, fd, F, hm, hk, hb⟩ := h
  exact pe_call0 F hr hg hm hk hb .nil (hx _ rfl) hdb
def IntAt (mg : Str → Option Value) (x : Str) (i : Int) : Prop := ∃ t, mg x = some (.int i t)
theorem pe_globI {i : Int} (h : IntAt X.mg x i) (hg : Gl X x := by rfl) (hd : (x == ("__debug__" : Str)) = false := by decide) : PE X (.Name x pos) (tC (.int i)) := by
  obtain ⟨t, h⟩ := h
  exact pe_glob hg h ⟨t, rfl⟩ hd
def StrAt (mg : Str → Option Value) (x : Str) (i : Str) : Prop := ∃ t, mg x = some (.str i t)
theorem pe_globS {i : Str} (h : StrAt X.mg x i) (hg : Gl X x := by rfl) (hd : (x == ("__debug__" : Str)) = false := by decide) : PE X (.Name x pos) (tC (.str i)) := by
  obtain ⟨t, h⟩ := h
  exact pe_glob hg h ⟨t, rfl⟩ hd
end
end Dv

set_option maxRecDepth 100000
set_option maxHeartbeats 1000000
/-! Built-ins, methods, dicts, isinstance. -/
namespace Dv
open PySem L2
section
variable {B0 : Hp} {C : CH} {P : D → CH → Prop} {x y d : D} {i j : Int} {K : PySem.W.Frag} {ds es : List D} {ns : List Int} {E : EnvD} {ks : List (Int × D)}

/-! ### arithmetic with a condition -/
theorem wr_mod (h : 0 < j) (k : P (.int (i % j)) C) : WR B0 (rI (fun _ j => 0 < j) fun i j => .int (i % j)) (.int i) (.int j) C P := wr_intC (g := fun i j => i % j) h k
theorem wr_fdiv (h : 0 < j) (h2 : j < 1073741824) (k : P (.int (i / j)) C) : WR B0 (rI CDiv fun i j => .int (i / j)) (.int i) (.int j) C P := wr_intC (g := fun i j => i / j) ⟨h, h2⟩ k
theorem wr_mul (h : (-18446744073709551616 < i ∧ i < 18446744073709551616) ∨ (-18446744073709551616 < j ∧ j < 18446744073709551616)) (k : P (.int (i * j)) C) : WR B0 (rI CMul fun i j => .int (i * j)) (.int i) (.int j) C P :=
  wr_intC (g := fun i j => i * j) (by rcases h with h | h; exact .inl ⟨by omega, by omega⟩; exact .inr ⟨by omega, by omega⟩) k
theorem wr_pow (h : 0 ≤ j ∧ j ≤ 1000000 ∧ i.natAbs < 18446744073709551616) (k : P (.int (i ^ j.toNat)) C) : WR B0 (rI CPow fun i j => .int (i ^ j.toNat)) (.int i) (.int j) C P := wr_intC (g := fun i j => i ^ j.toNat) ⟨h.1, h.2.1, by have := h.2.2; omega⟩ k

/-! ### len -/
def rLen1 (K : PySem.W.Frag) : List V → Hp → VK → Prop := fun xs H Q => ∃ p ys, xs = [.ref p] ∧ (SqL K H p ys ∨ SqT K H p ys) ∧ Q (.int ys.length) H
def rLen2 : List V → Hp → VK → Prop := fun xs H Q => ∃ z, xs = [.str z] ∧ z.length ≤ sizeLine ∧ Q (.int z.length) H
def rLen3 : List V → Hp → VK → Prop := fun xs H Q => ∃ a kvs, xs = [V.ref a] ∧ H a = some (.dK kvs) ∧ Q (.int kvs.length) H
def rLenU (K : PySem.W.Frag) : List V → Hp → VK → Prop := fun xs H Q => rLen1 K xs H Q ∨ rLen2 xs H Q ∨ rLen3 xs H Q
theorem call_lenU {X : Cx} : CallR X (.builtin "len") (rLenU X.K) := call_len_seq.or (call_len_str.or call_lenD)
theorem wc_len (h : SeqD C x ds) (k : P (.int (ds.length : Int)) C) : WC B0 (rLenU K) [x] C P := fun B F H vs _ rl r Q q => by
  cases r with
  | cons r1 r =>
    cases r
    obtain ⟨a, vs, rfl, hs, rr⟩ := seqD_rd (K := K) rl r1 h
    exact .inl ⟨a, vs, rfl, hs, by rw [rr.length]; exact q _ _ B C H (Same.refl B) rl .int k⟩
theorem wc_lenS {z : Str} (h : z.length ≤ 1000000) (k : P (.int (z.length : Int)) C) : WC B0 (rLenU K) [.str z] C P := fun B F H vs _ rl r Q q => by
  cases r with
  | cons r1 r =>
    cases r; cases r1
    exact .inr (.inl ⟨z, rfl, Nat.le_trans h (by decide), q _ _ B C H (Same.refl B) rl .int k⟩)
theorem wc_lenD (h : DicD C x ks) (k : P (.int (ks.length : Int)) C) : WC B0 (rLenU K) [x] C P := fun B F H vs _ rl r Q q => by
  cases r with
  | cons r1 r =>
    cases r
    obtain ⟨a, vs, rfl, hs, rr⟩ := dicD_rd rl r1 h
    exact .inr (.inr ⟨a, vs, rfl, hs, by rw [repK_len rr]; exact q _ _ B C H (Same.refl B) rl .int k⟩)

/-! ### max, min, sum, all, any, abs, int -/
def rMax2' : List V → Hp → VK → Prop := fun xs H Q => ∃ i j, xs = [.int i, .int j] ∧ Q (.int (if j > i then j else i)) H
def rMin2' : List V → Hp → VK → Prop := fun xs H Q => ∃ i j, xs = [.int i, .int j] ∧ Q (.int (if j < i then j else i)) H
def rMaxU (K : PySem.W.Frag) : List V → Hp → VK → Prop := fun xs H Q => rMax K xs H Q ∨ rMax2' xs H Q
def rMinU (K : PySem.W.Frag) : List V → Hp → VK → Prop := fun xs H Q => rMin K xs H Q ∨ rMin2' xs H Q
theorem call_maxU {X : Cx} (hc : X.calm = true) : CallR X (.builtin "max") (rMaxU X.K) := (cr_max hc).or (call_max2 hc)
theorem call_minU {X : Cx} (hc : X.calm = true) : CallR X (.builtin "min") (rMinU X.K) := (cr_min hc).or (call_min2 hc)
theorem max_if (i j : Int) : (if j > i then j else i) = max i j := by
  rw [Int.max_def]; split <;> split <;> omega
theorem min_if (i j : Int) : (if j < i then j else i) = min i j := by
  rw [Int.min_def]; split <;> split <;> omega
theorem wc_max2 (k : P (.int (max i j)) C) : WC B0 (rMaxU K) [.int i, .int j] C P := fun B F H vs _ rl r Q q => by
  cases r with
  | cons r1 r =>
    cases r with
    | cons r2 r =>
      cases r; cases r1; cases r2
      exact .inr ⟨i, j, rfl, by rw [max_if]; exact q _ _ B C H (Same.refl B) rl .int k⟩
theorem wc_min2 (k : P (.int (min i j)) C) : WC B0 (rMinU K) [.int i, .int j] C P := fun B F H vs _ rl r Q q => by
  cases r with
  | cons r1 r =>
    cases r with
    | cons r2 r =>
      cases r; cases r1; cases r2
      exact .inr ⟨i, j, rfl, by rw [min_if]; exact q _ _ B C H (Same.refl B) rl .int k⟩
theorem wc_maxL (h : LstD C x (ns.map D.int)) (h0 : 0 < ns.length) (k : ∀ m, m ∈ ns → (∀ y, y ∈ ns → y ≤ m) → P (.int m) C) : WC B0 (rMaxU K) [x] C P := fun B F H vs _ rl r Q q => by
  cases r with
  | cons r1 r =>
    cases r
    obtain ⟨a, vs, rfl, hs, rr⟩ := lstD_rd rl r1 h
    have e := rr.ints
    subst e
    exact .inl ⟨a, ns, rfl, SqL.of hs, h0, fun m hm hle => q _ _ B C H (Same.refl B) rl .int (k m hm hle)⟩
theorem wc_sum (h : LstD C x (ns.map D.int)) (k : P (.int ns.sum) C) : WC B0 (rSum K) [x] C P := fun B F H vs _ rl r Q q => by
  cases r with
  | cons r1 r =>
    cases r
    obtain ⟨a, vs, rfl, hs, rr⟩ := lstD_rd rl r1 h
    have e := rr.ints
    subst e
    exact ⟨a, ns, rfl, SqL.of hs, q _ _ B C H (Same.refl B) rl .int k⟩
theorem wc_all {bs : List Bool} (h : LstD C x (bs.map D.bl)) (k : P (.bl (bs.all id)) C) : WC B0 (rAll K) [x] C P := fun B F H vs _ rl r Q q => by
  cases r with
  | cons r1 r =>
    cases r
    obtain ⟨a, vs, rfl, hs, rr⟩ := lstD_rd rl r1 h
    have e := rr.bls
    subst e
    exact ⟨a, bs, rfl, SqL.of hs, q _ _ B C H (Same.refl B) rl .bl k⟩
theorem wc_any {bs : List Bool} (h : LstD C x (bs.map D.bl)) (k : P (.bl (bs.any id)) C) : WC B0 (rAny K) [x] C P := fun B F H vs _ rl r Q q => by
  cases r with
  | cons r1 r =>
    cases r
    obtain ⟨a, vs, rfl, hs, rr⟩ := lstD_rd rl r1 h
    have e := rr.bls
    subst e
    exact ⟨a, bs, rfl, SqL.of hs, q _ _ B C H (Same.refl B) rl .bl k⟩
def rAbs : List V → Hp → VK → Prop := fun xs H Q => ∃ i, xs = [.int i] ∧ Q (.int (if i < 0 then -i else i)) H
theorem call_absN {X : Cx} : CallR X (.builtin "abs") rAbs := call_abs
theorem abs_if (i : Int) : (if i < 0 then -i else i) = (i.natAbs : Int) := by split <;> omega
theorem wc_abs (k : P (.int (i.natAbs : Int)) C) : WC B0 rAbs [.int i] C P := fun B F H vs _ rl r Q q => by
  cases r with
  | cons r1 r =>
    cases r; cases r1
    exact ⟨i, rfl, by rw [abs_if]; exact q _ _ B C H (Same.refl B) rl .int k⟩
def rInt1 : List V → Hp → VK → Prop := fun xs H Q => (∃ i, xs = [.int i] ∧ Q (.int i) H) ∨ ∃ k, xs = [.bl k] ∧ Q (.int (if k then 1 else 0)) H
def rInt2 : List V → Hp → VK → Prop := fun xs H Q => ∃ a n, xs = [.str a] ∧ PySem.intText? a = some n ∧ a.length ≤ 640 ∧ Q (.int n) H
def rIntU : List V → Hp → VK → Prop := fun xs H Q => rInt1 xs H Q ∨ rInt2 xs H Q
theorem call_intU {X : Cx} : CallR X (.type "int") rIntU := call_int1.or call_int_str
theorem wc_int (k : P (.int i) C) : WC B0 rIntU [.int i] C P := fun B F H vs _ rl r Q q => by
  cases r with
  | cons r1 r =>
    cases r; cases r1
    exact .inl (.inl ⟨i, rfl, q _ _ B C H (Same.refl B) rl .int k⟩)
theorem wc_intS {a : Str} {n : Int} (h1 : PySem.intText? a = some n) (h2 : a.length ≤ 640) (k : P (.int n) C) : WC B0 rIntU [.str a] C P := fun B F H vs _ rl r Q q => by
  cases r with
  | cons r1 r =>
    cases r; cases r1
    exact .inr ⟨a, n, rfl, h1, h2, q _ _ B C H (Same.refl B) rl .int k⟩

/-! ### list(..), tuple(..), dict(..) -/
def rLst1 (K : PySem.W.Frag) : List V → Hp → VK → Prop := fun xs H Q => ∃ p ys, xs = [.ref p] ∧ (SqL K H p ys ∨ SqT K H p ys) ∧ ∀ l, H l = none → Q (.ref l) (upd H l (.lst ys))
def rLstU (K : PySem.W.Frag) : List V → Hp → VK → Prop := fun xs H Q => rLst1 K xs H Q ∨ rListD xs H Q
theorem call_lstU {X : Cx} (hc : X.calm = true) : CallR X (.type "list") (rLstU X.K) := call_list_of.or (call_list_dK hc)
theorem wc_list (h : SeqD C x ds) (k : P (.lst ds) C) : WC B0 (rLstU K) [x] C P := fun B F H vs _ rl r Q q => by
  cases r with
  | cons r1 r =>
    cases r
    obtain ⟨a, vs, rfl, hs, rr⟩ := seqD_rd (K := K) rl r1 h
    exact .inl ⟨a, vs, rfl, hs, fun l hl => by
      have e := same_upd (o := .lst vs) (rl.noB hl)
      exact q _ _ _ C _ e (rl.new hl) (.lst upd_same (rr.mono e)) k⟩
theorem wc_listC (h : SeqD C x ds) (k : ∀ a, C a = none → P (.ref a) (updC C a (.lst ds))) : WC B0 (rLstU K) [x] C P := fun B F H vs _ rl r Q q => by
  cases r with
  | cons r1 r =>
    cases r
    obtain ⟨a, vs, rfl, hs, rr⟩ := seqD_rd (K := K) rl r1 h
    exact .inl ⟨a, vs, rfl, hs, fun l hl => q _ _ B _ _ (Same.refl B) (rl.newC hl (.lst rr)) .ref (k l (rl.noC hl))⟩
theorem repK_keys {B : Hp} {vs : List (Key × V)} {ks : List (Int × D)} (r : RepK B vs ks) : vs.map (fun kv => kV kv.1) = (ks.map (·.1)).map V.int := by
  induction vs generalizing ks with
  | nil => cases r; rfl
  | cons p vs ih =>
    cases r with
    | cons h r =>
      rw [List.map_cons, List.map_cons, List.map_cons, ih r]
      rfl
theorem wc_listK (h : DicD C x ks) (k : P (.lst ((ks.map (·.1)).map D.int)) C) : WC B0 (rLstU K) [x] C P := fun B F H vs _ rl r Q q => by
  cases r with
  | cons r1 r =>
    cases r
    obtain ⟨a, vs, rfl, hs, rr⟩ := dicD_rd rl r1 h
    refine .inr ⟨a, vs, rfl, hs, fun l hl => ?_⟩
    have e := same_upd (o := .lst (vs.map fun kv => kV kv.1)) (rl.noB hl)
    exact q _ _ _ C _ e (rl.new hl) (.lst upd_same (by rw [repK_keys rr]; exact Reps.ofInts _)) k
/-- the law's script, read once -/
theorem wc_listScr {a : Addr} (h : SqL K B0 a (ns.map V.int)) (k : P (.lst (ns.map D.int)) C) : WC B0 (rLstU K) [.ref a] C P := fun B F H vs sb rl r Q q => by
  cases r with
  | cons r1 r =>
    cases r; cases r1
    refine .inl ⟨a, _, rfl, .inl (rl.ex.seq (sb.seq h)), fun l hl => ?_⟩
    have e := same_upd (o := .lst (ns.map V.int)) (rl.noB hl)
    exact q _ _ _ C _ e (rl.new hl) (.lst upd_same (Reps.ofInts ns)) k
def rTupU (K : PySem.W.Frag) : List V → Hp → VK → Prop := fun xs H Q => ∃ p ys, xs = [.ref p] ∧ ((SqL K H p ys ∧ ∀ l, H l = none → Q (.ref l) (upd H l (.tup ys))) ∨ (SqT K H p ys ∧ Q (.ref p) H))
theorem call_tupU {X : Cx} : CallR X (.type "tuple") (rTupU X.K) := call_tuple_of
theorem wc_tuple (h : LstD C x ds) (k : P (.tup ds) C) : WC B0 (rTupU K) [x] C P := fun B F H vs _ rl r Q q => by
  cases r with
  | cons r1 r =>
    cases r
    obtain ⟨a, vs, rfl, hs, rr⟩ := lstD_rd rl r1 h
    refine ⟨a, vs, rfl, .inl ⟨SqL.of hs, fun l hl => ?_⟩⟩
    have e := same_upd (o := .tup vs) (rl.noB hl)
    exact q _ _ _ C _ e (rl.new hl) (.tup upd_same (rr.mono e)) k
theorem wc_tupleT (k : P (.tup ds) C) : WC B0 (rTupU K) [.tup ds] C P := fun B F H vs _ rl r Q q => by
  cases r with
  | cons r1 r =>
    cases r
    cases r1 with
    | tup ha rr => exact ⟨_, _, rfl, .inr ⟨SqT.of (rl.ex _ _ ha), q _ _ B C H (Same.refl B) rl (.tup ha rr) k⟩⟩
def rDictD : List V → Hp → VK → Prop := fun xs H Q => ∃ (a : Addr) (kvs : List (Key × V)), xs = [.ref a] ∧ Rd H a (.dK kvs) ∧ ∀ p, H p = none → Q (.ref p) (upd H p (.dK kvs))
theorem call_dictN {X : Cx} : CallR X (.type "dict") rDictD := call_dictD
theorem wc_dict (h : DicD C x ks) (k : P (.dic ks) C) : WC B0 rDictD [x] C P := fun B F H vs _ rl r Q q => by
  cases r with
  | cons r1 r =>
    cases r
    obtain ⟨a, vs, rfl, hs, rr⟩ := dicD_rd rl r1 h
    refine ⟨a, vs, rfl, .inl hs, fun l hl => ?_⟩
    have e := same_upd (o := .dK vs) (rl.noB hl)
    exact q _ _ _ C _ e (rl.new hl) (.dic upd_same (rr.mono e)) k
theorem wc_dictC (h : DicD C x ks) (k : ∀ a, C a = none → P (.ref a) (updC C a (.dic ks))) : WC B0 rDictD [x] C P := fun B F H vs _ rl r Q q => by
  cases r with
  | cons r1 r =>
    cases r
    obtain ⟨a, vs, rfl, hs, rr⟩ := dicD_rd rl r1 h
    exact ⟨a, vs, rfl, .inl hs, fun l hl => q _ _ B _ _ (Same.refl B) (rl.newC hl (.dic rr)) .ref (k l (rl.noC hl))⟩

/-! ### methods of lists -/
def WM (B0 : Hp) (r : V → List V → Hp → VK → Prop) (o : D) (ds : List D) (C : CH) (P : D → CH → Prop) : Prop :=
  ∀ (B F H : Hp) (vo : V) (vs : List V), Same B0 B → Rel B C F H → Rep B vo o → Reps B vs ds → ∀ Q : VK,
    (∀ v d B' C' H', Same B B' → Rel B' C' F H' → Rep B' v d → P d C' → Q v H') → r vo vs H Q
theorem w_bmL {r : V → List V → Hp → VK → Prop} {to : TE} {t : TA} (h : W B0 to E C fun o C1 => (∃ ds, LstD C1 o ds) ∧ WA B0 t E C1 fun ds C2 => WM B0 r o ds C2 P) : W B0 (tBM K "list" r to t) E C P := fun B F σ H sb rl re Q q =>
  h B F σ H sb rl re _ fun v d B1 C1 H1 e1 rl1 rp ⟨⟨ds, l⟩, h1⟩ => by
    obtain ⟨a, vs, rfl, ha, _⟩ := lstD_rd rl1 rp l
    refine ⟨.inl ⟨rfl, vs, SqL.of ha⟩, h1 B1 F σ H1 (sb.trans e1) rl1 (re.mono e1) _ fun ws es B2 C2 H2 e2 rl2 rp2 h2 => ?_⟩
    exact h2 B2 F H2 _ ws (sb.trans (e1.trans e2)) rl2 (rp.mono e2) rp2 Q fun v d B3 C3 H3 e3 => q v d B3 C3 H3 ((e1.trans e2).trans e3)
theorem w_bmL0 {r : V → List V → Hp → VK → Prop} {to : TE} (h : W B0 to E C fun o C1 => (∃ ds, LstD C1 o ds) ∧ WM B0 r o [] C1 P) : W B0 (tBM0 K "list" r to) E C P := fun B F σ H sb rl re Q q =>
  h B F σ H sb rl re _ fun v d B1 C1 H1 e1 rl1 rp ⟨⟨ds, l⟩, h1⟩ => by
    obtain ⟨a, vs, rfl, ha, _⟩ := lstD_rd rl1 rp l
    refine ⟨.inl ⟨rfl, vs, SqL.of ha⟩, ?_⟩
    exact h1 B1 F H1 _ [] (sb.trans e1) rl1 rp .nil Q fun v d B3 C3 H3 e3 => q v d B3 C3 H3 (e1.trans e3)
theorem wm_append {a : Addr} (h : C a = some (.lst ds)) (hl : ds.length < 1000000) (k : P .non (updC C a (.lst (ds ++ [d])))) : WM B0 rAppend (.ref a) [d] C P := fun B F H vo vs _ rl ho r Q q => by
  cases ho
  cases r with
  | cons r1 r =>
    cases r
    obtain ⟨o, h1, h2⟩ := rl.own _ _ h
    cases h2 with
    | @lst ws _ rr =>
      exact ⟨a, ws, _, rfl, rfl, h1, by rw [rr.length]; exact Nat.lt_trans hl (by decide), q _ _ B _ _ (Same.refl B) (rl.write h (.lst (rr.append (.one r1)))) .non k⟩
theorem wm_extend {a : Addr} (h : C a = some (.lst ds)) (hy : LstD C y es) (hl : ds.length + es.length ≤ 1000000) (k : P .non (updC C a (.lst (ds ++ es)))) : WM B0 rExtend (.ref a) [y] C P := fun B F H vo vs _ rl ho r Q q => by
  cases ho
  cases r with
  | cons r1 r =>
    cases r
    obtain ⟨o, h1, h2⟩ := rl.own _ _ h
    obtain ⟨b, zs, rfl, hb, rz⟩ := lstD_rd rl r1 hy
    cases h2 with
    | @lst ws _ rr =>
      exact ⟨a, b, ws, zs, rfl, rfl, h1, hb, by rw [rr.length, rz.length]; exact Nat.le_trans hl (by decide), q _ _ B _ _ (Same.refl B) (rl.write h (.lst (rr.append rz))) .non k⟩
def rInsert : V → List V → Hp → VK → Prop := fun x vs H Q => ∃ (l : Addr) (xs : List V) (i : Int) (y : V), x = .ref l ∧ vs = [.int i, y] ∧ H l = some (.lst xs) ∧ xs.length < sizeLine ∧ 0 ≤ i ∧ i < 2 ^ 63 ∧
    Q .non (upd H l (.lst (xs.take i.toNat ++ [y] ++ xs.drop i.toNat)))
theorem mt_insertN {X : Cx} : MtM X "list.insert" rInsert := mt_insert
theorem wm_insert {a : Addr} (h : C a = some (.lst ds)) (hl : ds.length < 1000000) (h0 : 0 ≤ i) (h1 : i < 2 ^ 63) (k : P .non (updC C a (.lst (ds.take i.toNat ++ [d] ++ ds.drop i.toNat)))) : WM B0 rInsert (.ref a) [.int i, d] C P := fun B F H vo vs _ rl ho r Q q => by
  cases ho
  cases r with
  | cons r1 r =>
    cases r1
    cases r with
    | cons r2 r =>
      cases r
      obtain ⟨o, g1, h2⟩ := rl.own _ _ h
      cases h2 with
      | @lst ws _ rr =>
        exact ⟨a, ws, i, _, rfl, rfl, g1, by rw [rr.length]; exact Nat.lt_trans hl (by decide), h0, h1, q _ _ B _ _ (Same.refl B) (rl.write h (.lst (((rr.take _).append (.one r2)).append (rr.drop _)))) .non k⟩
theorem wm_pop {a : Addr} (h : C a = some (.lst ds)) (he : ds[ds.length - 1]? = some d) (k : P d (updC C a (.lst (ds.take (ds.length - 1))))) : WM B0 rPop (.ref a) [] C P := fun B F H vo vs _ rl ho r Q q => by
  cases ho
  cases r
  obtain ⟨o, g1, h2⟩ := rl.own _ _ h
  cases h2 with
  | @lst ws _ rr =>
    obtain ⟨v, hv, rv⟩ := rr.get he
    refine ⟨a, ws, v, rfl, rfl, g1, by rw [rr.length]; exact hv, ?_⟩
    rw [List.dropLast_eq_take, rr.length]
    exact q _ _ B _ _ (Same.refl B) (rl.write h (.lst (rr.take _))) rv k

/-! ### a op b op c; fewer cells told -/
theorem w_chain {r r' : R2} {ta tb tc : TE} (h : W B0 ta E C fun x C1 => W B0 tb E C1 fun y C2 => WR B0 r x y C2 fun z C3 => ∃ k, z = .bl k ∧ (k = true → W B0 tc E C3 fun u C4 => WR B0 r' y u C4 P) ∧ (k = false → P (.bl false) C3)) : W B0 (tChain r r' ta tb tc) E C P := fun B F σ H sb rl re Q q =>
  h B F σ H sb rl re _ fun v1 d1 B1 C1 H1 e1 rl1 rp1 h1 => h1 B1 F σ H1 (sb.trans e1) rl1 (re.mono e1) _ fun v2 d2 B2 C2 H2 e2 rl2 rp2 h2 =>
    h2 B2 F H2 v1 v2 (sb.trans (e1.trans e2)) rl2 (rp1.mono e2) rp2 _ fun v3 d3 B3 C3 H3 e3 rl3 rp3 ⟨k, hk, p1, p2⟩ => by
      subst hk
      cases rp3
      refine ⟨k, rfl, ?_⟩
      cases k with
      | false => exact q _ _ B3 C3 H3 ((e1.trans e2).trans e3) rl3 .bl (p2 rfl)
      | true =>
        exact p1 rfl B3 F σ H3 (sb.trans ((e1.trans e2).trans e3)) rl3 (re.mono ((e1.trans e2).trans e3)) _ fun v4 d4 B4 C4 H4 e4 rl4 rp4 h4 =>
          h4 B4 F H4 v2 v4 (sb.trans (((e1.trans e2).trans e3).trans e4)) rl4 (rp2.mono (e3.trans e4)) rp4 Q fun v d B5 C5 H5 e5 => q v d B5 C5 H5 ((((e1.trans e2).trans e3).trans e4).trans e5)
theorem Rel.sub {B F H : Hp} {C C2 : CH} (r : Rel B C F H) (h : ∀ a c, C2 a = some c → C a = some c) : Rel B C2 F H where
  ex := r.ex
  fr := r.fr
  bf := r.bf
  cf := fun a o q => by
    cases e : C2 a with
    | none => rfl
    | some c => have := h a c e; rw [r.cf a o q] at this; cases this
  bc := fun a c q => r.bc a c (h a c q)
  own := fun a c q => r.own a c (h a c q)
theorem w_weak {te : TE} (h : W B0 te E C fun d C1 => ∃ C2 : CH, (∀ a c, C2 a = some c → C1 a = some c) ∧ P d C2) : W B0 te E C P := fun B F σ H sb rl re Q q =>
  h B F σ H sb rl re Q fun v d B1 C1 H1 e1 rl1 rp ⟨C2, h2, p⟩ => q v d B1 C2 H1 e1 (rl1.sub h2) rp p

def Sub (C2 C1 : CH) : Prop := ∀ a c, C2 a = some c → C1 a = some c
theorem Sub.refl (C : CH) : Sub C C := fun _ _ h => h
theorem Sub.trans {C1 C2 C3 : CH} (a : Sub C1 C2) (b : Sub C2 C3) : Sub C1 C3 := fun x c h => b x c (a x c h)
theorem sub_updC {a : Addr} {c : Cell} (h : C a = none) : Sub C (updC C a c) := fun b c' e => by
  rw [updC_ne (fun z => by rw [z, h] at e; cases e)]; exact e
/-- fewer cells are told at the end -/
theorem ws_weak {t : TS} {D1 : EndD} (h : WS B0 t E C { D1 with rt := fun d C1 => ∃ C2 : CH, Sub C2 C1 ∧ D1.rt d C2 }) : WS B0 t E C D1 := fun B F σ H sb rl re Dn ok =>
  h B F σ H sb rl re Dn ⟨ok.nx, fun v d B' C' H' e rl' rp ⟨C2, s, k⟩ => ok.rt v d B' C2 H' e (rl'.sub s) rp k, ok.bk, ok.ct⟩

/-! ### a cell is frozen where it is handed on -/
theorem w_varF {i : Nat} {a : Addr} (he : E[i]? = some (some (.ref a))) (hc : C a = some (.lst ds)) (k : P (.lst ds) (delC C a)) : W B0 (tVar i) E C P := fun B F σ H _ rl re Q q => by
  obtain ⟨v, h1, h2⟩ := re.get i _ he
  cases h2
  obtain ⟨o, g1, g2⟩ := rl.own _ _ hc
  cases g2 with
  | @lst vs _ r =>
    have s := same_upd (o := .lst vs) (rl.bc _ _ hc)
    exact ⟨_, h1, q _ _ _ _ H s (rl.freeze hc g1) (.lst upd_same (r.mono s)) k⟩
theorem w_varFD {i : Nat} {a : Addr} (he : E[i]? = some (some (.ref a))) (hc : C a = some (.dic ks)) (k : P (.dic ks) (delC C a)) : W B0 (tVar i) E C P := fun B F σ H _ rl re Q q => by
  obtain ⟨v, h1, h2⟩ := re.get i _ he
  cases h2
  obtain ⟨o, g1, g2⟩ := rl.own _ _ hc
  cases g2 with
  | @dic vs _ r =>
    have s := same_upd (o := .dK vs) (rl.bc _ _ hc)
    exact ⟨_, h1, q _ _ _ _ H s (rl.freeze hc g1) (.dic upd_same (r.mono s)) k⟩
/-- the state told otherwise: a cell frozen, its name's slot told by its content -/
theorem ws_freeze {i : Nat} {a : Addr} {t : TS} {D1 : EndD} (he : E[i]? = some (some (.ref a))) (hc : C a = some (.lst ds)) (k : WS B0 t (E.set i (some (.lst ds))) (delC C a) D1) : WS B0 t E C D1 := fun B F σ H sb rl re Dn ok => by
  obtain ⟨v, h1, h2⟩ := re.get i _ he
  cases h2
  obtain ⟨o, g1, g2⟩ := rl.own _ _ hc
  cases g2 with
  | @lst vs _ r =>
    have s := same_upd (o := .lst vs) (rl.bc _ _ hc)
    have e : σ.set i (some (.ref a)) = σ := by
      apply List.ext_getElem?
      intro j
      by_cases q : i = j
      · subst q
        rw [List.getElem?_set_self (List.getElem?_eq_some_iff.mp h1).1, h1]
      · rw [List.getElem?_set_ne q]
    have re2 := (re.mono s).set i (v := .ref a) (d := .lst ds) (.lst upd_same (r.mono s))
    rw [e] at re2
    exact k _ F σ H (sb.trans s) (rl.freeze hc g1) re2 Dn (ok.mono s)
theorem ws_freezeD {i : Nat} {a : Addr} {t : TS} {D1 : EndD} (he : E[i]? = some (some (.ref a))) (hc : C a = some (.dic ks)) (k : WS B0 t (E.set i (some (.dic ks))) (delC C a) D1) : WS B0 t E C D1 := fun B F σ H sb rl re Dn ok => by
  obtain ⟨v, h1, h2⟩ := re.get i _ he
  cases h2
  obtain ⟨o, g1, g2⟩ := rl.own _ _ hc
  cases g2 with
  | @dic vs _ r =>
    have s := same_upd (o := .dK vs) (rl.bc _ _ hc)
    have e : σ.set i (some (.ref a)) = σ := by
      apply List.ext_getElem?
      intro j
      by_cases q : i = j
      · subst q
        rw [List.getElem?_set_self (List.getElem?_eq_some_iff.mp h1).1, h1]
      · rw [List.getElem?_set_ne q]
    have re2 := (re.mono s).set i (v := .ref a) (d := .dic ks) (.dic upd_same (r.mono s))
    rw [e] at re2
    exact k _ F σ H (sb.trans s) (rl.freeze hc g1) re2 Dn (ok.mono s)

/-! ### stores o[i] = v -/
def WSet (B0 : Hp) (t : TSet) (o i v : D) (C : CH) (N : CH → Prop) : Prop :=
  ∀ (B F H : Hp) (vo vi vv : V), Same B0 B → Rel B C F H → Rep B vo o → Rep B vi i → Rep B vv v → ∀ Q : Hp → Prop, (∀ B' C' H', Same B B' → Rel B' C' F H' → N C' → Q H') → t vo vi vv H Q
theorem wg_sub {to ti : TE} {t : TSet} {N : EnvD → CH → Prop} (h : W B0 to E C fun o C1 => W B0 ti E C1 fun i C2 => WSet B0 t o i d C2 fun C3 => N E C3) : WG B0 (gSub to ti t) d E C N := fun B F σ H v sb rl re rp Q q =>
  h B F σ H sb rl re _ fun v1 d1 B1 C1 H1 e1 rl1 rp1 h1 => h1 B1 F σ H1 (sb.trans e1) rl1 (re.mono e1) _ fun v2 d2 B2 C2 H2 e2 rl2 rp2 h2 =>
    h2 B2 F H2 v1 v2 v (sb.trans (e1.trans e2)) rl2 (rp1.mono e2) rp2 (rp.mono (e1.trans e2)) _ fun B3 C3 H3 e3 rl3 n => q σ E B3 C3 H3 ((e1.trans e2).trans e3) rl3 (re.mono ((e1.trans e2).trans e3)) n
theorem wset_list {a : Addr} {v : D} {n : Nat} {N : CH → Prop} (h : C a = some (.lst ds)) (hi : ixN ds.length i = some n) (k : N (updC C a (.lst (ds.set n v)))) : WSet B0 rSetL (.ref a) (.int i) v C N := fun B F H vo vi vv _ rl ho hi' hv Q q => by
  cases ho; cases hi'
  obtain ⟨o, g1, h2⟩ := rl.own _ _ h
  cases h2 with
  | @lst ws _ rr => exact ⟨a, ws, i, n, rfl, rfl, g1, by rw [rr.length]; exact hi, q B _ _ (Same.refl B) (rl.write h (.lst (rr.set hv n))) k⟩

/-! ### dicts -/
theorem w_dnew (k : P (.dic []) C) : W B0 tDNewK E C P := fun B F σ H _ rl _ Q q a ha => by
  have e := same_upd (o := .dK []) (rl.noB ha)
  exact q _ _ _ C _ e (rl.new ha) (.dic upd_same .nil) k
theorem w_dnewC (k : ∀ a, C a = none → P (.ref a) (updC C a (.dic []))) : W B0 tDNewK E C P := fun B F σ H _ rl _ Q q a ha =>
  q _ _ B _ _ (Same.refl B) (rl.newC ha (.dic .nil)) .ref (k a (rl.noC ha))
theorem w_dget {td ty : TE} (h : W B0 td E C fun x C1 => W B0 ty E C1 fun y C2 => ∃ ks k d, DicD C2 x ks ∧ y = .int k ∧ lookD ks k = some d ∧ P d C2) : W B0 (tDGet td ty) E C P := fun B F σ H sb rl re Q q =>
  h B F σ H sb rl re _ fun v1 d1 B1 C1 H1 e1 rl1 rp1 h1 => h1 B1 F σ H1 (sb.trans e1) rl1 (re.mono e1) _ fun v2 d2 B2 C2 H2 e2 rl2 rp2 ⟨ks, k, d, hd, hk, hl, p⟩ => by
    subst hk
    cases rp2
    obtain ⟨a, vs, rfl, ha, r⟩ := dicD_rd rl2 (rp1.mono e2) hd
    obtain ⟨v, g1, g2⟩ := (repK_look r k).2 d hl
    have g := DGet.k (k := Sum.inl k) ha
    rw [g1] at g
    exact ⟨a, v, rfl, g, q v d B2 C2 H2 (e1.trans e2) rl2 g2 p⟩
/-- what is found under a key, or else -/
def getD' (ks : List (Int × D)) (k : Int) (z : D) : D := (lookD ks k).getD z
theorem w_dget1 {td ty : TE} (h : W B0 td E C fun x C1 => (∃ ks, DicD C1 x ks) ∧ W B0 ty E C1 fun y C2 => ∃ ks k, DicD C2 x ks ∧ y = .int k ∧ P (getD' ks k .non) C2) : W B0 (tDGet1 td ty) E C P := fun B F σ H sb rl re Q q =>
  h B F σ H sb rl re _ fun v1 d1 B1 C1 H1 e1 rl1 rp1 ⟨⟨ks0, hd0⟩, h1⟩ => by
    obtain ⟨a, vs0, rfl, ha0, _⟩ := dicD_rd rl1 rp1 hd0
    refine ⟨a, rfl, .inl ⟨vs0, .inl ha0⟩, h1 B1 F σ H1 (sb.trans e1) rl1 (re.mono e1) _ fun v2 d2 B2 C2 H2 e2 rl2 rp2 ⟨ks, k, hd, hk, p⟩ => ?_⟩
    subst hk
    cases rp2
    obtain ⟨a', vs, e, ha, r⟩ := dicD_rd rl2 (rp1.mono e2) hd
    cases e
    refine ⟨_, DGet.k (k := Sum.inl k) ha, ?_⟩
    unfold getD' at p
    cases g : lookD ks k with
    | none =>
      rw [(repK_look r k).1 g]
      rw [g] at p
      exact q _ _ B2 C2 H2 (e1.trans e2) rl2 .non p
    | some d =>
      obtain ⟨v, g1, g2⟩ := (repK_look r k).2 d g
      rw [g1]
      rw [g] at p
      exact q v d B2 C2 H2 (e1.trans e2) rl2 g2 p
theorem w_dget2 {td ty tx : TE} (h : W B0 td E C fun x C1 => (∃ ks, DicD C1 x ks) ∧ W B0 ty E C1 fun y C2 => W B0 tx E C2 fun z C3 => ∃ ks k, DicD C3 x ks ∧ y = .int k ∧ P (getD' ks k z) C3) : W B0 (tDGet2 td ty tx) E C P := fun B F σ H sb rl re Q q =>
  h B F σ H sb rl re _ fun v1 d1 B1 C1 H1 e1 rl1 rp1 ⟨⟨ks0, hd0⟩, h1⟩ => by
    obtain ⟨a, vs0, rfl, ha0, _⟩ := dicD_rd rl1 rp1 hd0
    refine ⟨a, rfl, .inl ⟨vs0, .inl ha0⟩, h1 B1 F σ H1 (sb.trans e1) rl1 (re.mono e1) _ fun v2 d2 B2 C2 H2 e2 rl2 rp2 h2 =>
      h2 B2 F σ H2 (sb.trans (e1.trans e2)) rl2 (re.mono (e1.trans e2)) _ fun v3 d3 B3 C3 H3 e3 rl3 rp3 ⟨ks, k, hd, hk, p⟩ => ?_⟩
    subst hk
    cases rp2
    obtain ⟨a', vs, e, ha, r⟩ := dicD_rd rl3 (rp1.mono (e2.trans e3)) hd
    cases e
    refine ⟨_, DGet.k (k := Sum.inl k) ha, ?_⟩
    unfold getD' at p
    cases g : lookD ks k with
    | none =>
      rw [(repK_look r k).1 g]
      rw [g] at p
      exact q _ _ B3 C3 H3 ((e1.trans e2).trans e3) rl3 rp3 p
    | some d =>
      obtain ⟨v, g1, g2⟩ := (repK_look r k).2 d g
      rw [g1]
      rw [g] at p
      exact q v d B3 C3 H3 ((e1.trans e2).trans e3) rl3 g2 p
theorem isSome_look {B : Hp} {vs : List (Key × V)} (r : RepK B vs ks) (k : Int) : (valV vs (Sum.inl k)).isSome = (lookD ks k).isSome := by
  cases g : lookD ks k with
  | none => rw [(repK_look r k).1 g]; rfl
  | some d =>
    obtain ⟨v, g1, _⟩ := (repK_look r k).2 d g
    rw [g1]; rfl
theorem w_din {td ty : TE} (h : W B0 ty E C fun y C1 => W B0 td E C1 fun x C2 => ∃ ks k, DicD C2 x ks ∧ y = .int k ∧ P (.bl (lookD ks k).isSome) C2) : W B0 (tDIn ty td) E C P := fun B F σ H sb rl re Q q =>
  h B F σ H sb rl re _ fun v1 d1 B1 C1 H1 e1 rl1 rp1 h1 => h1 B1 F σ H1 (sb.trans e1) rl1 (re.mono e1) _ fun v2 d2 B2 C2 H2 e2 rl2 rp2 ⟨ks, k, hd, hk, p⟩ => by
    subst hk
    cases rp1
    obtain ⟨a, vs, rfl, ha, r⟩ := dicD_rd rl2 rp2 hd
    exact ⟨a, _, rfl, DGet.k (k := Sum.inl k) ha, by rw [isSome_look r k]; exact q _ _ B2 C2 H2 (e1.trans e2) rl2 .bl p⟩
theorem w_dnotin {td ty : TE} (h : W B0 ty E C fun y C1 => W B0 td E C1 fun x C2 => ∃ ks k, DicD C2 x ks ∧ y = .int k ∧ P (.bl (!(lookD ks k).isSome)) C2) : W B0 (tDNotIn ty td) E C P := fun B F σ H sb rl re Q q =>
  h B F σ H sb rl re _ fun v1 d1 B1 C1 H1 e1 rl1 rp1 h1 => h1 B1 F σ H1 (sb.trans e1) rl1 (re.mono e1) _ fun v2 d2 B2 C2 H2 e2 rl2 rp2 ⟨ks, k, hd, hk, p⟩ => by
    subst hk
    cases rp1
    obtain ⟨a, vs, rfl, ha, r⟩ := dicD_rd rl2 rp2 hd
    exact ⟨a, _, rfl, DGet.k (k := Sum.inl k) ha, by rw [isSome_look r k]; exact q _ _ B2 C2 H2 (e1.trans e2) rl2 .bl p⟩
theorem ws_dput {td ty tv : TE} {D1 : EndD} (h : W B0 tv E C fun v C1 => W B0 td E C1 fun x C2 => W B0 ty E C2 fun y C3 => ∃ a ks k, x = .ref a ∧ y = .int k ∧ C3 a = some (.dic ks) ∧ ks.length < 1000000 ∧ D1.nx E (updC C3 a (.dic (putD ks k v)))) : WS B0 (sDPut td ty tv) E C D1 := fun B F σ H sb rl re Dn ok =>
  h B F σ H sb rl re _ fun v1 d1 B1 C1 H1 e1 rl1 rp1 h1 => h1 B1 F σ H1 (sb.trans e1) rl1 (re.mono e1) _ fun v2 d2 B2 C2 H2 e2 rl2 rp2 h2 =>
    h2 B2 F σ H2 (sb.trans (e1.trans e2)) rl2 (re.mono (e1.trans e2)) _ fun v3 d3 B3 C3 H3 e3 rl3 rp3 ⟨a, ks, k, hx, hy, hc, hl, n⟩ => by
      subst hx hy
      cases rp2; cases rp3
      obtain ⟨o, g1, g2⟩ := rl3.own _ _ hc
      cases g2 with
      | @dic vs _ r =>
        refine ⟨a, _, rfl, DPut.k (k := Sum.inl k) g1 (by rw [repK_len r]; exact Nat.lt_trans hl (by decide)), ?_⟩
        exact ok.nx σ E B3 _ _ ((e1.trans e2).trans e3) (rl3.write hc (.dic (repK_put r k (rp1.mono (e2.trans e3))))) (re.mono ((e1.trans e2).trans e3)) n

/-! ### isinstance -/
def tyD (C : CH) : D → Option String
  | .non => some "NoneType" | .bl _ => some "bool" | .int _ => some "int" | .str _ => some "str"
  | .tup _ => some "tuple" | .lst _ => some "list" | .dic _ => some "dict" | .ty _ => none
  | .ref a => match C a with
    | some (.lst _) => some "list"
    | some (.dic _) => some "dict"
    | _ => none
theorem tyD_ok {B F H : Hp} {v : V} {n : String} (rl : Rel B C F H) (h : Rep B v d) (e : tyD C d = some n) : TyX K H v (.type n) := by
  cases h with
  | non => cases e; exact .base .non
  | bl => cases e; exact .base (.bl _)
  | int => cases e; exact .base (.int _)
  | str => cases e; exact .base (.str _)
  | ty => cases e
  | tup h r => cases e; exact .base (.tup (rl.ex _ _ h))
  | lst h r => cases e; exact .base (.lst (rl.ex _ _ h))
  | dic h r => cases e; exact .base (.dK (rl.ex _ _ h))
  | @ref a =>
    have e : (match C a with
      | some (.lst _) => some "list"
      | some (.dic _) => some "dict"
      | _ => none) = some n := e
    split at e
    · rename_i l hc
      cases e
      obtain ⟨o, h1, h2⟩ := rl.own _ _ hc
      cases h2
      exact .base (.lst h1)
    · rename_i l hc
      cases e
      obtain ⟨o, h1, h2⟩ := rl.own _ _ hc
      cases h2
      exact .base (.dK h1)
    · cases e
def rIsiU (K : PySem.W.Frag) : List V → Hp → VK → Prop := fun xs H Q => rIsi K xs H Q ∨ rIsiT K xs H Q
theorem call_isiU {X : Cx} : CallR X (.builtin "isinstance") (rIsiU X.K) := call_isi.or call_isiT
theorem wc_isi {n m : String} {b : Bool} (h : tyD C x = some n) (hk : kitB n m = some b) (k : P (.bl b) C) : WC B0 (rIsiU K) [x, .ty m] C P := fun B F H vs _ rl r Q q => by
  cases r with
  | cons r1 r =>
    cases r with
    | cons r2 r =>
      cases r; cases r2
      exact .inl ⟨_, _, _, _, b, rfl, .ty m, tyD_ok rl r1 h, kit_ty hk, q _ _ B C H (Same.refl B) rl .bl k⟩
theorem wc_isi2 {n m m' : String} {b b' : Bool} (h : tyD C x = some n) (hk : kitB n m = some b) (hk' : kitB n m' = some b') (k : P (.bl (b || b')) C) : WC B0 (rIsiU K) [x, .tup [.ty m, .ty m']] C P := fun B F H vs _ rl r Q q => by
  cases r with
  | cons r1 r =>
    cases r with
    | cons r2 r =>
      cases r
      cases r2 with
      | @tup a ws _ ha rr =>
        cases rr with
        | cons r3 rr =>
          cases rr with
          | cons r4 rr =>
            cases rr; cases r3; cases r4
            refine .inr ⟨_, a, _, _, [.type m, .type m'], b || b', rfl, rl.ex _ _ ha, .cons (.ty m) (.cons (.ty m') .nil), tyD_ok rl r1 h, ?_, q _ _ B C H (Same.refl B) rl .bl k⟩
            refine kitAny_cons (kit_ty hk) (fun e => kitAny_cons (kit_ty hk') (fun e' => ?_) (fun e' => ?_)) (fun e => ?_)
            · rw [e, e']; exact kitAny_nil
            · rw [e, e']; rfl
            · rw [e]; rfl

/-! ### in -/
def rInU (K : PySem.W.Frag) (neg : Bool) : R2 := fun x y H Q => rIn K neg x y H Q ∨ ∃ (c : Nat) (z : Str), x = .str ⟨#[c]⟩ ∧ y = .str z ∧ Q (.bl (if neg then !decide (c ∈ z.cps.toList) else decide (c ∈ z.cps.toList))) H
theorem op_inU {X : Cx} : OpR X (compareOp .In) (rInU X.K false) := op_in_seq.or op_in_sign
theorem op_ninU {X : Cx} : OpR X (compareOp .NotIn) (rInU X.K true) := op_notIn_seq.or op_notIn_sign
/-- flat data: none, bools, ints, texts -/
def flatD : D → Bool
  | .int _ => true | .str _ => true | .non => true | .bl _ => true | _ => false
theorem ixV_int (n : Int) : ∀ ms : List Int, inV (.int n) (ms.map V.int) = decide (n ∈ ms)
  | [] => by simp [inV]
  | m :: r => by
    have ih := ixV_int n r
    unfold inV at ih ⊢
    rw [List.map_cons, List.any_cons, ih]
    have : eqV (V.int m) (V.int n) = decide (n = m) := by
      by_cases e : n = m
      · subst e; simp [eqV]
      · have e2 : ¬ m = n := fun z => e z.symm
        simp [eqV, e, e2]
    rw [this]
    by_cases h1 : n = m <;> by_cases h2 : n ∈ r <;> simp [h1, h2]
theorem flat_ints (ms : List Int) : (ms.map V.int).all flatV = true := by simp [flatV]
theorem wr_inI {ms : List Int} {n : Int} (hy : SeqD C y (ms.map D.int)) (k : P (.bl (decide (n ∈ ms))) C) : WR B0 (rInU K false) (.int n) y C P := fun B F H vx vy _ rl hx h2 Q q => by
  cases hx
  obtain ⟨a, vs, rfl, hs, r⟩ := seqD_rd (K := K) rl h2 hy
  have e := r.ints
  subst e
  refine .inl ⟨a, _, rfl, hs, rfl, flat_ints ms, ?_⟩
  rw [if_neg Bool.false_ne_true, ixV_int]
  exact q _ _ B C H (Same.refl B) rl .bl k
theorem wr_ninI {ms : List Int} {n : Int} (hy : SeqD C y (ms.map D.int)) (k : P (.bl (!decide (n ∈ ms))) C) : WR B0 (rInU K true) (.int n) y C P := fun B F H vx vy _ rl hx h2 Q q => by
  cases hx
  obtain ⟨a, vs, rfl, hs, r⟩ := seqD_rd (K := K) rl h2 hy
  have e := r.ints
  subst e
  refine .inl ⟨a, _, rfl, hs, rfl, flat_ints ms, ?_⟩
  rw [if_pos rfl, ixV_int]
  exact q _ _ B C H (Same.refl B) rl .bl k
theorem wr_inC {z : Str} {c : Nat} (k : P (.bl (decide (c ∈ z.cps.toList))) C) : WR B0 (rInU K false) (.str ⟨#[c]⟩) (.str z) C P := fun B F H vx vy _ rl hx h2 Q q => by
  cases hx; cases h2
  exact .inr ⟨c, z, rfl, rfl, q _ _ B C H (Same.refl B) rl .bl k⟩
theorem wr_ninC {z : Str} {c : Nat} (k : P (.bl (!decide (c ∈ z.cps.toList))) C) : WR B0 (rInU K true) (.str ⟨#[c]⟩) (.str z) C P := fun B F H vx vy _ rl hx h2 Q q => by
  cases hx; cases h2
  exact .inr ⟨c, z, rfl, rfl, q _ _ B C H (Same.refl B) rl .bl k⟩
end

/-! ### len(set(..)) of ints -/
section
variable {B0 : Hp} {C : CH} {P : D → CH → Prop} {K : PySem.W.Frag} {E : EnvD}
/-- how many different ones -/
def metN (ns : List Int) : Nat := (PyProof.Rows.firstMet (fun i => ns.getD i 0) ns.length).length
def tLenSet (K : PySem.W.Frag) (ta : TE) : TE := fun σ H Q => ta σ H fun x H1 => ∃ (l : Addr) (ns : List Int), x = .ref l ∧ SqL K H1 l (ns.map V.int) ∧ ns.length ≤ 4000 ∧ Q (.int (metN ns : Nat)) H1
theorem pe_lenSetN {X : Cx} {a : Expr} {ta : TE} {p p2 q pos : Pos} (hm : X.mg "len" = none) (hm2 : X.mg "set" = none) (ha : PE X a ta) (hg : Gl X "len" := by rfl) (hg2 : Gl X "set" := by rfl) (hc : X.calm = true := by rfl)
    (na : starEach [a] X.env = (false, eval a X.env) :: starEach [] X.env := by rfl) : PE X (.Call (.Name "len" p) [.Call (.Name "set" p2) [a] [] q] [] pos) (tLenSet X.K ta) := by
  constructor
  intro pins s σ H Q I h
  refine PyProof.Rows.Call_ (ld_blt I hg hm PySem.boot_len (PyProof.Rows.callWith_builtin1 (PyProof.Rows.args_cons (PyProof.Rows.Call_ (ld_blt I hg2 hm2 PyProof.Rows.boot_set
    (PyProof.Rows.callWith_type1 (PyProof.Rows.args_cons (thn (ha.run pins s σ H _ I h) ?_) na) na rfl))) rfl) rfl rfl))
  rintro v s1 ⟨x, H1, J, r1, l, ns, e, hq, hl, k⟩
  subst e
  cases r1
  obtain ⟨its, r, pl, hz⟩ := J.list hq
  have hlen : its.toArray.size = ns.length := by
    have e := r.length
    rw [List.length_map] at e
    rw [List.size_toArray, e]
  refine PyProof.Rows.args_nil (PySem.call_set_list (J.ok.hd hc) pl.isList (by simpa using RZ.intsAre_vals r) (by rw [hlen]; unfold scanBound; omega) fun h' tk hS hk => PyProof.Rows.args_nil ?_)
  rw [hlen] at hS
  obtain ⟨o, es, ep, t, ho, hex, hd, _, _, _, hf, hn⟩ := hS
  have J2 : Inv X pins σ H1 { s1 with heap := h', toks := tk } := J.kept fun b o e => hk b o (Heap.lt_size e) e
  have hle : metN ns ≤ ns.length := PyProof.Rows.firstMet_length_le _ _
  have hle2 : (PyProof.Rows.firstMet (fun i => ns.getD i 0) ns.length).length ≤ ns.length := hle
  exact PySem.call_len_set ho hex hd hf (by rw [hn] <;> omega) ⟨.int (metN ns), H1, J2.tok _, ⟨_, by rw [hn]; rfl⟩, k⟩
theorem w_lenSet {ta : TE} (h : W B0 ta E C fun x C1 => ∃ ns : List Int, LstD C1 x (ns.map D.int) ∧ ns.length ≤ 4000 ∧ P (.int (metN ns : Nat)) C1) : W B0 (tLenSet K ta) E C P := fun B F σ H sb rl re Q q =>
  h B F σ H sb rl re _ fun v d B1 C1 H1 e1 rl1 rp ⟨ns, l, hl, p⟩ => by
    obtain ⟨a, vs, rfl, ha, r⟩ := lstD_rd rl1 rp l
    have e := r.ints
    subst e
    exact ⟨a, ns, rfl, SqL.of ha, hl, q _ _ B1 C1 H1 e1 rl1 .int p⟩
/-- fewer than all just where one stands twice -/
theorem met_step (l : List Int) (v : Int) : PyProof.Rows.step_dedup l v = if v ∈ l then l else l ++ [v] := by
  unfold PyProof.Rows.step_dedup
  by_cases h : v ∈ l
  · have : (l.any fun x => x == v) = true := List.any_eq_true.mpr ⟨v, h, by simp⟩
    simp [this, h]
  · have : (l.any fun x => x == v) = false := by
      cases e : l.any fun x => x == v with
      | false => rfl
      | true =>
        obtain ⟨w, hw, e2⟩ := List.any_eq_true.mp e
        rw [eq_of_beq e2] at hw
        exact absurd hw h
    simp [this, h]
theorem met_fold : ∀ (l acc : List Int), acc.Nodup → (l.foldl PyProof.Rows.step_dedup acc).length ≤ acc.length + l.length ∧
    ((l.foldl PyProof.Rows.step_dedup acc).length = acc.length + l.length ↔ (acc ++ l).Nodup)
  | [], acc, h => by simp [h]
  | v :: l, acc, h => by
    rw [List.foldl_cons, met_step]
    by_cases m : v ∈ acc
    · rw [if_pos m]
      obtain ⟨h1, h2⟩ := met_fold l acc h
      refine ⟨by simp; omega, ⟨fun e => ?_, fun e => ?_⟩⟩
      · simp at e; omega
      · exact absurd rfl ((List.nodup_append.mp e).2.2 v m v (by simp))
    · rw [if_neg m]
      have hn : (acc ++ [v]).Nodup := by
        rw [List.nodup_append]
        refine ⟨h, by simp, fun a ha b hb => ?_⟩
        simp at hb
        subst hb
        exact fun e => m (e ▸ ha)
      obtain ⟨h1, h2⟩ := met_fold l (acc ++ [v]) hn
      rw [List.length_append, List.length_singleton] at h1 h2
      rw [List.length_cons]
      refine ⟨by omega, ?_⟩
      rw [show acc ++ v :: l = acc ++ [v] ++ l by simp, ← h2]
      omega
theorem getD_list (ns : List Int) : (List.range ns.length).map (fun i => ns.getD i 0) = ns := by
  apply List.ext_getElem?
  intro i
  rw [List.getElem?_map]
  by_cases h : i < ns.length
  · rw [List.getElem?_range h, List.getElem?_eq_getElem h]
    simp [List.getD_eq_getElem?_getD, h]
  · rw [List.getElem?_eq_none (by simpa using h), List.getElem?_eq_none (by omega)]; rfl
theorem metN_lt (ns : List Int) : decide ((metN ns : Int) < (ns.length : Int)) = !decide ns.Nodup := by
  unfold metN PyProof.Rows.firstMet
  rw [getD_list]
  obtain ⟨h1, h2⟩ := met_fold ns [] List.nodup_nil
  simp only [List.nil_append, List.length_nil, Nat.zero_add] at h1 h2
  by_cases h : ns.Nodup
  · have := h2.mpr h
    simp [h]; omega
  · have : ¬ (ns.foldl PyProof.Rows.step_dedup []).length = ns.length := fun e => h (h2.mp e)
    simp [h]; omega
end
end Dv

set_option maxRecDepth 100000
set_option maxHeartbeats 1000000
/-! Short words for the terms that gen.py prints. -/
namespace Dv
open PySem PySem.Spec L2
theorem bt_len : bootBuiltins "len" = some (.builtin "len") := by decide +kernel
theorem bt_max : bootBuiltins "max" = some (.builtin "max") := by decide +kernel
theorem bt_min : bootBuiltins "min" = some (.builtin "min") := by decide +kernel
theorem bt_sum : bootBuiltins "sum" = some (.builtin "sum") := by decide +kernel
theorem bt_all : bootBuiltins "all" = some (.builtin "all") := by decide +kernel
theorem bt_any : bootBuiltins "any" = some (.builtin "any") := by decide +kernel
theorem bt_abs : bootBuiltins "abs" = some (.builtin "abs") := by decide +kernel
theorem bt_isinstance : bootBuiltins "isinstance" = some (.builtin "isinstance") := by decide +kernel
theorem bt_sorted : bootBuiltins "sorted" = some (.builtin "sorted") := by decide +kernel
theorem bt_int : bootBuiltins "int" = some (.type "int") := by decide +kernel
theorem bt_list : bootBuiltins "list" = some (.type "list") := by decide +kernel
theorem bt_tuple : bootBuiltins "tuple" = some (.type "tuple") := by decide +kernel
theorem bt_dict : bootBuiltins "dict" = some (.type "dict") := by decide +kernel
theorem bt_str : bootBuiltins "str" = some (.type "str") := by decide +kernel
theorem bt_bool : bootBuiltins "bool" = some (.type "bool") := by decide +kernel
section
variable {X : Cx} {pos pos' : Pos}
theorem pg_nm (i : Nat) {x : Str} (hN : X.N.Nodup) (hi : X.N[i]? = some x := by rfl) (hx : Loc X.env.scope x := by first | exact Or.inl rfl | exact Or.inr rfl)
    (hf : X.fn x = true ∨ X.env.scope.names.lookup x = some .local := by first | exact .inl rfl | exact .inr rfl | assumption) : PG X (.Name x pos) (gName i) := pg_name hN hi hx hf
theorem ps_nm (i : Nat) {x : Str} {e : Expr} {te : TE} (hN : X.N.Nodup) (he : PE X e te) (hi : X.N[i]? = some x := by rfl) (hx : Loc X.env.scope x := by first | exact Or.inl rfl | exact Or.inr rfl)
    (hs : swapsWith e (some (.Name x pos')) pos.line X.env = pure false := by rfl) (hf : X.fn x = true ∨ X.env.scope.names.lookup x = some .local := by first | exact .inl rfl | exact .inr rfl | assumption) :
    PS X (.Assign [.Name x pos'] e pos) (tAsg te (gName i)) := ps_set hN hi hx he hs hf
theorem ps_au (i : Nat) {x : Str} {e : Expr} {te : TE} {op : Operator} {ti : TIp} (hN : X.N.Nodup) (he : PE X e te) (ho : PIp X op ti) (hi : X.N[i]? = some x := by rfl) (hx : Loc X.env.scope x := by first | exact Or.inl rfl | exact Or.inr rfl)
    (hf : X.fn x = true ∨ X.env.scope.names.lookup x = some .local := by first | exact .inl rfl | exact .inr rfl | assumption) : PS X (.AugAssign (.Name x pos') op e pos) (tAug i te ti) := ps_aug hN hi hx he ho hf
theorem pt_tru {e : Expr} {te : TE} (he : PE X e te) (hh : ∀ whole, isTrue e X.env whole = (do let v ← whole; standAt e.pos; holding [v] (truthy v)) := by intro _; rfl) : PT X e (tTruth X.K te) := pt_truth he hh
end
theorem kit_NoneType_list : kitB "NoneType" "list" = some false := by decide +kernel
theorem kit_NoneType_tuple : kitB "NoneType" "tuple" = some false := by decide +kernel
theorem kit_NoneType_bool : kitB "NoneType" "bool" = some false := by decide +kernel
theorem kit_NoneType_str : kitB "NoneType" "str" = some false := by decide +kernel
theorem kit_NoneType_int : kitB "NoneType" "int" = some false := by decide +kernel
theorem kit_NoneType_dict : kitB "NoneType" "dict" = some false := by decide +kernel
theorem kit_bool_list : kitB "bool" "list" = some false := by decide +kernel
theorem kit_bool_tuple : kitB "bool" "tuple" = some false := by decide +kernel
theorem kit_bool_bool : kitB "bool" "bool" = some true := by decide +kernel
theorem kit_bool_str : kitB "bool" "str" = some false := by decide +kernel
theorem kit_bool_int : kitB "bool" "int" = some true := by decide +kernel
theorem kit_bool_dict : kitB "bool" "dict" = some false := by decide +kernel
theorem kit_int_list : kitB "int" "list" = some false := by decide +kernel
theorem kit_int_tuple : kitB "int" "tuple" = some false := by decide +kernel
theorem kit_int_bool : kitB "int" "bool" = some false := by decide +kernel
theorem kit_int_str : kitB "int" "str" = some false := by decide +kernel
theorem kit_int_int : kitB "int" "int" = some true := by decide +kernel
theorem kit_int_dict : kitB "int" "dict" = some false := by decide +kernel
theorem kit_str_list : kitB "str" "list" = some false := by decide +kernel
theorem kit_str_tuple : kitB "str" "tuple" = some false := by decide +kernel
theorem kit_str_bool : kitB "str" "bool" = some false := by decide +kernel
theorem kit_str_str : kitB "str" "str" = some true := by decide +kernel
theorem kit_str_int : kitB "str" "int" = some false := by decide +kernel
theorem kit_str_dict : kitB "str" "dict" = some false := by decide +kernel
theorem kit_tuple_list : kitB "tuple" "list" = some false := by decide +kernel
theorem kit_tuple_tuple : kitB "tuple" "tuple" = some true := by decide +kernel
theorem kit_tuple_bool : kitB "tuple" "bool" = some false := by decide +kernel
theorem kit_tuple_str : kitB "tuple" "str" = some false := by decide +kernel
theorem kit_tuple_int : kitB "tuple" "int" = some false := by decide +kernel
theorem kit_tuple_dict : kitB "tuple" "dict" = some false := by decide +kernel
theorem kit_list_list : kitB "list" "list" = some true := by decide +kernel
theorem kit_list_tuple : kitB "list" "tuple" = some false := by decide +kernel
theorem kit_list_bool : kitB "list" "bool" = some false := by decide +kernel
theorem kit_list_str : kitB "list" "str" = some false := by decide +kernel
theorem kit_list_int : kitB "list" "int" = some false := by decide +kernel
theorem kit_list_dict : kitB "list" "dict" = some false := by decide +kernel
theorem kit_dict_list : kitB "dict" "list" = some false := by decide +kernel
theorem kit_dict_tuple : kitB "dict" "tuple" = some false := by decide +kernel
theorem kit_dict_bool : kitB "dict" "bool" = some false := by decide +kernel
theorem kit_dict_str : kitB "dict" "str" = some false := by decide +kernel
theorem kit_dict_int : kitB "dict" "int" = some false := by decide +kernel
theorem kit_dict_dict : kitB "dict" "dict" = some true := by decide +kernel
/-! the same with the written part K named (within a comprehension's block the context is another one) -/
section
variable {X : Cx} {pos pos' : Pos}
theorem pt_truK (K : PySem.W.Frag) {e : Expr} {te : TE} (he : PE X e te) (h : X.K = K := by rfl) (hh : ∀ whole, isTrue e X.env whole = (do let v ← whole; standAt e.pos; holding [v] (truthy v)) := by intro _; rfl) : PT X e (tTruth K te) := by
  subst h
  exact pt_truth he hh
theorem ix_seqK (K : PySem.W.Frag) (h : X.K = K := by rfl) : IxR X (rIx K) := by subst h; exact ix_seq
theorem op_addK (K : PySem.W.Frag) (h : X.K = K := by rfl) : OpR X (binaryOp .Add) (rAddU K) := by subst h; exact op_addU
theorem op_eqK (K : PySem.W.Frag) {n : Nat} (hr : Room n X.A) (h : X.K = K := by rfl) : OpR X (compareOp .Eq) (rEqU K) := by subst h; exact op_eqU hr
theorem op_neK (K : PySem.W.Frag) {n : Nat} (hr : Room n X.A) (h : X.K = K := by rfl) : OpR X (compareOp .NotEq) (rNeU K) := by subst h; exact op_neU hr
theorem op_inK (K : PySem.W.Frag) (h : X.K = K := by rfl) : OpR X (compareOp .In) (rInU K false) := by subst h; exact op_inU
theorem op_ninK (K : PySem.W.Frag) (h : X.K = K := by rfl) : OpR X (compareOp .NotIn) (rInU K true) := by subst h; exact op_ninU
theorem sl_K (K : PySem.W.Frag) (h : X.K = K := by rfl) : SlR X (rSlU K) := by subst h; exact sl_U
theorem call_lenK (K : PySem.W.Frag) (h : X.K = K := by rfl) : CallR X (.builtin "len") (rLenU K) := by subst h; exact call_lenU
theorem call_maxK (K : PySem.W.Frag) (h : X.K = K := by rfl) (hc : X.calm = true := by rfl) : CallR X (.builtin "max") (rMaxU K) := by subst h; exact call_maxU hc
theorem call_minK (K : PySem.W.Frag) (h : X.K = K := by rfl) (hc : X.calm = true := by rfl) : CallR X (.builtin "min") (rMinU K) := by subst h; exact call_minU hc
theorem call_sumK (K : PySem.W.Frag) (h : X.K = K := by rfl) (hc : X.calm = true := by rfl) : CallR X (.builtin "sum") (rSum K) := by subst h; exact cr_sum hc
theorem call_allK (K : PySem.W.Frag) (h : X.K = K := by rfl) (hc : X.calm = true := by rfl) : CallR X (.builtin "all") (rAll K) := by subst h; exact cr_all hc
theorem call_anyK (K : PySem.W.Frag) (h : X.K = K := by rfl) (hc : X.calm = true := by rfl) : CallR X (.builtin "any") (rAny K) := by subst h; exact cr_any hc
theorem call_isiK (K : PySem.W.Frag) (h : X.K = K := by rfl) : CallR X (.builtin "isinstance") (rIsiU K) := by subst h; exact call_isiU
theorem call_lstK (K : PySem.W.Frag) (h : X.K = K := by rfl) (hc : X.calm = true := by rfl) : CallR X (.type "list") (rLstU K) := by subst h; exact call_lstU hc
theorem call_tupK (K : PySem.W.Frag) (h : X.K = K := by rfl) : CallR X (.type "tuple") (rTupU K) := by subst h; exact call_tupU
theorem pi_seqK (K : PySem.W.Frag) {tg l : Expr} {tl : TE} (hl : PE X l tl) (h : X.K = K := by rfl) : PI X tg l (iSeq K tl) := by subst h; exact pi_seq hl
theorem pg_tupK (K : PySem.W.Frag) {es : List Expr} {k : Nat} {t : TGs} {n : Nat} (hp : PGs X es t) (h : X.K = K := by rfl) (hc : X.calm = true := by rfl)
    (hn : (assignEach es X.env).length = n := by rfl) (hst : (assignEach es X.env).findIdx? (·.1) = none := by rfl) : PG X (.Tuple es k pos) (gTup K n t) := by subst h; exact pg_tup hc hp hn hst
theorem pe_lenSetK (K : PySem.W.Frag) {a : Expr} {ta : TE} {p p2 q : Pos} (hm : X.mg "len" = none) (hm2 : X.mg "set" = none) (ha : PE X a ta) (h : X.K = K := by rfl) (hg : Gl X "len" := by rfl) (hg2 : Gl X "set" := by rfl) (hc : X.calm = true := by rfl)
    (na : starEach [a] X.env = (false, eval a X.env) :: starEach [] X.env := by rfl) : PE X (.Call (.Name "len" p) [.Call (.Name "set" p2) [a] [] q] [] pos) (tLenSet K ta) := by subst h; exact pe_lenSetN hm hm2 ha hg hg2 hc na
theorem pe_bmK (K : PySem.W.Frag) {T id : String} {name : Str} {o e : Expr} {es : List Expr} {apos cpos : Pos} {r : V → List V → Hp → VK → Prop} {to : TE} {t : TA} (pa : PlainAttrs T) (slot : Slot T name id) (hty : typeOf (.builtin id) = pure (.type "method_descriptor")) (hm : MtR X id r) (ho : PE X o to) (ha : PA X (e :: es) t) (h : X.K = K := by rfl)
    (hbase : attributeBase o name X.env (eval o X.env) = eval o X.env := by rfl)
    (hfew : ((backTo cpos (starEach (e :: es) X.env)).all (fun x => !x.1) && (backToKw cpos (keywordEach [] X.env)).all (fun x => x.1.isSome) && decide ((e :: es).length + ([] : List Keyword).length + (if ([] : List Keyword).isEmpty then 0 else 1) < 30)) = true := by rfl)
    (hline : (apos.endLine == cpos.line) = true := by rfl) (hs : starEach (e :: es) X.env = (false, eval e X.env) :: starEach es X.env := by rfl) (hplain : (backTo cpos (starEach es X.env)).any (·.1) = false := by rfl) :
    PE X (.Call (.Attribute o name apos) (e :: es) [] cpos) (tBM K T r to t) := by subst h; exact pe_bm pa slot hty hm ho ha hbase hfew hline hs hplain
theorem pe_bmK0 (K : PySem.W.Frag) {T id : String} {name : Str} {o : Expr} {apos cpos : Pos} {r : V → List V → Hp → VK → Prop} {to : TE} (pa : PlainAttrs T) (slot : Slot T name id) (hty : typeOf (.builtin id) = pure (.type "method_descriptor")) (hm : MtR X id r) (ho : PE X o to) (h : X.K = K := by rfl)
    (hbase : attributeBase o name X.env (eval o X.env) = eval o X.env := by rfl) (hline : (apos.endLine == cpos.line) = true := by rfl) :
    PE X (.Call (.Attribute o name apos) [] [] cpos) (tBM0 K T r to) := by subst h; exact pe_bm0 pa slot hty hm ho hbase hline
end
theorem nx_show {nx bk ct : EnvD → CH → Prop} {rt : D → CH → Prop} {E : EnvD} {C : CH} (h : nx E C) : (EndD.mk nx rt bk ct).nx E C := h
theorem rt_show {nx bk ct : EnvD → CH → Prop} {rt : D → CH → Prop} {d : D} {C : CH} (h : rt d C) : (EndD.mk nx rt bk ct).rt d C := h
theorem bk_show {nx bk ct : EnvD → CH → Prop} {rt : D → CH → Prop} {E : EnvD} {C : CH} (h : bk E C) : (EndD.mk nx rt bk ct).bk E C := h
theorem ct_show {nx bk ct : EnvD → CH → Prop} {rt : D → CH → Prop} {E : EnvD} {C : CH} (h : ct E C) : (EndD.mk nx rt bk ct).ct E C := h
/-- a comprehension within a comprehension's block -/
theorem blkOk_in {X : Cx} {own : List (Str × Nat)} {scope : Scope} (N : List Str) (hN : X.N = N := by exact rfl) (h : blkC N X.env.scope scope own = true := by with_unfolding_all exact rfl) : BlkOk X.N X.env.scope scope own := by
  rw [hN]
  exact blkOk_by h
theorem wsl_tupE {B0 : Hp} {C : CH} {P : D → CH → Prop} {K : PySem.W.Frag} {x : D} {ds : List D} {lo hi : Option Int} (e : x = .tup ds) (k : P (.tup (cutD ds lo hi)) C) : WSl B0 (rSlU K) x lo hi C P := by
  subst e
  exact wsl_tup k
theorem wsl_lstE {B0 : Hp} {C : CH} {P : D → CH → Prop} {K : PySem.W.Frag} {x : D} {ds : List D} {lo hi : Option Int} (e : x = .lst ds) (k : P (.lst (cutD ds lo hi)) C) : WSl B0 (rSlU K) x lo hi C P := by
  subst e
  exact wsl_lst .lst k
/-- what holds behind a test: both ways -/
theorem ite_two {b : Bool} {p q : Prop} (h1 : b = true → p) (h2 : b = false → q) : (b = true → p) ∧ (b = false → q) := ⟨h1, h2⟩
theorem ex_bl {b : Bool} {p : Bool → Prop} (h : p b) : ∃ c, D.bl b = .bl c ∧ p c := ⟨b, rfl, h⟩
theorem tru_bl {C : CH} {b : Bool} {p : Bool → Prop} (h : p b) : ∃ c, TruD C (.bl b) = some c ∧ p c := ⟨b, rfl, h⟩
end Dv

set_option maxRecDepth 100000
/-! Boxes as Lean data. -/
namespace Dv
open PySem L2
inductive Box where
  | block (n h : Int)
  | scroller (n h : Int) (ps : List Box)
mutual
def encB : Box → D
  | .block n h => .tup [.str "block", .int n, .int h]
  | .scroller n h ps => .tup [.str "scroller", .int n, .int h, .tup (encBs ps)]
def encBs : List Box → List D
  | [] => []
  | b :: r => encB b :: encBs r
end
theorem encBs_map : ∀ ps : List Box, encBs ps = ps.map encB
  | [] => rfl
  | b :: r => by rw [encBs, encBs_map r]; rfl
def Box.num : Box → Int
  | .block n _ => n
  | .scroller n _ _ => n
def Box.hgt : Box → Int
  | .block _ h => h
  | .scroller _ h _ => h
def Box.kind : Box → Str
  | .block _ _ => "block"
  | .scroller _ _ _ => "scroller"
section
variable {B0 : Hp} {C : CH} {P : D → CH → Prop} {K : PySem.W.Frag} {b : Box}
theorem wr_bn (k : P (.int b.num) C) : WR B0 (rIx K) (encB b) (.int 1) C P := by
  cases b with
  | block n h => exact wr_ix .tup rfl k
  | scroller n h ps => exact wr_ix .tup rfl k
theorem wr_bh (k : P (.int b.hgt) C) : WR B0 (rIx K) (encB b) (.int 2) C P := by
  cases b with
  | block n h => exact wr_ix .tup rfl k
  | scroller n h ps => exact wr_ix .tup rfl k
theorem wr_bk (k : P (.str b.kind) C) : WR B0 (rIx K) (encB b) (.int 0) C P := by
  cases b with
  | block n h => exact wr_ix .tup rfl k
  | scroller n h ps => exact wr_ix .tup rfl k
end
def encO : Option Box → D
  | none => .non
  | some b => encB b
def encOI : Option Int → D
  | none => .non
  | some i => .int i
def findB : List Box → Int → Option Box
  | [], _ => none
  | p :: r, i => if p.num = i then some p else findB r i
def Box.parts : Box → List Box
  | .block _ _ => []
  | .scroller _ _ ps => ps
def parentB : List Box → Int → Option Int
  | [], _ => none
  | p :: r, i => if i ∈ p.parts.map Box.num then some p.num else parentB r i
def Box.isS : Box → Bool
  | .block _ _ => false
  | .scroller _ _ _ => true
mutual
/-- levels of boxes -/
def Box.lev : Box → Nat
  | .block _ _ => 1
  | .scroller _ _ ps => levs ps + 1
def levs : List Box → Nat
  | [] => 0
  | b :: r => max b.lev (levs r)
end
mutual
def Box.all : Box → List Box
  | .block n h => [.block n h]
  | .scroller n h ps => .scroller n h ps :: alls ps
def alls : List Box → List Box
  | [] => []
  | b :: r => b.all ++ alls r
end
mutual
/-- scrollers within one another -/
def Box.deep : Box → Nat
  | .block _ _ => 0
  | .scroller _ _ ps => deeps ps + 1
def deeps : List Box → Nat
  | [] => 0
  | b :: r => max b.deep (deeps r)
end
theorem lev_le : ∀ {ps : List Box} {b : Box}, b ∈ ps → b.lev ≤ levs ps
  | p :: ps, b, h => by
    rw [levs]
    rcases List.mem_cons.mp h with rfl | h
    · omega
    · have := lev_le h; omega
theorem lev_parts {b p : Box} {n : Nat} (h : b.lev ≤ n + 1) (hp : p ∈ b.parts) : p.lev ≤ n := by
  cases b with
  | block _ _ => cases hp
  | scroller _ _ ps =>
    have := lev_le (show p ∈ ps from hp)
    rw [Box.lev] at h
    omega
theorem all_eq (b : Box) : b.all = b :: alls b.parts := by
  cases b with
  | block _ _ => rfl
  | scroller _ _ _ => rw [Box.all]; rfl
theorem encBs_cons {x : D} {xs : List D} {post : List Box} (h : x :: xs = encBs post) : ∃ p q, post = p :: q ∧ x = encB p ∧ xs = encBs q := by
  cases post with
  | nil => rw [encBs] at h; cases h
  | cons p q => rw [encBs] at h; injection h with h1 h2; exact ⟨p, q, rfl, h1, h2⟩
theorem encBs_nil {post : List Box} (h : [] = encBs post) : post = [] := by
  cases post with
  | nil => rfl
  | cons p q => rw [encBs] at h; cases h
theorem encBs_append (a b : List Box) : encBs (a ++ b) = encBs a ++ encBs b := by
  rw [encBs_map, encBs_map, encBs_map, List.map_append]
theorem encBs_length (a : List Box) : (encBs a).length = a.length := by rw [encBs_map, List.length_map]
theorem alls_append : ∀ a b : List Box, alls (a ++ b) = alls a ++ alls b
  | [], b => rfl
  | p :: r, b => by rw [List.cons_append, alls, alls, alls_append r b, List.append_assoc]
theorem all_len_part {b p : Box} {pre post : List Box} (h : b.parts = pre ++ p :: post) : (b :: alls pre).length + p.all.length ≤ b.all.length := by
  rw [all_eq b, h, alls_append, alls]
  simp
  omega
theorem alls_flat : ∀ ps : List Box, alls ps = ps.flatMap Box.all
  | [] => rfl
  | b :: r => by rw [alls, alls_flat r, List.flatMap_cons]
theorem alls_len_ge : ∀ ps : List Box, ps.length ≤ (alls ps).length
  | [] => Nat.le_refl _
  | p :: r => by
    have := alls_len_ge r
    rw [alls, all_eq p]
    simp
    omega
theorem all_len_sub {b p : Box} (hp : p ∈ b.parts) : p.all.length ≤ b.all.length := by
  obtain ⟨pre, post, e⟩ := List.append_of_mem hp
  have := all_len_part e
  omega
mutual
theorem parts_len : ∀ {b p : Box}, p ∈ b.all → p.parts.length ≤ b.all.length
  | .block n h, p, hp => by
    rw [Box.all] at hp
    rcases List.mem_cons.mp hp with rfl | hp
    · exact Nat.zero_le _
    · cases hp
  | .scroller n h ps, p, hp => by
    rw [Box.all] at hp ⊢
    rcases List.mem_cons.mp hp with rfl | hp
    · have := alls_len_ge ps
      simp [Box.parts]
      omega
    · have := partss_len hp
      simp
      omega
theorem partss_len : ∀ {ps : List Box} {p : Box}, p ∈ alls ps → p.parts.length ≤ (alls ps).length
  | [], p, hp => by rw [alls] at hp; cases hp
  | b :: r, p, hp => by
    rw [alls] at hp ⊢
    rw [List.length_append]
    rcases List.mem_append.mp hp with hp | hp
    · have := parts_len hp; omega
    · have := partss_len hp; omega
end
def isDoc (b : Box) : Bool := decide (b.isS = true ∧ b.all.length ≤ 40 ∧ b.deep ≤ 4 ∧ (b.all.map Box.num).Nodup ∧ (∀ p ∈ b.all, 1 ≤ p.num ∧ p.num ≤ 999) ∧ ∀ p ∈ b.all, 0 ≤ p.hgt ∧ p.hgt ≤ 1000)
theorem deeps_max : ∀ (ps : List Box) (m : Int), m ∈ (0 : Int) :: ps.map (fun p => (p.deep : Int)) → (∀ y, y ∈ (0 : Int) :: ps.map (fun p => (p.deep : Int)) → y ≤ m) → m = (deeps ps : Nat)
  | ps, m, h1, h2 => by
    have up : ∀ (qs : List Box) (q : Box), q ∈ qs → q.deep ≤ deeps qs := by
      intro qs
      induction qs with
      | nil => intro q h; cases h
      | cons a r ih =>
        intro q h
        rw [deeps]
        rcases List.mem_cons.mp h with rfl | h
        · omega
        · have := ih q h; omega
    have has : ∀ qs : List Box, deeps qs = 0 ∨ ∃ q ∈ qs, q.deep = deeps qs := by
      intro qs
      induction qs with
      | nil => exact .inl rfl
      | cons a r ih =>
        rw [deeps]
        by_cases h : deeps r ≤ a.deep
        · exact .inr ⟨a, by simp, by omega⟩
        · rcases ih with h0 | ⟨q, hq, e⟩
          · omega
          · exact .inr ⟨q, by simp [hq], by omega⟩
    have le : m ≤ (deeps ps : Nat) := by
      rcases List.mem_cons.mp h1 with e | h
      · omega
      · obtain ⟨q, hq, e⟩ := List.mem_map.mp h
        have := up ps q hq
        omega
    rcases has ps with h0 | ⟨q, hq, e⟩
    · have := h2 0 (by simp); omega
    · have := h2 (q.deep : Int) (List.mem_cons_of_mem _ (List.mem_map.mpr ⟨q, hq, rfl⟩))
      omega
end Dv

set_option maxRecDepth 100000
namespace Dv
open PySem L2
/-! ### documents as the law draws them -/
mutual
/-- a box drawn with k levels left: the last number ahead, the box, the last number behind -/
inductive DocB : Nat → Int → Box → Int → Prop
  | block {k : Nat} {z n h : Int} : z < n → n ≤ z + 3 → 0 ≤ h → h < 7 → DocB k z (.block n h) n
  | scroller {k : Nat} {z n h z' : Int} {ps : List Box} : z < n → n ≤ z + 3 → 0 ≤ h → h < 9 → ps.length ≤ 2 → DocBs k n ps z' → DocB (k + 1) z (.scroller n h ps) z'
inductive DocBs : Nat → Int → List Box → Int → Prop
  | nil {k : Nat} {z : Int} : DocBs k z [] z
  | cons {k : Nat} {z z1 z2 : Int} {b : Box} {ps : List Box} : DocB k z b z1 → DocBs k z1 ps z2 → DocBs k z (b :: ps) z2
end
theorem DocBs.snoc {k : Nat} : ∀ {ps : List Box} {z z1 z2 : Int} {b : Box}, DocBs k z ps z1 → DocB k z1 b z2 → DocBs k z (ps ++ [b]) z2
  | [], _, _, _, _, .nil, h => .cons h .nil
  | _ :: _, _, _, _, _, .cons a r, h => .cons a (DocBs.snoc r h)
theorem DocBs.app {k : Nat} : ∀ {ps qs : List Box} {z z1 z2 : Int}, DocBs k z ps z1 → DocBs k z1 qs z2 → DocBs k z (ps ++ qs) z2
  | [], _, _, _, _, .nil, h => h
  | _ :: _, _, _, _, _, .cons a r, h => .cons a (DocBs.app r h)
mutual
theorem DocB.mono {k : Nat} : ∀ {b : Box} {z z' : Int}, DocB k z b z' → DocB (k + 1) z b z'
  | _, _, _, .block a b c d => .block a b c d
  | _, _, _, .scroller a b c d e f => .scroller a b c d e (DocBs.mono f)
theorem DocBs.mono {k : Nat} : ∀ {ps : List Box} {z z' : Int}, DocBs k z ps z' → DocBs (k + 1) z ps z'
  | _, _, _, .nil => .nil
  | _, _, _, .cons a r => .cons (DocB.mono a) (DocBs.mono r)
end
/-- a document as the law draws it -/
def DocR (b : Box) : Prop := ∃ (n h : Int) (ps : List Box) (z : Int), b = .scroller n h ps ∧ 1 ≤ n ∧ n ≤ 5 ∧ 0 ≤ h ∧ h ≤ 20 ∧ ps.length ≤ 4 ∧ DocBs 2 n ps z

/-! ### what such documents are like -/
def szB : Nat → Nat
  | 0 => 1
  | k + 1 => 1 + 2 * szB k
structure InB (k : Nat) (z : Int) (l : List Box) (z' : Int) : Prop where
  le : z ≤ z'
  rg : ∀ p ∈ l, z < p.num ∧ p.num ≤ z'
  up : (l.map Box.num).Pairwise (· < ·)
  hg : ∀ p ∈ l, 0 ≤ p.hgt ∧ p.hgt ≤ 20
  st : z' ≤ z + 3 * (l.length : Int)
theorem InB.app {k : Nat} {z z1 z2 : Int} {l m : List Box} (a : InB k z l z1) (b : InB k z1 m z2) : InB k z (l ++ m) z2 where
  le := Int.le_trans a.le b.le
  rg := fun p hp => by
    have := a.le
    have := b.le
    rcases List.mem_append.mp hp with h | h
    · have := a.rg p h; omega
    · have := b.rg p h; omega
  up := by
    rw [List.map_append, List.pairwise_append]
    refine ⟨a.up, b.up, fun x hx y hy => ?_⟩
    obtain ⟨p, hp, rfl⟩ := List.mem_map.mp hx
    obtain ⟨q, hq, rfl⟩ := List.mem_map.mp hy
    have := a.rg p hp
    have := b.rg q hq
    omega
  hg := fun p hp => (List.mem_append.mp hp).elim (a.hg p) (b.hg p)
  st := by
    have := a.st
    have := b.st
    rw [List.length_append]
    omega
theorem InB.head {k : Nat} {z z' n : Int} {b : Box} {l : List Box} (e : b.num = n) (h1 : z < n) (h2 : n ≤ z + 3) (h3 : 0 ≤ b.hgt ∧ b.hgt ≤ 20) (a : InB k n l z') : InB k z (b :: l) z' where
  le := by have := a.le; omega
  rg := fun p hp => by
    have := a.le
    rcases List.mem_cons.mp hp with rfl | h
    · omega
    · have := a.rg p h; omega
  up := by
    rw [List.map_cons, List.pairwise_cons]
    refine ⟨fun x hx => ?_, a.up⟩
    obtain ⟨p, hp, rfl⟩ := List.mem_map.mp hx
    have := a.rg p hp
    omega
  hg := fun p hp => by
    rcases List.mem_cons.mp hp with rfl | h
    · exact h3
    · exact a.hg p h
  st := by
    have := a.st
    rw [List.length_cons]
    omega
theorem InB.none {k : Nat} {z : Int} : InB k z [] z := ⟨Int.le_refl _, (fun p hp => by cases hp), List.Pairwise.nil, (fun p hp => by cases hp), by simp⟩
mutual
theorem docB_in {k : Nat} : ∀ {b : Box} {z z' : Int}, DocB k z b z' → InB k z b.all z'
  | .block n h, z, _, .block a b c d => InB.head rfl a b ⟨c, by show h ≤ 20; omega⟩ .none
  | .scroller n h ps, z, _, .scroller a b c d e f => by
    rw [Box.all]
    have r := docBs_in f
    exact InB.head rfl a b ⟨c, by show h ≤ 20; omega⟩ ⟨r.le, r.rg, r.up, r.hg, r.st⟩
theorem docBs_in {k : Nat} : ∀ {ps : List Box} {z z' : Int}, DocBs k z ps z' → InB k z (alls ps) z'
  | [], _, _, .nil => .none
  | b :: r, _, _, .cons a c => by
    rw [alls]
    exact (docB_in a).app (docBs_in c)
end
mutual
theorem docB_sz {k : Nat} : ∀ {b : Box} {z z' : Int}, DocB k z b z' → b.all.length ≤ szB k ∧ b.deep ≤ k ∧ b.lev ≤ k + 1
  | .block n h, z, _, .block _ _ _ _ => by
    have : 1 ≤ szB k := by cases k <;> simp [szB]
    simp [Box.all, Box.deep, Box.lev]
    omega
  | .scroller n h ps, z, _, @DocB.scroller k _ _ _ _ _ a b c d e f => by
    obtain ⟨s1, s2, s3⟩ := docBs_sz f
    have : ps.length * szB k ≤ 2 * szB k := Nat.mul_le_mul_right _ e
    simp only [Box.all, Box.deep, Box.lev, szB, List.length_cons]
    omega
theorem docBs_sz {k : Nat} : ∀ {ps : List Box} {z z' : Int}, DocBs k z ps z' → (alls ps).length ≤ ps.length * szB k ∧ deeps ps ≤ k ∧ levs ps ≤ k + 1
  | [], _, _, .nil => by simp [alls, deeps, levs]
  | b :: r, _, _, .cons a c => by
    obtain ⟨s1, s2, s3⟩ := docB_sz a
    obtain ⟨t1, t2, t3⟩ := docBs_sz c
    simp only [alls, deeps, levs, List.length_append, List.length_cons]
    rw [Nat.add_mul]
    omega
end
theorem nodup_of_up : ∀ {l : List Int}, l.Pairwise (· < ·) → l.Nodup
  | l, h => h.imp fun {a b} h => by omega
structure DocOk (b : Box) : Prop where
  isS : b.isS = true
  len : b.all.length ≤ 29
  deep : b.deep ≤ 3
  lev : b.lev ≤ 4
  up : (b.all.map Box.num).Pairwise (· < ·)
  rg : ∀ p ∈ b.all, 1 ≤ p.num ∧ p.num ≤ 200
  hg : ∀ p ∈ b.all, 0 ≤ p.hgt ∧ p.hgt ≤ 20
  parts : b.parts.length ≤ 4
theorem docR_ok {b : Box} (h : DocR b) : DocOk b := by
  obtain ⟨n, h, ps, z, rfl, n1, n5, h0, h20, hl, hd⟩ := h
  obtain ⟨s1, s2, s3⟩ := docBs_sz hd
  have r := docBs_in hd
  have : ps.length * szB 2 ≤ 4 * szB 2 := Nat.mul_le_mul_right _ hl
  have e : szB 2 = 7 := rfl
  have hst := r.st
  refine ⟨rfl, by simp only [Box.all, List.length_cons]; omega, by simp only [Box.deep]; omega, by simp only [Box.lev]; omega, ?_, ?_, ?_, hl⟩
  · rw [Box.all, List.map_cons, List.pairwise_cons]
    refine ⟨fun x hx => ?_, r.up⟩
    obtain ⟨p, hp, rfl⟩ := List.mem_map.mp hx
    exact (r.rg p hp).1
  · intro p hp
    rw [Box.all] at hp
    rcases List.mem_cons.mp hp with rfl | hp
    · exact ⟨n1, by show n ≤ 200; omega⟩
    · have := r.rg p hp
      omega
  · intro p hp
    rw [Box.all] at hp
    rcases List.mem_cons.mp hp with rfl | hp
    · exact ⟨h0, h20⟩
    · exact r.hg p hp
theorem isDoc_of {b : Box} (h : DocOk b) : isDoc b = true := by
  unfold isDoc
  refine decide_eq_true ⟨h.isS, by have := h.len; omega, by have := h.deep; omega, nodup_of_up h.up, fun p hp => ?_, fun p hp => ?_⟩
  · have := h.rg p hp; omega
  · have := h.hg p hp; omega
end Dv

set_option maxRecDepth 100000
set_option maxHeartbeats 4000000
namespace Dv
open PySem L2
def topS (i : Nat) : Stmt := PySem.Challenge.pw_asyncframes_k01_boxes_are_listed_and_che.main.body.getD i (.Pass ⟨0, 0, 0, 0⟩)
structure Top (mg : Str → Option Value) : Prop where
  max : mg "max" = none
  all : mg "all" = none
  len : mg "len" = none
  set : mg "set" = none
  list : mg "list" = none
  abs : mg "abs" = none
  int : mg "int" = none
  isinstance : mg "isinstance" = none
  str : mg "str" = none
  tuple : mg "tuple" = none
  bool : mg "bool" = none
  range : mg "range" = none
  sum : mg "sum" = none
  c_MOST_BOXES : IntAt mg "MOST_BOXES" 40
  c_MOST_DEPTH : IntAt mg "MOST_DEPTH" 4
  c_MOST_NUMBER : IntAt mg "MOST_NUMBER" 999
  c_MOST_HEIGHT : IntAt mg "MOST_HEIGHT" 1000

/-! steps as long as they are plain -/
local macro_rules
  | `(tactic| kwd_rel) => `(tactic| repeat (first
    | (with_reducible show W _ _ _ _ _; first
        | with_reducible refine w_var (by with_unfolding_all exact rfl) ?_
        | with_reducible refine w_int ?_
        | with_reducible refine w_op ?_
        | with_reducible refine w_str ?_
        | with_reducible refine w_cb ?_
        | with_reducible refine w_call ?_
        | with_reducible refine w_tup ?_
        | with_reducible refine w_ifExp ?_
        | with_reducible refine w_un ?_
        | with_reducible refine w_bl ?_
        | with_reducible refine w_non ?_
        | with_reducible refine w_ref ?_
        | with_reducible refine w_ty ?_
        | with_reducible refine w_notV ?_
        | with_reducible refine w_andV ?_
        | with_reducible refine w_orV ?_
        | with_reducible refine w_slice ?_
        | with_reducible refine w_chain ?_
        | with_reducible refine w_isN ?_
        | with_reducible refine w_notN ?_)
    | (with_reducible show WA _ _ _ _ _; first
        | with_reducible refine wa_cons ?_
        | with_reducible refine wa_nil ?_)
    | (with_reducible show WR _ _ _ _ _ _; first
        | with_reducible refine wr_bn ?_
        | with_reducible refine wr_bh ?_
        | with_reducible refine wr_ix (by with_unfolding_all first | exact SeqD.tup | exact SeqD.lst | exact SeqD.cell updC_same | exact SeqD.cell (by assumption)) (by with_unfolding_all exact rfl) ?_
        | with_reducible refine wr_intB ?_
        | with_reducible refine wr_int ?_
        | with_reducible refine wr_add ?_
        | with_reducible refine wr_eq (by with_unfolding_all exact rfl) ?_
        | with_reducible refine wr_ne (by with_unfolding_all exact rfl) ?_
        | with_reducible refine wr_mod (by first | assumption | decide | omega) ?_
        | with_reducible refine wr_fdiv (by first | assumption | decide | omega) (by first | assumption | decide | omega) ?_
        | with_reducible refine wr_mul (by omega) ?_
        | with_reducible refine wr_pow (by decide) ?_
        | with_reducible refine wr_isN ?_
        | with_reducible refine wr_notN ?_)
    | (with_reducible show WS _ _ _ _ _; first
        | with_reducible refine ws_seq ?_
        | with_reducible refine ws_set ?_
        | with_reducible refine ws_ret ?_
        | with_reducible refine ws_if ?_
        | with_reducible refine ws_drop ?_
        | with_reducible refine ws_retN ?_
        | with_reducible refine ws_next ?_
        | with_reducible refine ws_break ?_
        | with_reducible refine ws_cont ?_
        | with_reducible refine ws_asg ?_)
    | (with_reducible show WT _ _ _ _ _; first
        | with_reducible refine wt_test ?_
        | with_reducible refine wt_truth ?_
        | with_reducible refine wt_and ?_
        | with_reducible refine wt_or ?_
        | with_reducible refine wt_not ?_
        | with_reducible refine wt_yes ?_)
    | (with_reducible show WC _ _ _ _ _; first
        | with_reducible refine wc_len (by with_unfolding_all first | exact SeqD.tup | exact SeqD.lst | exact SeqD.cell updC_same | exact SeqD.cell (by assumption)) ?_
        | with_reducible refine wc_int ?_
        | with_reducible refine wc_isi2 (by with_unfolding_all exact rfl) (by with_reducible first | exact kit_NoneType_list | exact kit_NoneType_tuple | exact kit_NoneType_bool | exact kit_NoneType_str | exact kit_NoneType_int | exact kit_NoneType_dict | exact kit_bool_list | exact kit_bool_tuple | exact kit_bool_bool | exact kit_bool_str | exact kit_bool_int | exact kit_bool_dict | exact kit_int_list | exact kit_int_tuple | exact kit_int_bool | exact kit_int_str | exact kit_int_int | exact kit_int_dict | exact kit_str_list | exact kit_str_tuple | exact kit_str_bool | exact kit_str_str | exact kit_str_int | exact kit_str_dict | exact kit_tuple_list | exact kit_tuple_tuple | exact kit_tuple_bool | exact kit_tuple_str | exact kit_tuple_int | exact kit_tuple_dict | exact kit_list_list | exact kit_list_tuple | exact kit_list_bool | exact kit_list_str | exact kit_list_int | exact kit_list_dict | exact kit_dict_list | exact kit_dict_tuple | exact kit_dict_bool | exact kit_dict_str | exact kit_dict_int | exact kit_dict_dict) (by with_reducible first | exact kit_NoneType_list | exact kit_NoneType_tuple | exact kit_NoneType_bool | exact kit_NoneType_str | exact kit_NoneType_int | exact kit_NoneType_dict | exact kit_bool_list | exact kit_bool_tuple | exact kit_bool_bool | exact kit_bool_str | exact kit_bool_int | exact kit_bool_dict | exact kit_int_list | exact kit_int_tuple | exact kit_int_bool | exact kit_int_str | exact kit_int_int | exact kit_int_dict | exact kit_str_list | exact kit_str_tuple | exact kit_str_bool | exact kit_str_str | exact kit_str_int | exact kit_str_dict | exact kit_tuple_list | exact kit_tuple_tuple | exact kit_tuple_bool | exact kit_tuple_str | exact kit_tuple_int | exact kit_tuple_dict | exact kit_list_list | exact kit_list_tuple | exact kit_list_bool | exact kit_list_str | exact kit_list_int | exact kit_list_dict | exact kit_dict_list | exact kit_dict_tuple | exact kit_dict_bool | exact kit_dict_str | exact kit_dict_int | exact kit_dict_dict) ?_
        | with_reducible refine wc_isi (by with_unfolding_all exact rfl) (by with_reducible first | exact kit_NoneType_list | exact kit_NoneType_tuple | exact kit_NoneType_bool | exact kit_NoneType_str | exact kit_NoneType_int | exact kit_NoneType_dict | exact kit_bool_list | exact kit_bool_tuple | exact kit_bool_bool | exact kit_bool_str | exact kit_bool_int | exact kit_bool_dict | exact kit_int_list | exact kit_int_tuple | exact kit_int_bool | exact kit_int_str | exact kit_int_int | exact kit_int_dict | exact kit_str_list | exact kit_str_tuple | exact kit_str_bool | exact kit_str_str | exact kit_str_int | exact kit_str_dict | exact kit_tuple_list | exact kit_tuple_tuple | exact kit_tuple_bool | exact kit_tuple_str | exact kit_tuple_int | exact kit_tuple_dict | exact kit_list_list | exact kit_list_tuple | exact kit_list_bool | exact kit_list_str | exact kit_list_int | exact kit_list_dict | exact kit_dict_list | exact kit_dict_tuple | exact kit_dict_bool | exact kit_dict_str | exact kit_dict_int | exact kit_dict_dict) ?_
        | with_reducible refine wc_abs ?_
        | with_reducible refine wc_max2 ?_
        | with_reducible refine wc_min2 ?_)
    | (with_reducible show WG _ _ _ _ _ _; first
        | with_reducible refine wg_name ?_
        | with_reducible refine wg_sub ?_)
    | (with_reducible show WU _ _ _ _ _; first
        | with_reducible refine wu_int ?_)
    | (with_reducible show WO _ _ _ _ _; first
        | with_reducible refine wo_none ?_
        | with_reducible refine wo_some ?_)
    | (with_reducible show WSl _ _ _ _ _ _ _; first
        | with_reducible refine wsl_tupE (by with_unfolding_all exact rfl) ?_
        | with_reducible refine wsl_lstE (by with_unfolding_all exact rfl) ?_)
    | (with_reducible show WSet _ _ _ _ _ _ _; first
        | with_reducible refine wset_list (by first | exact updC_same | assumption) (by with_unfolding_all exact rfl) ?_)
    | with_reducible refine ex_bl ?_
    | with_reducible refine tru_bl ?_
    | with_reducible refine Exists.intro _ (And.intro (by with_unfolding_all first | exact rfl | exact SeqF.tup | exact SeqF.lst) ?_)
    | with_reducible refine And.intro (by with_unfolding_all exact Nat.le_of_ble_eq_true rfl) ?_
    | with_reducible refine nx_show ?_
    | with_reducible refine rt_show ?_
    | with_reducible refine ct_show ?_
    | with_reducible refine bk_show ?_))
/-! a test's two ways; one that cannot be goes away -/
set_option hygiene false in
local macro_rules
  | `(tactic| kwd_less) => `(tactic| (refine ite_two (fun hc => ?_) (fun hc => ?_) <;> first | (exact absurd hc (by with_unfolding_all exact Bool.false_ne_true)) | (exact absurd hc (by with_unfolding_all exact Bool.noConfusion)) | (exact absurd hc (by decide +kernel)) | skip))
section
variable {P : Program} {w : World} {K : PySem.W.Frag} {mg : Str → Option Value} {base : Heap}
/-! parts_of -/
abbrev sparts_of : Stmt := topS 5
theorem scparts_of : FnScope ["box"] ["box"] (defScope sparts_of) := ⟨rfl, rfl, rfl, by decide +kernel, rfl, by decide +kernel, by decide +kernel⟩
def fParts : SpD := fun ds C P => ∃ b : Box, ds = [encB b] ∧ P (.tup (encBs b.parts)) C
theorem ok_parts_of (Df : DefAt K mg "parts_of" sparts_of ["box"]) (T : Top mg) : Has P w K mg base 1 "parts_of" ["box"] (spD fParts) := by
  refine has_of Df scparts_of (fun ds C P ⟨b, h, _⟩ => by rw [h]; rfl) fun f cdv A outer s H E hr => ⟨_, 
    (pss_one (ps_ret (pe_ifExp (pt_cmpR (op_eqK K hr) (pe_ix (ix_seqK K) (pv 0) pe_int (fun _ _ => rfl)) pe_str (nomark _)) (pe_ix (ix_seqK K) (pv 0) pe_int (fun _ _ => rfl)) (pe_tup pa_nil)))), fun B ds C P ⟨b, hd, k⟩ => ?_⟩
  subst hd
  cases b with
  | block n h =>
    kwd_rel
    kwd_less
    kwd_rel
    exact k
  | scroller n h ps =>
    kwd_rel
    kwd_less
    kwd_rel
    exact k
/-! all_boxes -/
abbrev sall_boxes : Stmt := topS 6
theorem scall_boxes : FnScope ["document", "found", "part"] ["document"] (defScope sall_boxes) := ⟨rfl, rfl, rfl, by decide +kernel, rfl, by decide +kernel, by decide +kernel⟩
def fAllB (n : Nat) : SpD := fun ds C P => ∃ b : Box, b.lev ≤ n ∧ b.all.length ≤ 100000 ∧ ds = [encB b] ∧ P (.lst (encBs b.all)) C
theorem ok_all_boxes (Df : DefAt K mg "all_boxes" sall_boxes ["document"]) (T : Top mg) (h_parts_of : Has P w K mg base 1 "parts_of" ["box"] (spD fParts)) : ∀ n, Has P w K mg base (n+2) "all_boxes" ["document"] (spD (fAllB n)) := by
  intro n
  induction n with
  | zero =>
    refine has_of Df scall_boxes (fun ds C P ⟨b, _, _, h, _⟩ => by rw [h]; rfl) fun f cdv A outer s H E hr => ⟨_, pss_never, fun B ds C P ⟨b, hl, _⟩ => ws_never ?_⟩
    cases b <;> simp [Box.lev] at hl
  | succ n h_all_boxes =>
    refine has_of Df scall_boxes (fun ds C P ⟨b, _, _, h, _⟩ => by rw [h]; rfl) fun f cdv A outer s H E hr => ⟨_, 
    (pss_cons (ps_nm 1 scall_boxes.nd (pe_lst (pa_cons (pv 0) pa_nil)))
    (pss_cons (ps_for PassesOwn.never rfl (pi_seqK K (pe_def h_parts_of (hr.mono (by omega)) (pa_cons (pv 0) pa_nil))) (pg_nm 2 scall_boxes.nd) 
      (pss_one (ps_expr (pe_bmK K PySem.F.plainAttrs_list PySem.F.slot_list_extend PySem.F.type_list_extend mt_extend (pv 1) (pa_cons (pe_def h_all_boxes (hr.mono (by omega)) (pa_cons (pv 2) pa_nil)) pa_nil)))))
    (pss_one (ps_ret (pv 1))))), fun B ds C P ⟨b, hl, hz, hd, k⟩ => ?_⟩
    subst hd
    kwd_rel
    refine w_lstC ?_
    kwd_rel
    intro a ha
    kwd_rel
    refine ws_for (fun rest E1 C1 => ∃ pre post x, b.parts = pre ++ post ∧ rest = encBs post ∧ E1 = [some (encB b), some (.ref a), x] ∧ C1 = updC C a (.lst (encBs (b :: alls pre)))) (wi_seq ?_) ?_ ?_
    · kwd_rel
      refine ⟨b, rfl, ?_⟩
      kwd_rel
      exact ⟨[], b.parts, none, rfl, rfl, rfl, rfl⟩
    · rintro E1 C1 ⟨pre, post, x, h1, h2, rfl, rfl⟩
      have e := encBs_nil h2
      subst e
      refine ws_ret (w_varF rfl updC_same ?_)
      rw [delC_updC ha]
      rw [List.append_nil] at h1
      rw [← h1, ← all_eq]
      exact k
    · rintro x xs E1 C1 ⟨pre, post, y, h1, h2, rfl, rfl⟩
      obtain ⟨p, q, rfl, rfl, rfl⟩ := encBs_cons h2
      have hp := all_len_part h1
      kwd_rel
      refine w_bmL ?_
      kwd_rel
      refine ⟨⟨_, .cell updC_same⟩, ?_⟩
      kwd_rel
      refine ⟨p, lev_parts hl (by rw [h1]; simp), by omega, rfl, ?_⟩
      kwd_rel
      refine wm_extend updC_same .lst (by rw [encBs_length, encBs_length]; omega) ?_
      rw [updC_updC]
      refine ⟨pre ++ [p], q, _, by simp [h1], rfl, rfl, ?_⟩
      rw [alls_append, ← encBs_append]
      simp [alls]
end
section
variable {P : Program} {w : World} {K : PySem.W.Frag} {mg : Str → Option Value} {base : Heap}
/-! find -/
abbrev sfind : Stmt := topS 7
theorem scfind : FnScope ["document", "number", "box"] ["document", "number"] (defScope sfind) := ⟨rfl, rfl, rfl, by decide +kernel, rfl, by decide +kernel, by decide +kernel⟩
def fFind (n : Nat) : SpD := fun ds C P => ∃ (b : Box) (i : Int), b.lev ≤ n ∧ b.all.length ≤ 100000 ∧ ds = [encB b, .int i] ∧ P (encO (findB b.all i)) C
theorem ok_find {n k : Nat} (Df : DefAt K mg "find" sfind ["document", "number"]) (T : Top mg) (h_all_boxes : Has P w K mg base k "all_boxes" ["document"] (spD (fAllB n))) : Has P w K mg base (k+1) "find" ["document", "number"] (spD (fFind n)) := by
  refine has_of Df scfind (fun ds C P ⟨b, i, _, _, h, _⟩ => by rw [h]; rfl) fun f cdv A outer s H E hr => ⟨_, 
    (pss_cons (ps_for PassesOwn.never rfl (pi_seqK K (pe_def h_all_boxes (hr.mono (by omega)) (pa_cons (pv 0) pa_nil))) (pg_nm 2 scfind.nd) 
      (pss_one (ps_if (pt_cmpR (op_eqK K hr) (pe_ix (ix_seqK K) (pv 2) pe_int (fun _ _ => rfl)) (pv 1) (nomark _)) 
        (pss_one (ps_ret (pv 2))) pss_nil)))
    (pss_one (ps_ret pe_non))), fun B ds C P ⟨b, i, hl, hz, hd, k⟩ => ?_⟩
  subst hd
  kwd_rel
  refine ws_for (fun rest E1 C1 => ∃ post x, findB b.all i = findB post i ∧ rest = encBs post ∧ E1 = [some (encB b), some (.int i), x] ∧ C1 = C) (wi_seq ?_) ?_ ?_
  · kwd_rel
    refine ⟨b, hl, hz, rfl, ?_⟩
    kwd_rel
    exact ⟨b.all, none, rfl, rfl, rfl, rfl⟩
  · rintro E1 C1 ⟨post, x, h1, h2, rfl, rfl⟩
    have e := encBs_nil h2
    subst e
    kwd_rel
    rw [h1] at k
    exact k
  · rintro x xs E1 C1 ⟨post, y, h1, h2, rfl, rfl⟩
    obtain ⟨p, q, rfl, rfl, rfl⟩ := encBs_cons h2
    kwd_rel
    kwd_less
    · kwd_rel
      have e : p.num = i := of_decide_eq_true hc
      rw [h1, findB, if_pos e] at k
      exact k
    · kwd_rel
      have e : ¬ p.num = i := of_decide_eq_false hc
      rw [findB, if_neg e] at h1
      exact ⟨q, _, h1, rfl, rfl, rfl⟩
/-! parent_of -/
abbrev sparent_of : Stmt := topS 8
theorem scparent_of : FnScope ["document", "number", "box", "part"] ["document", "number"] (defScope sparent_of) := ⟨rfl, rfl, rfl, by decide +kernel, rfl, by decide +kernel, by decide +kernel⟩
def fParent (n : Nat) : SpD := fun ds C P => ∃ (b : Box) (i : Int), b.lev ≤ n ∧ b.all.length ≤ 100000 ∧ ds = [encB b, .int i] ∧ P (encOI (parentB b.all i)) C
theorem ok_parent_of {n k : Nat} (Df : DefAt K mg "parent_of" sparent_of ["document", "number"]) (T : Top mg) (h_parts_of : Has P w K mg base k "parts_of" ["box"] (spD fParts)) (h_all_boxes : Has P w K mg base k "all_boxes" ["document"] (spD (fAllB n))) : Has P w K mg base (k+1) "parent_of" ["document", "number"] (spD (fParent n)) := by
  refine has_of Df scparent_of (fun ds C P ⟨b, i, _, _, h, _⟩ => by rw [h]; rfl) fun f cdv A outer s H E hr => ⟨_, 
    (pss_cons (ps_for PassesOwn.never rfl (pi_seqK K (pe_def h_all_boxes (hr.mono (by omega)) (pa_cons (pv 0) pa_nil))) (pg_nm 2 scparent_of.nd) 
      (pss_one (ps_if (pt_cmpR (op_inK K) (pv 1) (pe_lc (own := [("part", 3)]) rfl scparent_of.nd (pi_seqK K (pe_def h_parts_of (hr.mono (by omega)) (pa_cons (pv 2) pa_nil))) (blkOk_by (N := ["document", "number", "box", "part"]) (sc := defScope sparent_of) (by decide +kernel)) (fun _ _ _ _ _ => pg_nm 3 scparent_of.nd) (fun _ _ _ _ _ => pts_nil) (fun _ _ _ _ _ => (pe_ix (ix_seqK K) (pv 3) pe_int (fun _ _ => rfl)))) (by rfl)) 
        (pss_one (ps_ret (pe_ix (ix_seqK K) (pv 2) pe_int (fun _ _ => rfl)))) pss_nil)))
    (pss_one (ps_ret pe_non))), fun B ds C P ⟨b, i, hl, hz, hd, k⟩ => ?_⟩
  subst hd
  kwd_rel
  refine ws_for (fun rest E1 C1 => ∃ post x, parentB b.all i = parentB post i ∧ rest = encBs post ∧ (∀ p ∈ post, p.parts.length ≤ 100000) ∧ E1 = [some (encB b), some (.int i), x, none] ∧ C1 = C) (wi_seq ?_) ?_ ?_
  · kwd_rel
    refine ⟨b, hl, hz, rfl, ?_⟩
    kwd_rel
    exact ⟨b.all, none, rfl, rfl, fun p hp => Nat.le_trans (parts_len hp) hz, rfl, rfl⟩
  · rintro E1 C1 ⟨post, x, h1, h2, _, rfl, rfl⟩
    have e := encBs_nil h2
    subst e
    kwd_rel
    rw [h1] at k
    exact k
  · rintro x xs E1 C1 ⟨post, y, h1, h2, hp, rfl, rfl⟩
    obtain ⟨p, q, rfl, rfl, rfl⟩ := encBs_cons h2
    kwd_rel
    refine w_lcMap (fun x => match x with | .tup (_ :: n :: _) => n | _ => .non) (by simp) (wi_seq ?_)
    kwd_rel
    refine ⟨p, rfl, ?_⟩
    kwd_rel
    refine ⟨by rw [encBs_length]; exact Nat.le_trans (hp p (by simp)) (by decide), fun x hx => ?_, ?_⟩
    · rw [encBs_map] at hx
      obtain ⟨z, hz2, rfl⟩ := List.mem_map.mp hx
      kwd_rel
      cases z <;> exact ⟨rfl, rfl⟩
    · have e : (encBs p.parts).map (fun x => match x with | .tup (_ :: n :: _) => n | _ => .non) = (p.parts.map Box.num).map D.int := by
        rw [encBs_map, List.map_map, List.map_map]
        apply List.map_congr_left
        intro z _
        cases z <;> rfl
      rw [e]
      refine wr_inI .lst ?_
      kwd_rel
      kwd_less
      · kwd_rel
        have e : i ∈ p.parts.map Box.num := of_decide_eq_true hc
        rw [h1, parentB, if_pos e] at k
        exact k
      · kwd_rel
        have e : ¬ i ∈ p.parts.map Box.num := of_decide_eq_false hc
        rw [parentB, if_neg e] at h1
        exact ⟨q, _, h1, rfl, fun p hq => hp p (by simp [hq]), rfl, rfl⟩
/-! depth_of -/
abbrev sdepth_of : Stmt := topS 9
theorem scdepth_of : FnScope ["box", "part"] ["box"] (defScope sdepth_of) := ⟨rfl, rfl, rfl, by decide +kernel, rfl, by decide +kernel, by decide +kernel⟩
def fDepth (n : Nat) : SpD := fun ds C P => ∃ b : Box, b.lev ≤ n ∧ b.all.length ≤ 100000 ∧ ds = [encB b] ∧ P (.int (b.deep : Nat)) C
theorem ok_depth_of (Df : DefAt K mg "depth_of" sdepth_of ["box"]) (T : Top mg) : ∀ n, Has P w K mg base (n+1) "depth_of" ["box"] (spD (fDepth n)) := by
  intro n
  induction n with
  | zero =>
    refine has_of Df scdepth_of (fun ds C P ⟨b, _, _, h, _⟩ => by rw [h]; rfl) fun f cdv A outer s H E hr => ⟨_, pss_never, fun B ds C P ⟨b, hl, _⟩ => ws_never ?_⟩
    cases b <;> simp [Box.lev] at hl
  | succ n h_depth_of =>
    refine has_of Df scdepth_of (fun ds C P ⟨b, _, _, h, _⟩ => by rw [h]; rfl) fun f cdv A outer s H E hr => ⟨_, 
    (pss_cons (ps_if (pt_cmpR (op_eqK K hr) (pe_ix (ix_seqK K) (pv 0) pe_int (fun _ _ => rfl)) pe_str (nomark _)) 
      (pss_one (ps_ret pe_int)) pss_nil)
    (pss_one (ps_ret (pe_op (op_addK K) pe_int (pe_callB (call_maxK K) (by rfl) T.max bt_max (pa_cons (pe_op (op_addK K) (pe_lst (pa_cons pe_int pa_nil)) (pe_lc (own := [("part", 1)]) rfl scdepth_of.nd (pi_seqK K (pe_ix (ix_seqK K) (pv 0) pe_int (fun _ _ => rfl))) (blkOk_by (N := ["box", "part"]) (sc := defScope sdepth_of) (by decide +kernel)) (fun _ _ _ _ _ => pg_nm 1 scdepth_of.nd) (fun _ _ _ _ _ => pts_nil) (fun _ _ _ _ _ => (pe_def h_depth_of (hr.mono (by omega)) (pa_cons (pv 1) pa_nil))))) pa_nil)))))), fun B ds C P ⟨b, hl, hz, hd, k⟩ => ?_⟩
    subst hd
    cases b with
    | block m h =>
      kwd_rel
      kwd_less
      kwd_rel
      exact k
    | scroller m h ps =>
      have hps : ∀ p ∈ ps, p.lev ≤ n ∧ p.all.length ≤ 100000 := fun p hp => ⟨lev_parts hl hp, Nat.le_trans (all_len_sub (b := .scroller m h ps) hp) hz⟩
      have hlen : ps.length ≤ 100000 := Nat.le_trans (parts_len (b := .scroller m h ps) (p := .scroller m h ps) (by rw [all_eq]; simp)) hz
      kwd_rel
      kwd_less
      kwd_rel
      refine w_lst ?_
      kwd_rel
      refine w_lc (fun rest acc C1 => ∃ pre post, ps = pre ++ post ∧ rest = encBs post ∧ acc = pre.map (fun p => D.int (p.deep : Nat)) ∧ C1 = C) (sets_name (by simp)) (wi_seq ?_) ?_ ?_
      · kwd_rel
        exact ⟨by rw [encBs_length]; omega, [], ps, rfl, rfl, rfl, rfl⟩
      · rintro acc C1 ⟨pre, post, h1, h2, rfl, rfl⟩
        have e := encBs_nil h2
        subst e
        rw [List.append_nil] at h1
        subst h1
        refine wr_addL .lst .lst (by simp; omega) ?_
        kwd_rel
        refine wc_maxL (ns := (0 : Int) :: ps.map (fun p => (p.deep : Int))) (by simp [List.map_map, Function.comp_def]; exact .lst) (by simp) (fun m hm hle => ?_)
        have e := deeps_max ps m hm hle
        kwd_rel
        rw [Box.deep] at k
        rw [e]
        have : (1 : Int) + (deeps ps : Nat) = ((deeps ps + 1 : Nat) : Int) := by omega
        rw [this]
        exact k
      · rintro x xs acc C1 ⟨pre, post, h1, h2, rfl, rfl⟩
        obtain ⟨p, q, rfl, rfl, rfl⟩ := encBs_cons h2
        kwd_rel
        refine ⟨fun _ => ?_, fun z => by cases z⟩
        kwd_rel
        obtain ⟨l1, l2⟩ := hps p (by rw [h1]; simp)
        exact ⟨p, l1, l2, rfl, pre ++ [p], q, by simp [h1], rfl, by simp, rfl⟩
end
section
variable {P : Program} {w : World} {K : PySem.W.Frag} {mg : Str → Option Value} {base : Heap}
/-! is_document -/
abbrev sis_document : Stmt := topS 10
theorem scis_document : FnScope ["box", "boxes", "numbers", "one", "number"] ["box"] (defScope sis_document) := ⟨rfl, rfl, rfl, by decide +kernel, rfl, by decide +kernel, by decide +kernel⟩
def fIsDoc (n : Nat) : SpD := fun ds C P => ∃ b : Box, b.lev ≤ n ∧ b.all.length ≤ 4000 ∧ ds = [encB b] ∧ P (.bl (isDoc b)) C
theorem ok_is_document {n k : Nat} (Df : DefAt K mg "is_document" sis_document ["box"]) (T : Top mg) (h_all_boxes : Has P w K mg base k "all_boxes" ["document"] (spD (fAllB n))) (h_depth_of : Has P w K mg base k "depth_of" ["box"] (spD (fDepth n))) : Has P w K mg base (k+1) "is_document" ["box"] (spD (fIsDoc n)) := by
  refine has_of Df scis_document (fun ds C P ⟨b, _, _, h, _⟩ => by rw [h]; rfl) fun f cdv A outer s H E hr => ⟨_, 
    (pss_cons (ps_nm 1 scis_document.nd (pe_def h_all_boxes (hr.mono (by omega)) (pa_cons (pv 0) pa_nil)))
    (pss_cons (ps_setLc (i := 2) (own := [("one", 3)]) rfl scis_document.nd rfl rfl (sw_true rfl rfl rfl (by decide +kernel)) (pi_seqK K (pv 1)) (blkOk_by (N := ["box", "boxes", "numbers", "one", "number"]) (sc := defScope sis_document) (by decide +kernel)) (fun _ _ _ _ _ => pg_nm 3 scis_document.nd) (fun _ _ _ _ _ => pts_nil) (fun _ _ _ _ _ => (pe_ix (ix_seqK K) (pv 3) pe_int (fun _ _ => rfl))))
    (pss_cons (ps_if (PW.pt (pw_or (pt_cmpR (op_neK K hr) (pe_ix (ix_seqK K) (pv 0) pe_int (fun _ _ => rfl)) pe_str (nomark _)) (pw_or (pt_cmpR op_gt (pe_callB (call_lenK K) (by rfl) T.len bt_len (pa_cons (pv 1) pa_nil)) (pe_globI T.c_MOST_BOXES) (nomark _)) (pw_or1 (pt_cmpR op_gt (pe_def h_depth_of (hr.mono (by omega)) (pa_cons (pv 0) pa_nil)) (pe_globI T.c_MOST_DEPTH) (nomark _)))))) 
      (pss_one (ps_ret pe_bl)) pss_nil)
    (pss_cons (ps_if (PW.pt (pw_or (pt_cmpR op_lt (pe_lenSetK K T.len T.set (pv 2)) (pe_callB (call_lenK K) (by rfl) T.len bt_len (pa_cons (pv 2) pa_nil)) (nomark _)) (pw_or1 (pt_not (pt_truK K (pe_callB (call_allK K) (by rfl) T.all bt_all (pa_cons (pe_lc (own := [("number", 4)]) rfl scis_document.nd (pi_seqK K (pv 2)) (blkOk_by (N := ["box", "boxes", "numbers", "one", "number"]) (sc := defScope sis_document) (by decide +kernel)) (fun _ _ _ _ _ => pg_nm 4 scis_document.nd) (fun _ _ _ _ _ => pts_nil) (fun _ _ _ _ _ => (pe_chain op_le op_le pe_int (pv 4) (pe_globI T.c_MOST_NUMBER)))) pa_nil))))))) 
      (pss_one (ps_ret pe_bl)) pss_nil)
    (pss_one (ps_ret (pe_callB (call_allK K) (by rfl) T.all bt_all (pa_cons (pe_lc (own := [("one", 3)]) rfl scis_document.nd (pi_seqK K (pv 1)) (blkOk_by (N := ["box", "boxes", "numbers", "one", "number"]) (sc := defScope sis_document) (by decide +kernel)) (fun _ _ _ _ _ => pg_nm 3 scis_document.nd) (fun _ _ _ _ _ => pts_nil) (fun _ _ _ _ _ => (pe_chain op_le op_le pe_int (pe_ix (ix_seqK K) (pv 3) pe_int (fun _ _ => rfl)) (pe_globI T.c_MOST_HEIGHT)))) pa_nil)))))))), fun B ds C P ⟨b, hl, hz, hd, k⟩ => ?_⟩
  subst hd
  unfold isDoc at k
  kwd_rel
  refine ⟨b, hl, by omega, rfl, ?_⟩
  kwd_rel
  refine w_lcMap (fun x => match x with | .tup (_ :: n :: _) => n | _ => .non) (by simp) (wi_seq ?_)
  kwd_rel
  refine ⟨by rw [encBs_length]; omega, fun x hx => ?_, ?_⟩
  · rw [encBs_map] at hx
    obtain ⟨z, hz2, rfl⟩ := List.mem_map.mp hx
    kwd_rel
    cases z <;> exact ⟨rfl, rfl⟩
  have e : (encBs b.all).map (fun x => match x with | .tup (_ :: n :: _) => n | _ => .non) = (b.all.map Box.num).map D.int := by
    rw [encBs_map, List.map_map, List.map_map]
    apply List.map_congr_left
    intro z _
    cases z <;> rfl
  rw [e]
  have hb := encBs_length b.all
  kwd_rel
  refine wr_bk ?_
  kwd_rel
  have ek : ∀ {p : Prop} [Decidable p], ¬ p → P (.bl (decide p)) C → P (.bl false) C := fun h q => by rw [decide_eq_false h] at q; exact q
  have kd : b.kind = "scroller" ↔ b.isS = true := by cases b <;> simp [Box.kind, Box.isS] <;> decide +kernel
  kwd_less
  · have hq : ¬ b.isS = true := fun h => by simp [kd.mpr h] at hc
    kwd_rel
    kwd_less
    kwd_rel
    exact ek (fun h => hq h.1) k
  have h1 : b.isS = true := kd.mp (by simpa using hc)
  kwd_rel
  kwd_less
  · have hq := of_decide_eq_true hc
    kwd_rel
    kwd_less
    kwd_rel
    exact ek (fun h => by omega) k
  have h2 : b.all.length ≤ 40 := by have hc := of_decide_eq_false hc; omega
  kwd_rel
  refine ⟨b, hl, by omega, rfl, ?_⟩
  kwd_rel
  kwd_less
  · kwd_rel
    have hc := of_decide_eq_true hc
    exact ek (fun h => by omega) k
  have h3 : b.deep ≤ 4 := by have hc := of_decide_eq_false hc; omega
  kwd_rel
  refine w_lenSet ?_
  kwd_rel
  refine ⟨b.all.map Box.num, .lst, by rw [List.length_map]; omega, ?_⟩
  kwd_rel
  have em := metN_lt (b.all.map Box.num)
  rw [List.length_map] at em
  rw [List.length_map, List.length_map, em]
  kwd_less
  · have hq : ¬ (b.all.map Box.num).Nodup := by simpa using hc
    kwd_rel
    kwd_less
    kwd_rel
    exact ek (fun h => hq h.2.2.2.1) k
  have h4 : (b.all.map Box.num).Nodup := by simpa using hc
  kwd_rel
  refine w_lcMap (fun x => match x with | .int n => .bl (decide (1 ≤ n ∧ n ≤ 999)) | _ => .non) (by simp) (wi_seq ?_)
  kwd_rel
  refine ⟨by rw [List.length_map, List.length_map]; omega, fun x hx => ?_, ?_⟩
  · obtain ⟨z, hz2, rfl⟩ := List.mem_map.mp hx
    kwd_rel
    kwd_less
    · have hc := of_decide_eq_true hc
      kwd_rel
      exact ⟨by simp [hc], rfl⟩
    · have hc := of_decide_eq_false hc
      exact ⟨by simp [hc], rfl⟩
  have e : ((b.all.map Box.num).map D.int).map (fun x => match x with | .int n => .bl (decide (1 ≤ n ∧ n ≤ 999)) | _ => .non) = (b.all.map fun p => decide (1 ≤ p.num ∧ p.num ≤ 999)).map D.bl := by
    rw [List.map_map, List.map_map, List.map_map]
    rfl
  rw [e]
  kwd_rel
  refine wc_all .lst ?_
  have ea : ((b.all.map fun p => decide (1 ≤ p.num ∧ p.num ≤ 999)).all id) = decide (∀ p ∈ b.all, 1 ≤ p.num ∧ p.num ≤ 999) := by
    rw [Bool.eq_iff_iff]
    simp
  rw [ea]
  kwd_rel
  kwd_less
  · kwd_rel
    have hc : ¬ ∀ p ∈ b.all, 1 ≤ p.num ∧ p.num ≤ 999 := fun h => by rw [decide_eq_true h] at hc; cases hc
    exact ek (fun h => hc h.2.2.2.2.1) k
  have h5 : ∀ p ∈ b.all, 1 ≤ p.num ∧ p.num ≤ 999 := by
    cases q : decide (∀ p ∈ b.all, 1 ≤ p.num ∧ p.num ≤ 999) with
    | true => exact of_decide_eq_true q
    | false => rw [q] at hc; cases hc
  kwd_rel
  refine w_lcMap (fun x => match x with | .tup (_ :: _ :: .int n :: _) => .bl (decide (0 ≤ n ∧ n ≤ 1000)) | _ => .non) (by simp) (wi_seq ?_)
  kwd_rel
  refine ⟨by rw [encBs_length]; omega, fun x hx => ?_, ?_⟩
  · rw [encBs_map] at hx
    obtain ⟨z, hz2, rfl⟩ := List.mem_map.mp hx
    kwd_rel
    have ez : (match encB z with | .tup (_ :: _ :: .int n :: _) => D.bl (decide (0 ≤ n ∧ n ≤ 1000)) | _ => .non) = .bl (decide (0 ≤ z.hgt ∧ z.hgt ≤ 1000)) := by cases z <;> rfl
    rw [ez]
    kwd_less
    · have hc := of_decide_eq_true hc
      kwd_rel
      exact ⟨by simp [hc], rfl⟩
    · have hc := of_decide_eq_false hc
      exact ⟨by simp [hc], rfl⟩
  have e : (encBs b.all).map (fun x => match x with | .tup (_ :: _ :: .int n :: _) => .bl (decide (0 ≤ n ∧ n ≤ 1000)) | _ => .non) = (b.all.map fun p => decide (0 ≤ p.hgt ∧ p.hgt ≤ 1000)).map D.bl := by
    rw [encBs_map, List.map_map, List.map_map]
    apply List.map_congr_left
    intro z _
    cases z <;> rfl
  rw [e]
  kwd_rel
  refine wc_all .lst ?_
  have ea : ((b.all.map fun p => decide (0 ≤ p.hgt ∧ p.hgt ≤ 1000)).all id) = decide (∀ p ∈ b.all, 0 ≤ p.hgt ∧ p.hgt ≤ 1000) := by
    rw [Bool.eq_iff_iff]
    simp
  rw [ea]
  have eq : decide (∀ p ∈ b.all, 0 ≤ p.hgt ∧ p.hgt ≤ 1000) = decide (b.isS = true ∧ b.all.length ≤ 40 ∧ b.deep ≤ 4 ∧ (b.all.map Box.num).Nodup ∧ (∀ p ∈ b.all, 1 ≤ p.num ∧ p.num ≤ 999) ∧ ∀ p ∈ b.all, 0 ≤ p.hgt ∧ p.hgt ≤ 1000) := by
    rw [Bool.eq_iff_iff, decide_eq_true_iff, decide_eq_true_iff]
    exact ⟨fun h => ⟨h1, h2, h3, h4, h5, h⟩, fun h => h.2.2.2.2.2⟩
  rw [eq]
  exact k
end
section
variable {P : Program} {w : World} {K : PySem.W.Frag} {mg : Str → Option Value} {base : Heap}
/-! ### the law's draws: whatever is drawn lies in its range -/
def drC (ns : List Int) (p q s : Int) : Cell := .lst [.lst (ns.map D.int), .int p, .int q, .int s]
def DrawC (c : Cell) : Prop := ∃ ns p q s, c = drC ns p q s ∧ 0 ≤ p
abbrev slaw_draw : Stmt := topS 12
theorem sclaw_draw : FnScope ["_law_script"] ["_law_script"] (defScope slaw_draw) := ⟨rfl, rfl, rfl, by decide +kernel, rfl, by decide +kernel, by decide +kernel⟩
def fDraw : SpS := fun ns C P => ∀ a c, C a = none → DrawC c → P (.ref a) (updC C a c)
theorem ok_law_draw (Df : DefAt K mg "_law_draw" slaw_draw ["_law_script"]) (T : Top mg) : Has P w K mg base 1 "_law_draw" ["_law_script"] (spScr K fDraw) := by
  refine has_ofScr Df sclaw_draw fun f cdv A outer s H E hr => ⟨_, 
    (pss_one (ps_ret (pe_lst (pa_cons (pe_callTy (call_lstK K) (by rfl) T.list bt_list (pa_cons (pv 0) pa_nil)) (pa_cons pe_int (pa_cons pe_int (pa_cons pe_int pa_nil))))))), fun B a ns C P hs k => ?_⟩
  kwd_rel
  refine w_lstC ?_
  kwd_rel
  refine wc_listScr hs ?_
  kwd_rel
  exact fun a ha => k a _ ha ⟨ns, 0, 0, 17, rfl, by decide⟩
abbrev slaw_next : Stmt := topS 13
theorem sclaw_next : FnScope ["_law_draw_here", "_law_many", "_law_found", "_law_cell"] ["_law_draw_here", "_law_many"] (defScope slaw_next) := ⟨rfl, rfl, rfl, by decide +kernel, rfl, by decide +kernel, by decide +kernel⟩
def fNext : SpD := fun ds C P => ∃ (d : Addr) (m : Int) (c : Cell), ds = [.ref d, .int m] ∧ 0 < m ∧ m < 1000000000 ∧ C d = some c ∧ DrawC c ∧ ∀ v c', 0 ≤ v → v < m → DrawC c' → P (.int v) (updC C d c')
theorem ok_law_next (Df : DefAt K mg "_law_next" slaw_next ["_law_draw_here", "_law_many"]) (T : Top mg) : Has P w K mg base 1 "_law_next" ["_law_draw_here", "_law_many"] (spD fNext) := by
  refine has_of Df sclaw_next (fun ds C P ⟨_, _, _, h, _⟩ => by rw [h]; rfl) fun f cdv A outer s H E hr => ⟨_, 
    (pss_cons (ps_if (pt_cmpR op_gt (pe_ix (ix_seqK K) (pv 0) pe_int (fun _ _ => rfl)) pe_int (nomark _)) 
      (pss_cons (ps_nm 2 sclaw_next.nd (pe_op op_mod (pe_callTy call_intU (by rfl) T.int bt_int (pa_cons (pe_ix (ix_seqK K) (pv 0) pe_int (fun _ _ => rfl)) pa_nil)) (pv 1)))
      (pss_cons (ps_asg (pe_op op_fdiv (pe_ix (ix_seqK K) (pv 0) pe_int (fun _ _ => rfl)) (pv 1)) (pg_sub (pv 0) pe_int set_list))
      (pss_one (ps_ret (pv 2))))) pss_nil)
    (pss_cons (ps_if (pt_cmpR op_lt (pe_ix (ix_seqK K) (pv 0) pe_int (fun _ _ => rfl)) (pe_callB (call_lenK K) (by rfl) T.len bt_len (pa_cons (pe_ix (ix_seqK K) (pv 0) pe_int (fun _ _ => rfl)) pa_nil)) (nomark _)) 
      (pss_cons (ps_nm 3 sclaw_next.nd (pe_callB call_absN (by rfl) T.abs bt_abs (pa_cons (pe_ix (ix_seqK K) (pe_ix (ix_seqK K) (pv 0) pe_int (fun _ _ => rfl)) (pe_ix (ix_seqK K) (pv 0) pe_int (fun _ _ => rfl)) (fun _ _ => rfl)) pa_nil)))
      (pss_cons (ps_asg (pe_op (op_addK K) (pe_ix (ix_seqK K) (pv 0) pe_int (fun _ _ => rfl)) pe_int) (pg_sub (pv 0) pe_int set_list))
      (pss_cons (ps_if (pt_cmpR op_ge (pv 3) (pe_op op_pow pe_int pe_int) (nomark _)) 
        (pss_cons (ps_asg (pe_op op_fdiv (pv 3) (pv 1)) (pg_sub (pv 0) pe_int set_list))
        (pss_one (ps_ret (pe_op op_mod (pe_callTy call_intU (by rfl) T.int bt_int (pa_cons (pv 3) pa_nil)) (pv 1))))) pss_nil)
      (pss_one (ps_asg (pe_op op_mod (pe_callTy call_intU (by rfl) T.int bt_int (pa_cons (pe_op (op_addK K) (pe_op (op_addK K) (pe_op op_mul (pe_ix (ix_seqK K) (pv 0) pe_int (fun _ _ => rfl)) pe_int) (pv 3)) pe_int) pa_nil)) pe_int) (pg_sub (pv 0) pe_int set_list)))))) 
      (pss_one (ps_asg (pe_op op_mod (pe_callTy call_intU (by rfl) T.int bt_int (pa_cons (pe_op (op_addK K) (pe_op op_mul (pe_ix (ix_seqK K) (pv 0) pe_int (fun _ _ => rfl)) pe_int) pe_int) pa_nil)) pe_int) (pg_sub (pv 0) pe_int set_list))))
    (pss_one (ps_ret (pe_op op_mod (pe_op op_fdiv (pe_callTy call_intU (by rfl) T.int bt_int (pa_cons (pe_op op_mod (pe_op op_mul (pe_ix (ix_seqK K) (pv 0) pe_int (fun _ _ => rfl)) pe_int) pe_int) pa_nil)) pe_int) (pv 1)))))), fun B ds C P ⟨d, m, c, hd, m0, m1, hc, ⟨ns, p, q, s0, e, hp⟩, k⟩ => ?_⟩
  subst hd e
  unfold drC at hc
  kwd_rel
  kwd_less
  · kwd_rel
    exact k _ _ (Int.emod_nonneg _ (by omega)) (Int.emod_lt_of_pos _ m0) ⟨ns, p, q / m, s0, rfl, hp⟩
  · kwd_rel
    kwd_less
    · have hlt : p < (ns.length : Int) := by
        have e := of_decide_eq_true hc
        rw [List.length_map] at e
        exact e
      obtain ⟨z, hz, hat⟩ := atI_int hp hlt
      kwd_rel
      refine wr_ix .lst hat ?_
      kwd_rel
      kwd_less
      · kwd_rel
        show P _ _
        rw [updC_updC]
        exact k _ _ (Int.emod_nonneg _ (by omega)) (Int.emod_lt_of_pos _ m0) ⟨ns, p + 1, _, s0, rfl, by omega⟩
      · kwd_rel
        show P _ _
        rw [updC_updC]
        exact k _ _ (Int.emod_nonneg _ (by omega)) (Int.emod_lt_of_pos _ m0) ⟨ns, p + 1, q, _, rfl, by omega⟩
    · kwd_rel
      exact k _ _ (Int.emod_nonneg _ (by omega)) (Int.emod_lt_of_pos _ m0) ⟨ns, p, q, _, rfl, hp⟩
end
section
variable {P : Program} {w : World} {K : PySem.W.Frag} {mg : Str → Option Value} {base : Heap}
/-! ### the law's own comparison: the same data are the same -/
inductive GoodD : Nat → D → Prop
  | non {n : Nat} : GoodD n .non
  | bl {n : Nat} {b : Bool} : GoodD n (.bl b)
  | int {n : Nat} {i : Int} : GoodD n (.int i)
  | str {n : Nat} {x : Str} : GoodD n (.str x)
  | tup {n : Nat} {l : List D} : l.length ≤ 100000 → (∀ x ∈ l, GoodD n x) → GoodD (n + 1) (.tup l)
  | lst {n : Nat} {l : List D} : l.length ≤ 100000 → (∀ x ∈ l, GoodD n x) → GoodD (n + 1) (.lst l)
theorem GoodD.mono {n m : Nat} (h : n ≤ m) {x : D} (g : GoodD n x) : GoodD m x := by
  induction g generalizing m with
  | non => exact .non
  | bl => exact .bl
  | int => exact .int
  | str => exact .str
  | tup hl _ ih =>
    obtain ⟨m, rfl⟩ : ∃ k, m = k + 1 := ⟨m - 1, by omega⟩
    exact .tup hl fun x hx => ih x hx (by omega)
  | lst hl _ ih =>
    obtain ⟨m, rfl⟩ : ∃ k, m = k + 1 := ⟨m - 1, by omega⟩
    exact .lst hl fun x hx => ih x hx (by omega)
theorem goodB : ∀ (n : Nat) (b : Box), b.lev ≤ n → b.all.length ≤ 100000 → GoodD (2 * n) (encB b)
  | 0, b, h, _ => by cases b <;> simp [Box.lev] at h
  | n + 1, .block m k, _, _ => by
    rw [encB, Nat.mul_succ]
    refine .tup (by simp) fun x hx => ?_
    simp at hx
    rcases hx with rfl | rfl | rfl
    · exact .str
    · exact .int
    · exact .int
  | n + 1, .scroller m k ps, h, hz => by
    rw [encB, Nat.mul_succ]
    refine .tup (by simp) fun x hx => ?_
    simp at hx
    rcases hx with rfl | rfl | rfl | rfl
    · exact .str
    · exact .int
    · exact .int
    · refine .tup (by rw [encBs_length]; exact Nat.le_trans (parts_len (b := .scroller m k ps) (p := .scroller m k ps) (by rw [all_eq]; simp)) hz) fun x hx => ?_
      rw [encBs_map] at hx
      obtain ⟨p, hp, rfl⟩ := List.mem_map.mp hx
      exact goodB n p (lev_parts h hp) (Nat.le_trans (all_len_sub (b := .scroller m k ps) hp) hz)
theorem mem_lev : ∀ (n : Nat) (b p : Box), b.lev ≤ n → p ∈ b.all → p.lev ≤ n ∧ p.all.length ≤ b.all.length
  | 0, b, p, h, _ => by cases b <;> simp [Box.lev] at h
  | n + 1, b, p, h, hp => by
    rw [all_eq] at hp
    rcases List.mem_cons.mp hp with rfl | hp
    · exact ⟨h, Nat.le_refl _⟩
    · rw [alls_flat] at hp
      obtain ⟨q, hq, hp⟩ := List.mem_flatMap.mp hp
      obtain ⟨a, c⟩ := mem_lev n q p (lev_parts h hq) hp
      have := all_len_sub hq
      exact ⟨by omega, by omega⟩
theorem goodBs {n : Nat} {b : Box} (h : b.lev ≤ n) (hz : b.all.length ≤ 100000) : GoodD (2 * n + 1) (.lst (encBs b.all)) := by
  refine .lst (by rw [encBs_length]; exact hz) fun x hx => ?_
  rw [encBs_map] at hx
  obtain ⟨p, hp, rfl⟩ := List.mem_map.mp hx
  obtain ⟨a, c⟩ := mem_lev n b p h hp
  exact goodB n p a (by omega)
theorem findB_mem : ∀ {l : List Box} {i : Int} {p : Box}, findB l i = some p → p ∈ l
  | [], _, _, h => by cases h
  | q :: r, i, p, h => by
    rw [findB] at h
    split at h
    · cases h; simp
    · exact List.mem_cons_of_mem _ (findB_mem h)
theorem goodO {n : Nat} {b : Box} {i : Int} (h : b.lev ≤ n) (hz : b.all.length ≤ 100000) : GoodD (2 * n) (encO (findB b.all i)) := by
  cases e : findB b.all i with
  | none => exact .non
  | some p =>
    obtain ⟨a, c⟩ := mem_lev n b p h (findB_mem e)
    exact goodB n p a (by omega)
abbrev slaw_same : Stmt := topS 14
theorem sclaw_same : FnScope ["_law_actual", "_law_due", "_law_k"] ["_law_actual", "_law_due"] (defScope slaw_same) := ⟨rfl, rfl, rfl, by decide +kernel, rfl, by decide +kernel, by decide +kernel⟩
def fSame (n : Nat) : SpD := fun ds C P => ∃ (x : D) (m : Nat), m < n ∧ GoodD m x ∧ ds = [x, x] ∧ P (.bl true) C
theorem ok_law_same (Df : DefAt K mg "_law_same" slaw_same ["_law_actual", "_law_due"]) (T : Top mg) : ∀ n, Has P w K mg base (n+1) "_law_same" ["_law_actual", "_law_due"] (spD (fSame n)) := by
  intro n
  induction n with
  | zero => exact has_of Df sclaw_same (fun ds C P ⟨_, _, _, _, h, _⟩ => by rw [h]; rfl) fun f cdv A outer s H E hr => ⟨_, pss_never, fun B ds C P ⟨x, m, hm, _⟩ => ws_never (Nat.not_lt_zero _ hm)⟩
  | succ n h_law_same =>
    refine has_of Df sclaw_same (fun ds C P ⟨_, _, _, _, h, _⟩ => by rw [h]; rfl) fun f cdv A outer s H E hr => ⟨_, 
    (pss_cons (ps_if (pt_truK K (pe_callB (call_isiK K) (by rfl) T.isinstance bt_isinstance (pa_cons (pv 1) (pa_cons (pe_tup (pa_cons (pe_bltn (v := .ty "list") (by rfl) T.list bt_list rfl) (pa_cons (pe_bltn (v := .ty "tuple") (by rfl) T.tuple bt_tuple rfl) pa_nil))) pa_nil)))) 
      (pss_cons (ps_if (PW.pt (pw_or (pt_cmpR (op_neK K hr) (pe_callB (call_isiK K) (by rfl) T.isinstance bt_isinstance (pa_cons (pv 1) (pa_cons (pe_bltn (v := .ty "list") (by rfl) T.list bt_list rfl) pa_nil))) (pe_callB (call_isiK K) (by rfl) T.isinstance bt_isinstance (pa_cons (pv 0) (pa_cons (pe_bltn (v := .ty "list") (by rfl) T.list bt_list rfl) pa_nil))) (nomark _)) (pw_or1 (pt_cmpR (op_neK K hr) (pe_callB (call_isiK K) (by rfl) T.isinstance bt_isinstance (pa_cons (pv 1) (pa_cons (pe_bltn (v := .ty "tuple") (by rfl) T.tuple bt_tuple rfl) pa_nil))) (pe_callB (call_isiK K) (by rfl) T.isinstance bt_isinstance (pa_cons (pv 0) (pa_cons (pe_bltn (v := .ty "tuple") (by rfl) T.tuple bt_tuple rfl) pa_nil))) (nomark _))))) 
        (pss_one (ps_ret pe_bl)) pss_nil)
      (pss_cons (ps_if (pt_cmpR (op_neK K hr) (pe_callB (call_lenK K) (by rfl) T.len bt_len (pa_cons (pv 0) pa_nil)) (pe_callB (call_lenK K) (by rfl) T.len bt_len (pa_cons (pv 1) pa_nil)) (nomark _)) 
        (pss_one (ps_ret pe_bl)) pss_nil)
      (pss_one (ps_ret (pe_callB (call_allK K) (by rfl) T.all bt_all (pa_cons (pe_lc (own := [("_law_k", 2)]) rfl sclaw_same.nd (pi_range1 (by rfl) T.range (pa_cons (pe_callB (call_lenK K) (by rfl) T.len bt_len (pa_cons (pv 1) pa_nil)) pa_nil)) (blkOk_by (N := ["_law_actual", "_law_due", "_law_k"]) (sc := defScope slaw_same) (by decide +kernel)) (fun _ _ _ _ _ => pg_nm 2 sclaw_same.nd) (fun _ _ _ _ _ => pts_nil) (fun _ _ _ _ _ => (pe_def h_law_same (hr.mono (by omega)) (pa_cons (pe_ix (ix_seqK K) (pv 0) (pv 2) (fun _ _ => rfl)) (pa_cons (pe_ix (ix_seqK K) (pv 1) (pv 2) (fun _ _ => rfl)) pa_nil))))) pa_nil)))))) pss_nil)
    (pss_cons (ps_if (pt_cmpR op_isN (pv 1) pe_non (nomark _)) 
      (pss_one (ps_ret (pe_cmpR op_isN (pv 0) pe_non (nomark _)))) pss_nil)
    (pss_cons (ps_if (pt_cmpR (op_neK K hr) (pe_callB (call_isiK K) (by rfl) T.isinstance bt_isinstance (pa_cons (pv 1) (pa_cons (pe_bltn (v := .ty "bool") (by rfl) T.bool bt_bool rfl) pa_nil))) (pe_callB (call_isiK K) (by rfl) T.isinstance bt_isinstance (pa_cons (pv 0) (pa_cons (pe_bltn (v := .ty "bool") (by rfl) T.bool bt_bool rfl) pa_nil))) (nomark _)) 
      (pss_one (ps_ret pe_bl)) pss_nil)
    (pss_cons (ps_if (pt_truK K (pe_callB (call_isiK K) (by rfl) T.isinstance bt_isinstance (pa_cons (pv 1) (pa_cons (pe_bltn (v := .ty "str") (by rfl) T.str bt_str rfl) pa_nil)))) 
      (pss_one (ps_ret (pe_and (pe_callB (call_isiK K) (by rfl) T.isinstance bt_isinstance (pa_cons (pv 0) (pa_cons (pe_bltn (v := .ty "str") (by rfl) T.str bt_str rfl) pa_nil))) (pe_one (pe_cmpR (op_eqK K hr) (pv 0) (pv 1) (nomark _)))))) pss_nil)
    (pss_one (ps_ret (pe_and (pe_callB (call_isiK K) (by rfl) T.isinstance bt_isinstance (pa_cons (pv 0) (pa_cons (pe_bltn (v := .ty "int") (by rfl) T.int bt_int rfl) pa_nil))) (pe_one (pe_cmpR (op_eqK K hr) (pv 0) (pv 1) (nomark _)))))))))), fun B ds C P ⟨x, m, hm, g, hd, k⟩ => ?_⟩
    subst hd
    have items : ∀ l : List D, l.length ≤ 100000 → (∀ y ∈ l, GoodD (m - 1) y) → 0 < m → ∀ i : Nat, i < l.length → ∃ z, atI l (0 + (i : Int)) = some z ∧ GoodD (m - 1) z := by
      intro l hl hg h0 i hi
      obtain ⟨z, z1, _, z2⟩ := atI_some (ds := l) (i := 0 + (i : Int)) (by omega) (by omega)
      exact ⟨z, z2, hg z z1⟩
    cases g with
    | non =>
      kwd_rel
      kwd_less
      kwd_rel
      kwd_less
      kwd_rel
      exact k
    | bl =>
      kwd_rel
      kwd_less
      kwd_rel
      kwd_less
      kwd_rel
      kwd_less
      kwd_rel
      kwd_less
      kwd_rel
      kwd_less
      kwd_rel
      simpa using k
    | int =>
      kwd_rel
      kwd_less
      kwd_rel
      kwd_less
      kwd_rel
      kwd_less
      kwd_rel
      kwd_less
      kwd_rel
      kwd_less
      kwd_rel
      simpa using k
    | str =>
      kwd_rel
      kwd_less
      kwd_rel
      kwd_less
      kwd_rel
      kwd_less
      kwd_rel
      kwd_less
      kwd_rel
      kwd_less
      kwd_rel
      simpa using k
    | @tup m l h1 h2 =>
      kwd_rel
      kwd_less
      kwd_rel
      kwd_less
      kwd_rel
      kwd_less
      kwd_rel
      refine ite_two (fun hc => ?_) (fun hc => ?_)
      · simp at hc
      · kwd_rel
        refine w_lcMap (fun _ => .bl true) (by simp) (wi_rng1 ?_)
        kwd_rel
        refine ⟨by omega, by omega, by rw [rngD_len]; omega, fun x hx => ?_, ?_⟩
        · obtain ⟨i, hi, rfl⟩ := rngD_mem hx
          obtain ⟨z, z1, z2⟩ := items l h1 h2 (by omega) i (by omega)
          kwd_rel
          refine wr_ix .tup z1 ?_
          kwd_rel
          refine wr_ix .tup z1 ?_
          kwd_rel
          exact ⟨z, m, by omega, z2, rfl, rfl, rfl⟩
        · kwd_rel
          refine wc_all (bs := List.replicate l.length true) (by rw [rngD_const]; simp; exact .lst) ?_
          simpa using k
    | @lst m l h1 h2 =>
      kwd_rel
      kwd_less
      kwd_rel
      kwd_less
      kwd_rel
      kwd_less
      kwd_rel
      refine ite_two (fun hc => ?_) (fun hc => ?_)
      · simp at hc
      · kwd_rel
        refine w_lcMap (fun _ => .bl true) (by simp) (wi_rng1 ?_)
        kwd_rel
        refine ⟨by omega, by omega, by rw [rngD_len]; omega, fun x hx => ?_, ?_⟩
        · obtain ⟨i, hi, rfl⟩ := rngD_mem hx
          obtain ⟨z, z1, z2⟩ := items l h1 h2 (by omega) i (by omega)
          kwd_rel
          refine wr_ix .lst z1 ?_
          kwd_rel
          refine wr_ix .lst z1 ?_
          kwd_rel
          exact ⟨z, m, by omega, z2, rfl, rfl, rfl⟩
        · kwd_rel
          refine wc_all (bs := List.replicate l.length true) (by rw [rngD_const]; simp; exact .lst) ?_
          simpa using k
end
section
variable {P : Program} {w : World} {K : PySem.W.Frag} {mg : Str → Option Value} {base : Heap}
/-! ### the law's own readers of boxes -/
abbrev slaw_all : Stmt := topS 17
theorem sclaw_all : FnScope ["_law_box_here", "_law_found", "_law_part"] ["_law_box_here"] (defScope slaw_all) := ⟨rfl, rfl, rfl, by decide +kernel, rfl, by decide +kernel, by decide +kernel⟩
theorem ok_law_all (Df : DefAt K mg "_law_all" slaw_all ["_law_box_here"]) (T : Top mg) : ∀ n, Has P w K mg base (n+1) "_law_all" ["_law_box_here"] (spD (fAllB n)) := by
  intro n
  induction n with
  | zero =>
    refine has_of Df sclaw_all (fun ds C P ⟨b, _, _, h, _⟩ => by rw [h]; rfl) fun f cdv A outer s H E hr => ⟨_, pss_never, fun B ds C P ⟨b, hl, _⟩ => ws_never ?_⟩
    cases b <;> simp [Box.lev] at hl
  | succ n h_law_all =>
    refine has_of Df sclaw_all (fun ds C P ⟨b, _, _, h, _⟩ => by rw [h]; rfl) fun f cdv A outer s H E hr => ⟨_, 
    (pss_cons (ps_nm 1 sclaw_all.nd (pe_lst (pa_cons (pv 0) pa_nil)))
    (pss_cons (ps_for PassesOwn.never rfl (pi_seqK K (pe_ifExp (pt_cmpR (op_eqK K hr) (pe_ix (ix_seqK K) (pv 0) pe_int (fun _ _ => rfl)) pe_str (nomark _)) (pe_ix (ix_seqK K) (pv 0) pe_int (fun _ _ => rfl)) (pe_tup pa_nil))) (pg_nm 2 sclaw_all.nd) 
      (pss_one (ps_nm 1 sclaw_all.nd (pe_op (op_addK K) (pv 1) (pe_def h_law_all (hr.mono (by omega)) (pa_cons (pv 2) pa_nil))))))
    (pss_one (ps_ret (pv 1))))), fun B ds C P ⟨b, hl, hz, hd, k⟩ => ?_⟩
    subst hd
    kwd_rel
    refine w_lst ?_
    kwd_rel
    refine ws_for (fun rest E1 C1 => ∃ pre post x, b.parts = pre ++ post ∧ rest = encBs post ∧ E1 = [some (encB b), some (.lst (encBs (b :: alls pre))), x] ∧ C1 = C) (wi_seq ?_) ?_ ?_
    · cases b with
      | block m h =>
        kwd_rel
        kwd_less
        kwd_rel
        exact ⟨[], [], none, rfl, rfl, rfl, rfl⟩
      | scroller m h ps =>
        kwd_rel
        kwd_less
        kwd_rel
        exact ⟨[], ps, none, rfl, rfl, rfl, rfl⟩
    · rintro E1 C1 ⟨pre, post, x, h1, h2, rfl, rfl⟩
      have e := encBs_nil h2
      subst e
      kwd_rel
      rw [List.append_nil] at h1
      rw [← h1, ← all_eq]
      exact k
    · rintro x xs E1 C1 ⟨pre, post, y, h1, h2, rfl, rfl⟩
      obtain ⟨p, q, rfl, rfl, rfl⟩ := encBs_cons h2
      have hp := all_len_part h1
      kwd_rel
      refine ⟨p, lev_parts hl (by rw [h1]; simp), by omega, rfl, ?_⟩
      refine wr_addL .lst .lst (by rw [encBs_length, encBs_length]; omega) ?_
      kwd_rel
      have e : encBs (b :: alls pre) ++ encBs p.all = encBs (b :: alls (pre ++ [p])) := by
        rw [← encBs_append, alls_append]
        simp [alls]
      refine ⟨pre ++ [p], q, some (encB p), by simp [h1], rfl, ?_, rfl⟩
      rw [← e]
      rfl
abbrev slaw_named : Stmt := topS 21
theorem sclaw_named : FnScope ["_law_document_here", "_law_number", "_law_box_here"] ["_law_document_here", "_law_number"] (defScope slaw_named) := ⟨rfl, rfl, rfl, by decide +kernel, rfl, by decide +kernel, by decide +kernel⟩
theorem ok_law_named {n k : Nat} (Df : DefAt K mg "_law_named" slaw_named ["_law_document_here", "_law_number"]) (T : Top mg) (h_law_all : Has P w K mg base k "_law_all" ["_law_box_here"] (spD (fAllB n))) : Has P w K mg base (k+1) "_law_named" ["_law_document_here", "_law_number"] (spD (fFind n)) := by
  refine has_of Df sclaw_named (fun ds C P ⟨b, i, _, _, h, _⟩ => by rw [h]; rfl) fun f cdv A outer s H E hr => ⟨_, 
    (pss_cons (ps_for PassesOwn.never rfl (pi_seqK K (pe_def h_law_all (hr.mono (by omega)) (pa_cons (pv 0) pa_nil))) (pg_nm 2 sclaw_named.nd) 
      (pss_one (ps_if (pt_cmpR (op_eqK K hr) (pe_ix (ix_seqK K) (pv 2) pe_int (fun _ _ => rfl)) (pv 1) (nomark _)) 
        (pss_one (ps_ret (pv 2))) pss_nil)))
    (pss_one (ps_ret pe_non))), fun B ds C P ⟨b, i, hl, hz, hd, k⟩ => ?_⟩
  subst hd
  kwd_rel
  refine ws_for (fun rest E1 C1 => ∃ post x, findB b.all i = findB post i ∧ rest = encBs post ∧ E1 = [some (encB b), some (.int i), x] ∧ C1 = C) (wi_seq ?_) ?_ ?_
  · kwd_rel
    refine ⟨b, hl, hz, rfl, ?_⟩
    kwd_rel
    exact ⟨b.all, none, rfl, rfl, rfl, rfl⟩
  · rintro E1 C1 ⟨post, x, h1, h2, rfl, rfl⟩
    have e := encBs_nil h2
    subst e
    kwd_rel
    rw [h1] at k
    exact k
  · rintro x xs E1 C1 ⟨post, y, h1, h2, rfl, rfl⟩
    obtain ⟨p, q, rfl, rfl, rfl⟩ := encBs_cons h2
    kwd_rel
    kwd_less
    · kwd_rel
      have e : p.num = i := of_decide_eq_true hc
      rw [h1, findB, if_pos e] at k
      exact k
    · kwd_rel
      have e : ¬ p.num = i := of_decide_eq_false hc
      rw [findB, if_neg e] at h1
      exact ⟨q, _, h1, rfl, rfl, rfl⟩
abbrev slaw_depth : Stmt := topS 22
theorem sclaw_depth : FnScope ["_law_box_here", "_law_part"] ["_law_box_here"] (defScope slaw_depth) := ⟨rfl, rfl, rfl, by decide +kernel, rfl, by decide +kernel, by decide +kernel⟩
theorem ok_law_depth (Df : DefAt K mg "_law_depth" slaw_depth ["_law_box_here"]) (T : Top mg) : ∀ n, Has P w K mg base (n+1) "_law_depth" ["_law_box_here"] (spD (fDepth n)) := by
  intro n
  induction n with
  | zero =>
    refine has_of Df sclaw_depth (fun ds C P ⟨b, _, _, h, _⟩ => by rw [h]; rfl) fun f cdv A outer s H E hr => ⟨_, pss_never, fun B ds C P ⟨b, hl, _⟩ => ws_never ?_⟩
    cases b <;> simp [Box.lev] at hl
  | succ n h_law_depth =>
    refine has_of Df sclaw_depth (fun ds C P ⟨b, _, _, h, _⟩ => by rw [h]; rfl) fun f cdv A outer s H E hr => ⟨_, 
    (pss_one (ps_ret (pe_ifExp (pt_cmpR (op_eqK K hr) (pe_ix (ix_seqK K) (pv 0) pe_int (fun _ _ => rfl)) pe_str (nomark _)) pe_int (pe_op (op_addK K) pe_int (pe_callB (call_maxK K) (by rfl) T.max bt_max (pa_cons (pe_op (op_addK K) (pe_lst (pa_cons pe_int pa_nil)) (pe_lc (own := [("_law_part", 1)]) rfl sclaw_depth.nd (pi_seqK K (pe_ix (ix_seqK K) (pv 0) pe_int (fun _ _ => rfl))) (blkOk_by (N := ["_law_box_here", "_law_part"]) (sc := defScope slaw_depth) (by decide +kernel)) (fun _ _ _ _ _ => pg_nm 1 sclaw_depth.nd) (fun _ _ _ _ _ => pts_nil) (fun _ _ _ _ _ => (pe_def h_law_depth (hr.mono (by omega)) (pa_cons (pv 1) pa_nil))))) pa_nil)))))), fun B ds C P ⟨b, hl, hz, hd, k⟩ => ?_⟩
    subst hd
    cases b with
    | block m h =>
      kwd_rel
      kwd_less
      kwd_rel
      exact k
    | scroller m h ps =>
      have hps : ∀ p ∈ ps, p.lev ≤ n ∧ p.all.length ≤ 100000 := fun p hp => ⟨lev_parts hl hp, Nat.le_trans (all_len_sub (b := .scroller m h ps) hp) hz⟩
      have hlen : ps.length ≤ 100000 := Nat.le_trans (parts_len (b := .scroller m h ps) (p := .scroller m h ps) (by rw [all_eq]; simp)) hz
      kwd_rel
      kwd_less
      kwd_rel
      refine w_lst ?_
      kwd_rel
      refine w_lc (fun rest acc C1 => ∃ pre post, ps = pre ++ post ∧ rest = encBs post ∧ acc = pre.map (fun p => D.int (p.deep : Nat)) ∧ C1 = C) (sets_name (by simp)) (wi_seq ?_) ?_ ?_
      · kwd_rel
        exact ⟨by rw [encBs_length]; omega, [], ps, rfl, rfl, rfl, rfl⟩
      · rintro acc C1 ⟨pre, post, h1, h2, rfl, rfl⟩
        have e := encBs_nil h2
        subst e
        rw [List.append_nil] at h1
        subst h1
        refine wr_addL .lst .lst (by simp; omega) ?_
        kwd_rel
        refine wc_maxL (ns := (0 : Int) :: ps.map (fun p => (p.deep : Int))) (by simp [List.map_map, Function.comp_def]; exact .lst) (by simp) (fun m hm hle => ?_)
        have e := deeps_max ps m hm hle
        kwd_rel
        rw [Box.deep] at k
        rw [e]
        have : (1 : Int) + (deeps ps : Nat) = ((deeps ps + 1 : Nat) : Int) := by omega
        rw [this]
        exact k
      · rintro x xs acc C1 ⟨pre, post, h1, h2, rfl, rfl⟩
        obtain ⟨p, q, rfl, rfl, rfl⟩ := encBs_cons h2
        kwd_rel
        refine ⟨fun _ => ?_, fun z => by cases z⟩
        kwd_rel
        obtain ⟨l1, l2⟩ := hps p (by rw [h1]; simp)
        exact ⟨p, l1, l2, rfl, pre ++ [p], q, by simp [h1], rfl, by simp, rfl⟩
abbrev slaw_is_document : Stmt := topS 23
theorem sclaw_is_document : FnScope ["_law_box_here", "_law_boxes", "_law_seen", "_law_one"] ["_law_box_here"] (defScope slaw_is_document) := ⟨rfl, rfl, rfl, by decide +kernel, rfl, by decide +kernel, by decide +kernel⟩
theorem ok_law_is_document {n k : Nat} (Df : DefAt K mg "_law_is_document" slaw_is_document ["_law_box_here"]) (T : Top mg) (h_law_all : Has P w K mg base k "_law_all" ["_law_box_here"] (spD (fAllB n))) (h_law_depth : Has P w K mg base k "_law_depth" ["_law_box_here"] (spD (fDepth n))) : Has P w K mg base (k+1) "_law_is_document" ["_law_box_here"] (spD (fIsDoc n)) := by
  refine has_of Df sclaw_is_document (fun ds C P ⟨b, _, _, h, _⟩ => by rw [h]; rfl) fun f cdv A outer s H E hr => ⟨_, 
    (pss_cons (ps_nm 1 sclaw_is_document.nd (pe_def h_law_all (hr.mono (by omega)) (pa_cons (pv 0) pa_nil)))
    (pss_cons (ps_nm 2 sclaw_is_document.nd (pe_lst pa_nil))
    (pss_cons (ps_for PassesOwn.never rfl (pi_seqK K (pv 1)) (pg_nm 3 sclaw_is_document.nd) 
      (pss_cons (ps_if (PW.pt (pw_or (pt_cmpR (op_inK K) (pe_ix (ix_seqK K) (pv 3) pe_int (fun _ _ => rfl)) (pv 2) (by rfl)) (pw_or (pt_not (pt_chain op_le op_le pe_int (pe_ix (ix_seqK K) (pv 3) pe_int (fun _ _ => rfl)) pe_int)) (pw_or1 (pt_not (pt_chain op_le op_le pe_int (pe_ix (ix_seqK K) (pv 3) pe_int (fun _ _ => rfl)) pe_int)))))) 
        (pss_one (ps_ret pe_bl)) pss_nil)
      (pss_one (ps_expr (pe_bmK K PySem.F.plainAttrs_list PySem.F.slot_list_append PySem.F.type_list_append mt_append (pv 2) (pa_cons (pe_ix (ix_seqK K) (pv 3) pe_int (fun _ _ => rfl)) pa_nil))))))
    (pss_one (ps_ret (pe_and (pe_cmpR (op_eqK K hr) (pe_ix (ix_seqK K) (pv 0) pe_int (fun _ _ => rfl)) pe_str (nomark _)) (pe_and (pe_cmpR op_le (pe_callB (call_lenK K) (by rfl) T.len bt_len (pa_cons (pv 1) pa_nil)) pe_int (nomark _)) (pe_one (pe_cmpR op_le (pe_def h_law_depth (hr.mono (by omega)) (pa_cons (pv 0) pa_nil)) pe_int (nomark _)))))))))), fun B ds C P ⟨b, hl, hz, hd, k⟩ => ?_⟩
  subst hd
  unfold isDoc at k
  have ek : ∀ {p : Prop} [Decidable p], ¬ p → P (.bl (decide p)) C → P (.bl false) C := fun h q => by rw [decide_eq_false h] at q; exact q
  refine ws_weak ?_
  kwd_rel
  refine ⟨b, hl, by omega, rfl, ?_⟩
  kwd_rel
  refine w_lstC ?_
  kwd_rel
  intro a ha
  kwd_rel
  refine ws_for (fun rest E1 C1 => ∃ pre post x, b.all = pre ++ post ∧ rest = encBs post ∧ (pre.map Box.num).Nodup ∧ (∀ p ∈ pre, (1 ≤ p.num ∧ p.num ≤ 999) ∧ 0 ≤ p.hgt ∧ p.hgt ≤ 1000) ∧
    E1 = [some (encB b), some (.lst (encBs b.all)), some (.ref a), x] ∧ C1 = updC C a (.lst ((pre.map Box.num).map D.int))) (wi_seq ?_) ?_ ?_
  · kwd_rel
    exact ⟨[], b.all, none, rfl, rfl, List.nodup_nil, (fun p hp => by cases hp), rfl, rfl⟩
  · rintro E1 C1 ⟨pre, post, x, h1, h2, h3, h4, rfl, rfl⟩
    have e := encBs_nil h2
    subst e
    rw [List.append_nil] at h1
    subst h1
    have kd : b.kind = "scroller" ↔ b.isS = true := by cases b <;> simp [Box.kind, Box.isS] <;> decide +kernel
    have hb := encBs_length b.all
    kwd_rel
    refine wr_bk ?_
    kwd_rel
    kwd_less
    · have q1 : b.isS = true := kd.mp (by simpa using hc)
      kwd_rel
      kwd_less
      · have q2 := of_decide_eq_true hc
        kwd_rel
        refine ⟨b, hl, by omega, rfl, ?_⟩
        kwd_rel
        refine ⟨C, sub_updC ha, ?_⟩
        have eq : decide ((b.deep : Int) ≤ 4) = decide (b.isS = true ∧ b.all.length ≤ 40 ∧ b.deep ≤ 4 ∧ (b.all.map Box.num).Nodup ∧ (∀ p ∈ b.all, 1 ≤ p.num ∧ p.num ≤ 999) ∧ ∀ p ∈ b.all, 0 ≤ p.hgt ∧ p.hgt ≤ 1000) := by
          rw [Bool.eq_iff_iff, decide_eq_true_iff, decide_eq_true_iff]
          exact ⟨fun h => ⟨q1, by omega, by omega, h3, fun p hp => (h4 p hp).1, fun p hp => (h4 p hp).2⟩, fun h => by omega⟩
        rw [eq]
        exact k
      · have q2 := of_decide_eq_false hc
        exact ⟨C, sub_updC ha, ek (fun h => by omega) k⟩
    · have q1 : ¬ b.isS = true := fun h => by simp [kd.mpr h] at hc
      exact ⟨C, sub_updC ha, ek (fun h => q1 h.1) k⟩
  · rintro x xs E1 C1 ⟨pre, post, y, h1, h2, h3, h4, rfl, rfl⟩
    obtain ⟨p, q, rfl, rfl, rfl⟩ := encBs_cons h2
    kwd_rel
    refine wr_inI (.cell updC_same) ?_
    kwd_rel
    kwd_less
    · have hq := of_decide_eq_true hc
      kwd_less
      kwd_rel
      refine ⟨C, sub_updC ha, ek (fun h => ?_) k⟩
      have hn := h.2.2.2.1
      rw [h1, List.map_append, List.map_cons, List.nodup_append] at hn
      exact hn.2.2 _ hq _ (by simp) rfl
    · have m1 : p.num ∉ pre.map Box.num := of_decide_eq_false hc
      kwd_rel
      have bad : ¬ ((1 ≤ p.num ∧ p.num ≤ 999) ∧ 0 ≤ p.hgt ∧ p.hgt ≤ 1000) → P (.bl false) C := fun hb => ek (fun h => hb ⟨h.2.2.2.2.1 p (by rw [h1]; simp), h.2.2.2.2.2 p (by rw [h1]; simp)⟩) k
      kwd_less
      · have q1 := of_decide_eq_true hc
        kwd_rel
        kwd_less
        · have q2 : ¬ p.num ≤ 999 := by simpa using hc
          kwd_less
          kwd_rel
          exact ⟨C, sub_updC ha, bad (fun h => q2 h.1.2)⟩
        have q2 : p.num ≤ 999 := by simpa using hc
        kwd_rel
        kwd_less
        · have q3 := of_decide_eq_true hc
          kwd_rel
          kwd_less
          · have q4 : ¬ p.hgt ≤ 1000 := by simpa using hc
            kwd_rel
            exact ⟨C, sub_updC ha, bad (fun h => q4 h.2.2)⟩
          have q4 : p.hgt ≤ 1000 := by simpa using hc
          kwd_rel
          refine w_bmL ?_
          kwd_rel
          refine ⟨⟨_, .cell updC_same⟩, ?_⟩
          kwd_rel
          have pl : pre.length < 1000000 := by
            have := congrArg List.length h1
            rw [List.length_append] at this
            omega
          refine wm_append updC_same (by rw [List.length_map, List.length_map]; exact pl) ?_
          rw [updC_updC]
          refine ⟨pre ++ [p], q, _, by simp [h1], rfl, ?_, ?_, rfl, by simp⟩
          · rw [List.map_append, List.nodup_append]
            refine ⟨h3, by simp, fun u hu v hv => ?_⟩
            have ev : v = p.num := by simpa using hv
            rw [ev]
            exact fun z => m1 (z ▸ hu)
          · intro z hz
            rcases List.mem_append.mp hz with hz | hz
            · exact h4 z hz
            · have ez : z = p := by simpa using hz
              rw [ez]
              exact ⟨⟨q1, q2⟩, q3, q4⟩
        · have q3 := of_decide_eq_false hc
          kwd_rel
          kwd_less
          kwd_rel
          exact ⟨C, sub_updC ha, bad (fun h => q3 h.2.1)⟩
      · have q1 := of_decide_eq_false hc
        kwd_rel
        kwd_less
        kwd_less
        kwd_rel
        exact ⟨C, sub_updC ha, bad (fun h => q1 h.1.1)⟩
end
section
variable {P : Program} {w : World} {K : PySem.W.Frag} {mg : Str → Option Value} {base : Heap}
def IsDraw (C : CH) (d : Addr) : Prop := ∃ c, C d = some c ∧ DrawC c
theorem next_call {C : CH} {P : D → CH → Prop} {d : Addr} {m : Int} (h0 : 0 < m) (h1 : m < 1000000000) (h : IsDraw C d) (k : ∀ v C', 0 ≤ v → v < m → IsDraw C' d → (∀ a, a ≠ d → C' a = C a) → P (.int v) C') : fNext [.ref d, .int m] C P := by
  obtain ⟨c, h2, h3⟩ := h
  exact ⟨d, m, c, rfl, h0, h1, h2, h3, fun v c' a b e => k v _ a b ⟨c', updC_same, e⟩ fun x hx => updC_ne hx⟩
theorem isDraw_upd {C : CH} {d l : Addr} {c : Cell} (h : IsDraw C d) (n : d ≠ l) : IsDraw (updC C l c) d := by
  obtain ⟨c', h1, h2⟩ := h
  exact ⟨c', by rw [updC_ne n]; exact h1, h2⟩
theorem rng_cons {lo : Int} {n i : Nat} {x : D} {xs : List D} (h : x :: xs = (rngD lo n).drop i) : i < n ∧ x = .int (lo + (i : Nat)) ∧ xs = (rngD lo n).drop (i + 1) := by
  by_cases hi : i < n
  · rw [rngD_drop hi] at h
    injection h with h1 h2
    exact ⟨hi, h1, h2⟩
  · rw [List.drop_eq_nil_of_le (by rw [rngD_len]; omega)] at h
    cases h
theorem rng_nil {lo : Int} {n i : Nat} (h : [] = (rngD lo n).drop i) : n ≤ i := by
  have := congrArg List.length h
  rw [List.length_drop, rngD_len] at this
  simp at this
  omega
abbrev slaw_box : Stmt := topS 15
theorem sclaw_box : FnScope ["_law_draw_here", "_law_last", "_law_depth_here", "_law_number", "_law_height", "_law_k"] ["_law_draw_here", "_law_last", "_law_depth_here"] (defScope slaw_box) := ⟨rfl, rfl, rfl, by decide +kernel, rfl, by decide +kernel, by decide +kernel⟩
def fBox (n : Nat) : SpD := fun ds C P => ∃ (d l : Addr) (k : Nat) (z : Int), k < n ∧ ds = [.ref d, .ref l, .int (k : Nat)] ∧ d ≠ l ∧ IsDraw C d ∧ C l = some (.lst [.int z]) ∧
  ∀ b z' C', DocB k z b z' → IsDraw C' d → C' l = some (.lst [.int z']) → (∀ a, a ≠ d → a ≠ l → C' a = C a) → P (encB b) C'
theorem ok_law_box (Df : DefAt K mg "_law_box" slaw_box ["_law_draw_here", "_law_last", "_law_depth_here"]) (T : Top mg) (h_law_next : Has P w K mg base 1 "_law_next" ["_law_draw_here", "_law_many"] (spD fNext)) : ∀ n, Has P w K mg base (n+2) "_law_box" ["_law_draw_here", "_law_last", "_law_depth_here"] (spD (fBox n)) := by
  intro n
  induction n with
  | zero => exact has_of Df sclaw_box (fun ds C P ⟨_, _, _, _, _, h, _⟩ => by rw [h]; rfl) fun f cdv A outer s H E hr => ⟨_, pss_never, fun B ds C P ⟨_, _, k, _, hk, _⟩ => ws_never (Nat.not_lt_zero _ hk)⟩
  | succ n h_law_box =>
    refine has_of Df sclaw_box (fun ds C P ⟨_, _, _, _, _, h, _⟩ => by rw [h]; rfl) fun f cdv A outer s H E hr => ⟨_, 
    (pss_cons (ps_asg (pe_op (op_addK K) (pe_op (op_addK K) (pe_ix (ix_seqK K) (pv 1) pe_int (fun _ _ => rfl)) pe_int) (pe_def h_law_next (hr.mono (by omega)) (pa_cons (pv 0) (pa_cons pe_int pa_nil)))) (pg_sub (pv 1) pe_int set_list))
    (pss_cons (ps_nm 3 sclaw_box.nd (pe_ix (ix_seqK K) (pv 1) pe_int (fun _ _ => rfl)))
    (pss_cons (ps_if (PW.pt (pw_or (pt_cmpR (op_eqK K hr) (pv 2) pe_int (nomark _)) (pw_or1 (pt_cmpR op_gt (pe_def h_law_next (hr.mono (by omega)) (pa_cons (pv 0) (pa_cons pe_int pa_nil))) pe_int (nomark _))))) 
      (pss_one (ps_ret (pe_tup (pa_cons pe_str (pa_cons (pv 3) (pa_cons (pe_def h_law_next (hr.mono (by omega)) (pa_cons (pv 0) (pa_cons pe_int pa_nil))) pa_nil)))))) pss_nil)
    (pss_cons (ps_nm 4 sclaw_box.nd (pe_def h_law_next (hr.mono (by omega)) (pa_cons (pv 0) (pa_cons pe_int pa_nil))))
    (pss_one (ps_ret (pe_tup (pa_cons pe_str (pa_cons (pv 3) (pa_cons (pv 4) (pa_cons (pe_callTy (call_tupK K) (by rfl) T.tuple bt_tuple (pa_cons (pe_lc (own := [("_law_k", 5)]) rfl sclaw_box.nd (pi_range1 (by rfl) T.range (pa_cons (pe_def h_law_next (hr.mono (by omega)) (pa_cons (pv 0) (pa_cons pe_int pa_nil))) pa_nil)) (blkOk_by (N := ["_law_draw_here", "_law_last", "_law_depth_here", "_law_number", "_law_height", "_law_k"]) (sc := defScope slaw_box) (by decide +kernel)) (fun _ _ _ _ _ => pg_nm 5 sclaw_box.nd) (fun _ _ _ _ _ => pts_nil) (fun _ _ _ _ _ => (pe_def h_law_box (hr.mono (by omega)) (pa_cons (pv 0) (pa_cons (pv 1) (pa_cons (pe_op op_sub (pv 2) pe_int) pa_nil)))))) pa_nil)) pa_nil))))))))))), fun B ds C P ⟨d, l, k, z, hk, hd, dl, hD, hL, q⟩ => ?_⟩
    subst hd
    kwd_rel
    refine next_call (by decide) (by decide) hD (fun v1 C1 g1 g2 D1 o1 => ?_)
    have L1 : C1 l = some (.lst [.int z]) := by rw [o1 l (Ne.symm dl)]; exact hL
    kwd_rel
    have D2 : IsDraw (updC C1 l (.lst [.int (z + 1 + v1)])) d := isDraw_upd D1 dl
    have o2 : ∀ a, a ≠ d → a ≠ l → updC C1 l (.lst [.int (z + 1 + v1)]) a = C a := fun a h1 h2 => by rw [updC_ne h2]; exact o1 a h1
    have blk : ∀ (C2 : CH), IsDraw C2 d → C2 l = some (.lst [.int (z + 1 + v1)]) → (∀ a, a ≠ d → a ≠ l → C2 a = C a) → fNext [.ref d, .int 7] C2 (fun x C3 => P (.tup [.str "block", .int (z + 1 + v1), x]) C3) := fun C2 D2 L2 o2 =>
      next_call (by decide) (by decide) D2 (fun v C3 g3 g4 D3 o3 => q (.block (z + 1 + v1) v) _ C3 (.block (by omega) (by omega) g3 g4) D3 (by rw [o3 l (Ne.symm dl)]; exact L2) (fun a h1 h2 => by rw [o3 a h1]; exact o2 a h1 h2))
    kwd_less
    · kwd_less
      kwd_rel
      have := blk _ D2 updC_same o2
      obtain ⟨d', m', c', e, r⟩ := this
      refine ⟨d', m', c', e, r.1, r.2.1, r.2.2.1, r.2.2.2.1, fun v c2 g3 g4 g5 => ?_⟩
      kwd_rel
      exact r.2.2.2.2 v c2 g3 g4 g5
    have hk0 : k ≠ 0 := fun e => by subst e; exact absurd hc (by decide)
    kwd_rel
    refine next_call (by decide) (by decide) D2 (fun v2 C2 g3 g4 D3 o3 => ?_)
    have L2 : C2 l = some (.lst [.int (z + 1 + v1)]) := by rw [o3 l (Ne.symm dl)]; exact updC_same
    have o4 : ∀ a, a ≠ d → a ≠ l → C2 a = C a := fun a h1 h2 => by rw [o3 a h1]; exact o2 a h1 h2
    kwd_rel
    kwd_less
    · kwd_rel
      have := blk _ D3 L2 o4
      obtain ⟨d', m', c', e, r⟩ := this
      refine ⟨d', m', c', e, r.1, r.2.1, r.2.2.1, r.2.2.2.1, fun v c2 g3 g4 g5 => ?_⟩
      kwd_rel
      exact r.2.2.2.2 v c2 g3 g4 g5
    kwd_rel
    refine next_call (by decide) (by decide) D3 (fun h C3 g5 g6 D4 o5 => ?_)
    kwd_rel
    refine w_lc (fun rest acc C4 => ∃ (m i : Nat) (ps : List Box) (z' : Int), rest = (rngD 0 m).drop i ∧ i ≤ m ∧ m ≤ 2 ∧ acc = encBs ps ∧ ps.length = i ∧ DocBs (k - 1) (z + 1 + v1) ps z' ∧ IsDraw C4 d ∧ C4 l = some (.lst [.int z']) ∧ ∀ a, a ≠ d → a ≠ l → C4 a = C a)
      (sets_name (by simp)) (wi_rng1 ?_) ?_ ?_
    · kwd_rel
      refine next_call (by decide) (by decide) D4 (fun v C4 g7 g8 D5 o6 => ?_)
      kwd_rel
      refine ⟨by omega, by omega, by rw [rngD_len]; omega, v.toNat, 0, [], z + 1 + v1, rfl, Nat.zero_le _, by omega, rfl, rfl, .nil, D5, ?_, fun a h1 h2 => ?_⟩
      · rw [o6 l (Ne.symm dl), o5 l (Ne.symm dl)]; exact L2
      · rw [o6 a h1, o5 a h1]; exact o4 a h1 h2
    · rintro acc C4 ⟨m, i, ps, z', h1, h2, h3, rfl, h5, h6, h7, h8, h9⟩
      have := rng_nil h1
      kwd_rel
      refine wc_tuple .lst ?_
      kwd_rel
      obtain ⟨k', rfl⟩ : ∃ k', k = k' + 1 := ⟨k - 1, by omega⟩
      exact q (.scroller (z + 1 + v1) h ps) z' C4 (.scroller (by omega) (by omega) g5 g6 (by omega) h6) h7 h8 h9
    · rintro x xs acc C4 ⟨m, i, ps, z', h1, h2, h3, rfl, h5, h6, h7, h8, h9⟩
      obtain ⟨i1, rfl, rfl⟩ := rng_cons h1
      kwd_rel
      refine ⟨fun _ => ?_, fun z => by cases z⟩
      kwd_rel
      have ek : ((k : Nat) : Int) - 1 = ((k - 1 : Nat) : Int) := by omega
      rw [ek]
      refine ⟨d, l, k - 1, z', by omega, rfl, dl, h7, h8, fun b z2 C5 hb D5 L5 o5 => ?_⟩
      exact ⟨m, i + 1, ps ++ [b], z2, rfl, i1, h3, by rw [encBs_append]; rfl, by simp [h5], h6.snoc hb, D5, L5, fun a h1 h2 => by rw [o5 a h1 h2]; exact h9 a h1 h2⟩
abbrev slaw_document : Stmt := topS 16
theorem sclaw_document : FnScope ["_law_draw_here", "_law_last", "_law_height", "_law_number", "_law_k"] ["_law_draw_here"] (defScope slaw_document) := ⟨rfl, rfl, rfl, by decide +kernel, rfl, by decide +kernel, by decide +kernel⟩
def fDoc : SpD := fun ds C P => ∃ d : Addr, ds = [.ref d] ∧ IsDraw C d ∧ ∀ b C', DocR b → IsDraw C' d → (∀ a, a ≠ d → C' a = C a) → P (encB b) C'
theorem ok_law_document {k : Nat} (Df : DefAt K mg "_law_document" slaw_document ["_law_draw_here"]) (T : Top mg) (h_law_next : Has P w K mg base k "_law_next" ["_law_draw_here", "_law_many"] (spD fNext)) (h_law_box : Has P w K mg base k "_law_box" ["_law_draw_here", "_law_last", "_law_depth_here"] (spD (fBox 3))) : Has P w K mg base (k+1) "_law_document" ["_law_draw_here"] (spD fDoc) := by
  refine has_of Df sclaw_document (fun ds C P ⟨_, h, _⟩ => by rw [h]; rfl) fun f cdv A outer s H E hr => ⟨_, 
    (pss_cons (ps_nm 1 sclaw_document.nd (pe_lst (pa_cons (pe_op (op_addK K) pe_int (pe_def h_law_next (hr.mono (by omega)) (pa_cons (pv 0) (pa_cons pe_int pa_nil)))) pa_nil)))
    (pss_cons (ps_nm 2 sclaw_document.nd (pe_ix (ix_seqK K) (pe_lst (pa_cons pe_int (pa_cons pe_int (pa_cons pe_int (pa_cons pe_int (pa_cons pe_int (pa_cons pe_int pa_nil))))))) (pe_def h_law_next (hr.mono (by omega)) (pa_cons (pv 0) (pa_cons pe_int pa_nil))) (fun _ _ => rfl)))
    (pss_cons (ps_nm 3 sclaw_document.nd (pe_ix (ix_seqK K) (pv 1) pe_int (fun _ _ => rfl)))
    (pss_one (ps_ret (pe_tup (pa_cons pe_str (pa_cons (pv 3) (pa_cons (pv 2) (pa_cons (pe_callTy (call_tupK K) (by rfl) T.tuple bt_tuple (pa_cons (pe_lc (own := [("_law_k", 4)]) rfl sclaw_document.nd (pi_range1 (by rfl) T.range (pa_cons (pe_def h_law_next (hr.mono (by omega)) (pa_cons (pv 0) (pa_cons pe_int pa_nil))) pa_nil)) (blkOk_by (N := ["_law_draw_here", "_law_last", "_law_height", "_law_number", "_law_k"]) (sc := defScope slaw_document) (by decide +kernel)) (fun _ _ _ _ _ => pg_nm 4 sclaw_document.nd) (fun _ _ _ _ _ => pts_nil) (fun _ _ _ _ _ => (pe_def h_law_box (hr.mono (by omega)) (pa_cons (pv 0) (pa_cons (pv 1) (pa_cons (pe_op (op_addK K) pe_int (pe_def h_law_next (hr.mono (by omega)) (pa_cons (pv 0) (pa_cons pe_int pa_nil)))) pa_nil)))))) pa_nil)) pa_nil)))))))))), fun B ds C P ⟨d, hd, hD, q⟩ => ?_⟩
  subst hd
  refine ws_weak ?_
  kwd_rel
  refine w_lstC ?_
  kwd_rel
  refine next_call (by decide) (by decide) hD (fun v1 C1 g1 g2 D1 o1 => ?_)
  kwd_rel
  intro l hl
  have dl : d ≠ l := fun e => by
    obtain ⟨c, h1, _⟩ := D1
    rw [e, hl] at h1
    cases h1
  kwd_rel
  refine w_lst ?_
  kwd_rel
  refine next_call (by decide) (by decide) (isDraw_upd D1 dl) (fun v2 C2 g3 g4 D2 o2 => ?_)
  have hh : ∃ h : Int, atI [D.int 0, D.int 3, D.int 6, D.int 9, D.int 12, D.int 20] v2 = some (.int h) ∧ 0 ≤ h ∧ h ≤ 20 := by
    have : v2 = 0 ∨ v2 = 1 ∨ v2 = 2 ∨ v2 = 3 ∨ v2 = 4 ∨ v2 = 5 := by omega
    rcases this with rfl | rfl | rfl | rfl | rfl | rfl <;> exact ⟨_, rfl, by decide, by decide⟩
  obtain ⟨h, hat, h0, h20⟩ := hh
  refine wr_ix .lst hat ?_
  have L2 : C2 l = some (.lst [.int (1 + v1)]) := by rw [o2 l (Ne.symm dl)]; exact updC_same
  kwd_rel
  refine w_lc (fun rest acc C4 => ∃ (m i : Nat) (ps : List Box) (z' : Int), rest = (rngD 0 m).drop i ∧ i ≤ m ∧ m ≤ 4 ∧ acc = encBs ps ∧ ps.length = i ∧ DocBs 2 (1 + v1) ps z' ∧ IsDraw C4 d ∧ C4 l = some (.lst [.int z']) ∧ ∀ a, a ≠ d → a ≠ l → C4 a = C a)
    (sets_name (by simp)) (wi_rng1 ?_) ?_ ?_
  · kwd_rel
    refine next_call (by decide) (by decide) D2 (fun v C4 g7 g8 D5 o6 => ?_)
    kwd_rel
    refine ⟨by omega, by omega, by rw [rngD_len]; omega, v.toNat, 0, [], 1 + v1, rfl, Nat.zero_le _, by omega, rfl, rfl, .nil, D5, ?_, fun a h1 h2 => ?_⟩
    · rw [o6 l (Ne.symm dl)]; exact L2
    · rw [o6 a h1, o2 a h1, updC_ne h2, o1 a h1]
  · rintro acc C4 ⟨m, i, ps, z', h1, h2, h3, rfl, h5, h6, h7, h8, h9⟩
    have := rng_nil h1
    kwd_rel
    refine wc_tuple .lst ?_
    kwd_rel
    have hCl : C l = none := by rw [← o1 l (Ne.symm dl)]; exact hl
    refine ⟨fun a => if a = l then none else C4 a, fun a c e => ?_, q (.scroller (1 + v1) h ps) _ ⟨1 + v1, h, ps, z', rfl, by omega, by omega, h0, h20, by omega, h6⟩ ?_ fun a ha => ?_⟩
    · have e : (if a = l then none else C4 a) = some c := e
      split at e
      · cases e
      · exact e
    · obtain ⟨c, e1, e2⟩ := h7
      exact ⟨c, by show (if d = l then none else C4 d) = some c; rw [if_neg dl]; exact e1, e2⟩
    · show (if a = l then none else C4 a) = C a
      by_cases e : a = l
      · rw [if_pos e, e, hCl]
      · rw [if_neg e]; exact h9 a ha e
  · rintro x xs acc C4 ⟨m, i, ps, z', h1, h2, h3, rfl, h5, h6, h7, h8, h9⟩
    obtain ⟨i1, rfl, rfl⟩ := rng_cons h1
    kwd_rel
    refine ⟨fun _ => ?_, fun z => by cases z⟩
    kwd_rel
    refine next_call (by decide) (by decide) h7 (fun v C5 g7 g8 D5 o6 => ?_)
    kwd_rel
    have L5 : C5 l = some (.lst [.int z']) := by rw [o6 l (Ne.symm dl)]; exact h8
    have ev : (1 : Int) + v = ((1 + v.toNat : Nat) : Int) := by omega
    rw [ev]
    refine ⟨d, l, 1 + v.toNat, z', by omega, rfl, dl, D5, L5, fun b z2 C6 hb D6 L6 o7 => ?_⟩
    have hb2 : DocB 2 z' b z2 := by
      have : v.toNat = 0 ∨ v.toNat = 1 := by omega
      rcases this with e | e
      · rw [e] at hb; exact hb.mono
      · rw [e] at hb; exact hb
    exact ⟨m, i + 1, ps ++ [b], z2, rfl, i1, h3, by rw [encBs_append]; rfl, by simp [h5], h6.snoc hb2, D6, L6, fun a h1 h2 => by rw [o7 a h1 h2, o6 a h1]; exact h9 a h1 h2⟩
end
section
variable {P : Program} {w : World} {K : PySem.W.Frag} {mg : Str → Option Value} {base : Heap}
def nestB (last : Int) : Nat → Box
  | 0 => .block 900 3
  | k + 1 => .scroller (last + (k : Nat)) 5 [nestB last k]
theorem nest_lev (last : Int) : ∀ k, (nestB last k).lev = k + 1 ∧ (nestB last k).all.length = k + 1
  | 0 => ⟨rfl, rfl⟩
  | k + 1 => by
    obtain ⟨a, b⟩ := nest_lev last k
    simp [nestB, Box.lev, levs, Box.all, alls, a, b]
abbrev slaw_nested : Stmt := topS 24
theorem sclaw_nested : FnScope ["_law_many", "_law_last", "_law_box_here", "_law_k"] ["_law_many", "_law_last"] (defScope slaw_nested) := ⟨rfl, rfl, rfl, by decide +kernel, rfl, by decide +kernel, by decide +kernel⟩
def fNested : SpD := fun ds C P => ∃ (m : Nat) (z : Int), ds = [.int (m : Nat), .int z] ∧ m ≤ 10 ∧ P (encB (nestB z m)) C
theorem ok_law_nested (Df : DefAt K mg "_law_nested" slaw_nested ["_law_many", "_law_last"]) (T : Top mg) : Has P w K mg base 1 "_law_nested" ["_law_many", "_law_last"] (spD fNested) := by
  refine has_of Df sclaw_nested (fun ds C P ⟨_, _, h, _⟩ => by rw [h]; rfl) fun f cdv A outer s H E hr => ⟨_, 
    (pss_cons (ps_nm 2 sclaw_nested.nd (pe_tup (pa_cons pe_str (pa_cons pe_int (pa_cons pe_int pa_nil)))))
    (pss_cons (ps_for PassesOwn.never rfl (pi_range1 (by rfl) T.range (pa_cons (pv 0) pa_nil)) (pg_nm 3 sclaw_nested.nd) 
      (pss_one (ps_nm 2 sclaw_nested.nd (pe_tup (pa_cons pe_str (pa_cons (pe_op (op_addK K) (pv 1) (pv 3)) (pa_cons pe_int (pa_cons (pe_tup (pa_cons (pv 2) pa_nil)) pa_nil))))))))
    (pss_one (ps_ret (pv 2))))), fun B ds C P ⟨m, z, hd, hm, q⟩ => ?_⟩
  subst hd
  kwd_rel
  refine ws_for (fun rest E1 C1 => ∃ i x, rest = (rngD 0 m).drop i ∧ i ≤ m ∧ E1 = [some (.int (m : Nat)), some (.int z), some (encB (nestB z i)), x] ∧ C1 = C) (wi_rng1 ?_) ?_ ?_
  · kwd_rel
    exact ⟨by omega, by omega, 0, none, rfl, Nat.zero_le _, rfl, rfl⟩
  · rintro E1 C1 ⟨i, x, h1, h2, rfl, rfl⟩
    have := rng_nil h1
    have e : i = m := by omega
    subst e
    kwd_rel
    exact q
  · rintro x xs E1 C1 ⟨i, y, h1, h2, rfl, rfl⟩
    obtain ⟨i1, rfl, rfl⟩ := rng_cons h1
    kwd_rel
    refine ⟨i + 1, some (.int (0 + (i : Nat))), rfl, i1, ?_, rfl⟩
    simp [nestB, encB, encBs]
theorem lev_snoc (n h : Int) (ps : List Box) (p : Box) (hp : p.lev = 1) : (Box.scroller n h (ps ++ [p])).lev ≤ (Box.scroller n h ps).lev + 1 := by
  have : ∀ qs : List Box, levs (qs ++ [p]) ≤ max (levs qs) 1 := by
    intro qs
    induction qs with
    | nil => simp [levs, hp]
    | cons a r ih => simp only [List.cons_append, levs]; omega
  have := this ps
  simp only [Box.lev]
  omega
theorem len_snoc (n h : Int) (ps : List Box) (p : Box) (hp : p.all.length = 1) : (Box.scroller n h (ps ++ [p])).all.length = (Box.scroller n h ps).all.length + 1 := by
  simp [Box.all, alls_append, alls, hp]
  try omega
theorem flat_blocks : ∀ (ks : List Nat), levs (ks.map fun k => Box.block (100 + (k : Nat)) 1) ≤ 1 ∧ (alls (ks.map fun k => Box.block (100 + (k : Nat)) 1)).length = ks.length
  | [] => by simp [levs, alls]
  | k :: r => by
    obtain ⟨a, b⟩ := flat_blocks r
    simp [levs, alls, Box.lev, Box.all, a, b]
    try omega
abbrev slaw_faulty : Stmt := topS 25
theorem sclaw_faulty : FnScope ["_law_draw_here", "_law_document_here", "_law_boxes", "_law_number", "_law_extra", "_law_form", "_law_k"] ["_law_draw_here", "_law_document_here"] (defScope slaw_faulty) := ⟨rfl, rfl, rfl, by decide +kernel, rfl, by decide +kernel, by decide +kernel⟩
def fFaulty : SpD := fun ds C P => ∃ (d : Addr) (b : Box), ds = [.ref d, encB b] ∧ IsDraw C d ∧ DocOk b ∧ ∀ b' C', b'.lev ≤ 8 → b'.all.length ≤ 100 → IsDraw C' d → (∀ a, a ≠ d → C' a = C a) → P (encB b') C'
theorem ok_law_faulty {k : Nat} (Df : DefAt K mg "_law_faulty" slaw_faulty ["_law_draw_here", "_law_document_here"]) (T : Top mg) (h_law_next : Has P w K mg base k "_law_next" ["_law_draw_here", "_law_many"] (spD fNext)) (h_law_all : Has P w K mg base k "_law_all" ["_law_box_here"] (spD (fAllB 8))) (h_law_nested : Has P w K mg base k "_law_nested" ["_law_many", "_law_last"] (spD fNested)) : Has P w K mg base (k+1) "_law_faulty" ["_law_draw_here", "_law_document_here"] (spD fFaulty) := by
  refine has_of Df sclaw_faulty (fun ds C P ⟨_, _, h, _⟩ => by rw [h]; rfl) fun f cdv A outer s H E hr => ⟨_, 
    (pss_cons (ps_nm 2 sclaw_faulty.nd (pe_def h_law_all (hr.mono (by omega)) (pa_cons (pv 1) pa_nil)))
    (pss_cons (ps_nm 3 sclaw_faulty.nd (pe_ix (ix_seqK K) (pe_ix (ix_seqK K) (pv 2) (pe_def h_law_next (hr.mono (by omega)) (pa_cons (pv 0) (pa_cons (pe_callB (call_lenK K) (by rfl) T.len bt_len (pa_cons (pv 2) pa_nil)) pa_nil))) (fun _ _ => rfl)) pe_int (fun _ _ => rfl)))
    (pss_cons (ps_nm 4 sclaw_faulty.nd (pe_lst (pa_cons (pe_tup (pa_cons pe_str (pa_cons (pv 3) (pa_cons pe_int pa_nil)))) (pa_cons (pe_tup (pa_cons pe_str (pa_cons pe_int (pa_cons pe_int pa_nil)))) (pa_cons (pe_tup (pa_cons pe_str (pa_cons pe_int (pa_cons pe_int pa_nil)))) (pa_cons (pe_tup (pa_cons pe_str (pa_cons pe_int (pa_cons pe_int pa_nil)))) (pa_cons (pe_tup (pa_cons pe_str (pa_cons pe_int (pa_cons (pe_un un_neg pe_int) pa_nil)))) (pa_cons (pe_tup (pa_cons pe_str (pa_cons pe_int (pa_cons pe_int pa_nil)))) (pa_cons (pe_tup (pa_cons pe_str (pa_cons pe_int (pa_cons pe_int pa_nil)))) pa_nil)))))))))
    (pss_cons (ps_nm 5 sclaw_faulty.nd (pe_def h_law_next (hr.mono (by omega)) (pa_cons (pv 0) (pa_cons pe_int pa_nil))))
    (pss_cons (ps_if (pt_cmpR op_lt (pv 5) pe_int (nomark _)) 
      (pss_one (ps_ret (pe_op (op_addK K) (pe_slice (sl_K K) (pv 1) po_none (po_some pe_int)) (pe_tup (pa_cons (pe_op (op_addK K) (pe_ix (ix_seqK K) (pv 1) pe_int (fun _ _ => rfl)) (pe_tup (pa_cons (pe_ix (ix_seqK K) (pv 4) (pv 5) (fun _ _ => rfl)) pa_nil))) pa_nil))))) pss_nil)
    (pss_cons (ps_if (pt_cmpR (op_eqK K hr) (pv 5) pe_int (nomark _)) 
      (pss_one (ps_ret (pe_ix (ix_seqK K) (pv 4) (pe_def h_law_next (hr.mono (by omega)) (pa_cons (pv 0) (pa_cons pe_int pa_nil))) (fun _ _ => rfl)))) pss_nil)
    (pss_cons (ps_if (pt_cmpR (op_eqK K hr) (pv 5) pe_int (nomark _)) 
      (pss_one (ps_ret (pe_def h_law_nested (hr.mono (by omega)) (pa_cons (pe_op (op_addK K) pe_int (pe_def h_law_next (hr.mono (by omega)) (pa_cons (pv 0) (pa_cons pe_int pa_nil)))) (pa_cons pe_int pa_nil))))) pss_nil)
    (pss_cons (ps_if (pt_cmpR (op_eqK K hr) (pv 5) pe_int (nomark _)) 
      (pss_one (ps_ret (pe_op (op_addK K) (pe_op (op_addK K) (pe_slice (sl_K K) (pv 1) po_none (po_some pe_int)) (pe_tup (pa_cons (pe_ix (ix_seqK K) (pe_lst (pa_cons pe_int (pa_cons pe_int (pa_cons pe_int (pa_cons (pe_un un_neg pe_int) pa_nil))))) (pe_def h_law_next (hr.mono (by omega)) (pa_cons (pv 0) (pa_cons pe_int pa_nil))) (fun _ _ => rfl)) pa_nil))) (pe_slice (sl_K K) (pv 1) (po_some pe_int) po_none)))) pss_nil)
    (pss_one (ps_ret (pe_op (op_addK K) (pe_slice (sl_K K) (pv 1) po_none (po_some pe_int)) (pe_tup (pa_cons (pe_callTy (call_tupK K) (by rfl) T.tuple bt_tuple (pa_cons (pe_lc (own := [("_law_k", 6)]) rfl sclaw_faulty.nd (pi_range1 (by rfl) T.range (pa_cons (pe_op (op_addK K) pe_int (pe_def h_law_next (hr.mono (by omega)) (pa_cons (pv 0) (pa_cons pe_int pa_nil)))) pa_nil)) (blkOk_by (N := ["_law_draw_here", "_law_document_here", "_law_boxes", "_law_number", "_law_extra", "_law_form", "_law_k"]) (sc := defScope slaw_faulty) (by decide +kernel)) (fun _ _ _ _ _ => pg_nm 6 sclaw_faulty.nd) (fun _ _ _ _ _ => pts_nil) (fun _ _ _ _ _ => (pe_tup (pa_cons pe_str (pa_cons (pe_op (op_addK K) pe_int (pv 6)) (pa_cons pe_int pa_nil)))))) pa_nil)) pa_nil))))))))))))), fun B ds C P ⟨d, b, hd, hD, ok, q⟩ => ?_⟩
  subst hd
  have o1 := ok.len
  have o2 := ok.lev
  have o3 : 0 < b.all.length := by rw [all_eq]; simp
  kwd_rel
  refine ⟨b, by omega, by omega, rfl, ?_⟩
  kwd_rel
  rw [encBs_length]
  refine next_call (by omega) (by omega) hD (fun v1 C1 g1 g2 D1 p1 => ?_)
  obtain ⟨x1, m1, _, a1⟩ := atI_some (ds := encBs b.all) (i := v1) g1 (by rw [encBs_length]; exact g2)
  rw [encBs_map] at m1
  obtain ⟨b1, _, rfl⟩ := List.mem_map.mp m1
  refine wr_ix .lst a1 ?_
  kwd_rel
  refine w_lst ?_
  kwd_rel
  refine next_call (by decide) (by decide) D1 (fun v2 C2 g3 g4 D2 p2 => ?_)
  have hex : ∀ v : Int, 0 ≤ v → v < 7 → ∃ e : Box, e.lev = 1 ∧ e.all.length = 1 ∧
      atI [D.tup [.str "block", .int b1.num, .int 1], .tup [.str "block", .int 0, .int 1], .tup [.str "block", .int 1000, .int 1], .tup [.str "block", .int 999, .int 1], .tup [.str "block", .int 998, .int (-1)], .tup [.str "block", .int 998, .int 1001], .tup [.str "block", .int 998, .int 1000]] v = some (encB e) := by
    intro v h0 h7
    have : v = 0 ∨ v = 1 ∨ v = 2 ∨ v = 3 ∨ v = 4 ∨ v = 5 ∨ v = 6 := by omega
    rcases this with rfl | rfl | rfl | rfl | rfl | rfl | rfl
    · exact ⟨.block b1.num 1, rfl, rfl, rfl⟩
    · exact ⟨.block 0 1, rfl, rfl, rfl⟩
    · exact ⟨.block 1000 1, rfl, rfl, rfl⟩
    · exact ⟨.block 999 1, rfl, rfl, rfl⟩
    · exact ⟨.block 998 (-1), rfl, rfl, rfl⟩
    · exact ⟨.block 998 1001, rfl, rfl, rfl⟩
    · exact ⟨.block 998 1000, rfl, rfl, rfl⟩
  have c2 : ∀ a, a ≠ d → C2 a = C a := fun a h => by rw [p2 a h]; exact p1 a h
  cases b with
  | block _ _ => exact absurd ok.isS (by simp [Box.isS])
  | scroller n h ps =>
    kwd_rel
    kwd_less
    · have hc := of_decide_eq_true hc
      obtain ⟨e, e1, e2, ea⟩ := hex v2 g3 hc
      kwd_rel
      refine wr_ix .lst ea ?_
      kwd_rel
      have hp := ok.parts
      have hp2 : (encBs ps).length ≤ 4 := by rw [encBs_length]; exact hp
      refine wr_addT (by show (encBs ps).length + 1 ≤ 1000000; omega) ?_
      kwd_rel
      refine wr_addT (by show 3 + 1 ≤ 1000000; omega) ?_
      kwd_rel
      have key := q (.scroller n h (ps ++ [e])) C2 (by have := lev_snoc n h ps e e1; omega) (by rw [len_snoc n h ps e e2]; omega) D2 c2
      rw [encB, encBs_append] at key
      exact key
    · have q1 := of_decide_eq_false hc
      kwd_rel
      kwd_less
      · kwd_rel
        refine next_call (by decide) (by decide) D2 (fun v3 C3 g5 g6 D3 p3 => ?_)
        obtain ⟨e, e1, e2, ea⟩ := hex v3 g5 g6
        refine wr_ix .lst ea ?_
        kwd_rel
        exact q e C3 (by omega) (by omega) D3 (fun a ha => by rw [p3 a ha]; exact c2 a ha)
      kwd_rel
      kwd_less
      · kwd_rel
        refine next_call (by decide) (by decide) D2 (fun v3 C3 g5 g6 D3 p3 => ?_)
        kwd_rel
        have ev : (3 : Int) + v3 = ((3 + v3.toNat : Nat) : Int) := by omega
        rw [ev]
        obtain ⟨l1, l2⟩ := nest_lev 950 (3 + v3.toNat)
        exact ⟨3 + v3.toNat, 950, rfl, by omega, q _ C3 (by omega) (by omega) D3 (fun a ha => by rw [p3 a ha]; exact c2 a ha)⟩
      kwd_rel
      kwd_less
      · kwd_rel
        refine w_lst ?_
        kwd_rel
        refine next_call (by decide) (by decide) D2 (fun v3 C3 g5 g6 D3 p3 => ?_)
        have hh : ∃ z : Int, atI [D.int 1000, D.int 1001, D.int 0, D.int (-1)] v3 = some (.int z) := by
          have : v3 = 0 ∨ v3 = 1 ∨ v3 = 2 ∨ v3 = 3 := by omega
          rcases this with rfl | rfl | rfl | rfl <;> exact ⟨_, rfl⟩
        obtain ⟨z, hz⟩ := hh
        refine wr_ix .lst hz ?_
        kwd_rel
        refine wr_addT (by show 2 + 1 ≤ 1000000; omega) ?_
        kwd_rel
        refine wr_addT (by show 3 + 1 ≤ 1000000; omega) ?_
        kwd_rel
        exact q (.scroller n z ps) C3 (by simp only [Box.lev] at o2 ⊢; omega) (by simp only [Box.all, List.length_cons] at o1 ⊢; omega) D3 (fun a ha => by rw [p3 a ha]; exact c2 a ha)
      kwd_rel
      refine w_lc (fun rest acc C4 => ∃ (m i : Nat), rest = (rngD 0 m).drop i ∧ i ≤ m ∧ m ≤ 40 ∧ acc = encBs ((List.range i).map fun k => Box.block (100 + (k : Nat)) 1) ∧ IsDraw C4 d ∧ ∀ a, a ≠ d → C4 a = C a) (sets_name (by simp)) (wi_rng1 ?_) ?_ ?_
      · kwd_rel
        refine next_call (by decide) (by decide) D2 (fun v3 C3 g5 g6 D3 p3 => ?_)
        kwd_rel
        exact ⟨by omega, by omega, by rw [rngD_len]; omega, (38 + v3).toNat, 0, rfl, Nat.zero_le _, by omega, rfl, D3, fun a ha => by rw [p3 a ha]; exact c2 a ha⟩
      · rintro acc C4 ⟨m, i, h1, h2, h3, rfl, h5, h6⟩
        have := rng_nil h1
        kwd_rel
        refine wc_tuple .lst ?_
        kwd_rel
        refine wr_addT (by show 3 + 1 ≤ 1000000; omega) ?_
        kwd_rel
        obtain ⟨f1, f2⟩ := flat_blocks (List.range i)
        rw [List.length_range] at f2
        exact q (.scroller n h ((List.range i).map fun k => Box.block (100 + (k : Nat)) 1)) C4 (by rw [Box.lev]; omega) (by rw [Box.all, List.length_cons]; omega) h5 h6
      · rintro x xs acc C4 ⟨m, i, h1, h2, h3, rfl, h5, h6⟩
        obtain ⟨i1, rfl, rfl⟩ := rng_cons h1
        kwd_rel
        refine ⟨fun _ => ?_, fun z => by cases z⟩
        kwd_rel
        refine ⟨m, i + 1, rfl, i1, h3, ?_, h5, h6⟩
        rw [List.range_succ, List.map_append, encBs_append]
        simp [encBs, encB]
end
section
variable {P : Program} {w : World} {K : PySem.W.Frag} {mg : Str → Option Value} {base : Heap}
theorem parentB_filter : ∀ (l : List Box) (i : Int), encOI (parentB l i) = (match (((l.filter fun p => decide (i ∈ p.parts.map Box.num)).map Box.num).map D.int) with | [] => D.non | d :: _ => d)
  | [], _ => rfl
  | p :: r, i => by
    rw [parentB, List.filter_cons]
    by_cases h : i ∈ p.parts.map Box.num
    · rw [if_pos h, if_pos (by simpa using h)]
      rfl
    · rw [if_neg h, if_neg (by simpa using h), parentB_filter r i]
theorem goodOI {n : Nat} {l : List Box} {i : Int} : GoodD n (encOI (parentB l i)) := by
  cases parentB l i with
  | none => exact .non
  | some _ => exact .int
abbrev slaw : Stmt := topS 26
theorem sclaw : FnScope ["_law_script", "_law_draw_here", "_law_turn", "_law_document_here", "_law_boxes", "_law_number", "_law_parents", "_law_faulty_here", "_law_box_here", "_law_part"] ["_law_script"] (defScope slaw) := ⟨rfl, rfl, rfl, by decide +kernel, rfl, by decide +kernel, by decide +kernel⟩
theorem ok_law {k : Nat} {f : Addr} {fd : FuncData} (F : Fun K "law" "law" slaw f fd) (T : Top mg) (h_law_draw : Has P w K mg base k "_law_draw" ["_law_script"] (spScr K fDraw)) (h_law_document : Has P w K mg base k "_law_document" ["_law_draw_here"] (spD fDoc))
    (h_law_all : Has P w K mg base k "_law_all" ["_law_box_here"] (spD (fAllB 8))) (h_law_same : Has P w K mg base k "_law_same" ["_law_actual", "_law_due"] (spD (fSame 20))) (h_all_boxes : Has P w K mg base k "all_boxes" ["document"] (spD (fAllB 8))) (h_is_document : Has P w K mg base k "is_document" ["box"] (spD (fIsDoc 8))) (h_find : Has P w K mg base k "find" ["document", "number"] (spD (fFind 8))) (h_law_named : Has P w K mg base k "_law_named" ["_law_document_here", "_law_number"] (spD (fFind 8)))
    (h_parent_of : Has P w K mg base k "parent_of" ["document", "number"] (spD (fParent 8))) (h_law_faulty : Has P w K mg base k "_law_faulty" ["_law_draw_here", "_law_document_here"] (spD fFaulty)) (h_law_is_document : Has P w K mg base k "_law_is_document" ["_law_box_here"] (spD (fIsDoc 8))) :
    FnOk P w K mg base CX0 (k+1) f fd ["_law_script"] (spScr K fun ns C P => ns.length ≤ 63 ∧ C = (fun _ => none) ∧ ∀ C', P (.bl true) C') := by
  refine fn_ofScr F sclaw fun f cdv A outer s H E hr => ⟨_, 
    (pss_cons (ps_nm 1 sclaw.nd (pe_def h_law_draw (hr.mono (by omega)) (pa_cons (pv 0) pa_nil)))
    (pss_cons (ps_for PassesOwn.never rfl (pi_range1 (by rfl) T.range (pa_cons pe_int pa_nil)) (pg_nm 2 sclaw.nd) 
      (pss_cons (ps_nm 3 sclaw.nd (pe_def h_law_document (hr.mono (by omega)) (pa_cons (pv 1) pa_nil)))
      (pss_cons (ps_nm 4 sclaw.nd (pe_def h_law_all (hr.mono (by omega)) (pa_cons (pv 3) pa_nil)))
      (pss_cons (ps_if (PW.pt (pw_or (pt_not (pt_truK K (pe_def h_law_same (hr.mono (by omega)) (pa_cons (pe_def h_all_boxes (hr.mono (by omega)) (pa_cons (pv 3) pa_nil)) (pa_cons (pv 4) pa_nil))))) (pw_or1 (pt_not (pt_truK K (pe_def h_law_same (hr.mono (by omega)) (pa_cons (pe_def h_is_document (hr.mono (by omega)) (pa_cons (pv 3) pa_nil)) (pa_cons pe_bl pa_nil)))))))) 
        (pss_one (ps_ret pe_bl)) pss_nil)
      (pss_cons (ps_for PassesOwn.never rfl (pi_seqK K (pe_op (op_addK K) (pe_lc (own := [("_law_box_here", 8)]) rfl sclaw.nd (pi_seqK K (pv 4)) (blkOk_by (N := ["_law_script", "_law_draw_here", "_law_turn", "_law_document_here", "_law_boxes", "_law_number", "_law_parents", "_law_faulty_here", "_law_box_here", "_law_part"]) (sc := defScope slaw) (by decide +kernel)) (fun _ _ _ _ _ => pg_nm 8 sclaw.nd) (fun _ _ _ _ _ => pts_nil) (fun _ _ _ _ _ => (pe_ix (ix_seqK K) (pv 8) pe_int (fun _ _ => rfl)))) (pe_lst (pa_cons pe_int (pa_cons pe_int pa_nil))))) (pg_nm 5 sclaw.nd) 
        (pss_cons (ps_setLc (i := 6) (own := [("_law_box_here", 8)]) rfl sclaw.nd rfl rfl (sw_true rfl rfl rfl (by decide +kernel)) (pi_seqK K (pv 4)) (blkOk_by (N := ["_law_script", "_law_draw_here", "_law_turn", "_law_document_here", "_law_boxes", "_law_number", "_law_parents", "_law_faulty_here", "_law_box_here", "_law_part"]) (sc := defScope slaw) (by decide +kernel)) (fun _ _ _ _ _ => pg_nm 8 sclaw.nd) (fun _ _ _ _ _ => (pts_one (PW.pt (pw_and (pt_cmpR (op_eqK K hr) (pe_ix (ix_seqK K) (pv 8) pe_int (fun _ _ => rfl)) pe_str (nomark _)) (pw_and1 (pt_cmpR (op_inK K) (pv 5) (pe_lc (own := [("_law_part", 9)]) rfl sclaw.nd (pi_seqK K (pe_ix (ix_seqK K) (pv 8) pe_int (fun _ _ => rfl))) (blkOk_in ["_law_script", "_law_draw_here", "_law_turn", "_law_document_here", "_law_boxes", "_law_number", "_law_parents", "_law_faulty_here", "_law_box_here", "_law_part"]) (fun _ _ _ _ _ => pg_nm 9 sclaw.nd) (fun _ _ _ _ _ => pts_nil) (fun _ _ _ _ _ => (pe_ix (ix_seqK K) (pv 9) pe_int (fun _ _ => rfl)))) (by rfl))))))) (fun _ _ _ _ _ => (pe_ix (ix_seqK K) (pv 8) pe_int (fun _ _ => rfl))))
        (pss_cons (ps_if (pt_not (pt_truK K (pe_def h_law_same (hr.mono (by omega)) (pa_cons (pe_def h_find (hr.mono (by omega)) (pa_cons (pv 3) (pa_cons (pv 5) pa_nil))) (pa_cons (pe_def h_law_named (hr.mono (by omega)) (pa_cons (pv 3) (pa_cons (pv 5) pa_nil))) pa_nil))))) 
          (pss_one (ps_ret pe_bl)) pss_nil)
        (pss_one (ps_if (pt_not (pt_truK K (pe_def h_law_same (hr.mono (by omega)) (pa_cons (pe_def h_parent_of (hr.mono (by omega)) (pa_cons (pv 3) (pa_cons (pv 5) pa_nil))) (pa_cons (pe_ifExp (pt_truK K (pv 6)) (pe_ix (ix_seqK K) (pv 6) pe_int (fun _ _ => rfl)) pe_non) pa_nil))))) 
          (pss_one (ps_ret pe_bl)) pss_nil)))))
      (pss_cons (ps_nm 7 sclaw.nd (pe_def h_law_faulty (hr.mono (by omega)) (pa_cons (pv 1) (pa_cons (pv 3) pa_nil))))
      (pss_one (ps_if (pt_not (pt_truK K (pe_def h_law_same (hr.mono (by omega)) (pa_cons (pe_def h_is_document (hr.mono (by omega)) (pa_cons (pv 7) pa_nil)) (pa_cons (pe_def h_law_is_document (hr.mono (by omega)) (pa_cons (pv 7) pa_nil)) pa_nil))))) 
        (pss_one (ps_ret pe_bl)) pss_nil))))))))
    (pss_one (ps_ret pe_bl)))), fun B sa ns C P hs ⟨_, hC, q⟩ => ?_⟩
  kwd_rel
  refine w_callScr rfl hs ?_
  intro d c0 hd0 hc0
  kwd_rel
  refine ws_for (fun rest E1 C1 => ∃ x2 x3 x4 x5 x6 x7, E1 = [some (.ref sa), some (.ref d), x2, x3, x4, x5, x6, x7, none, none] ∧ IsDraw C1 d) (wi_rng1 ?_) ?_ ?_
  · kwd_rel
    exact ⟨by decide, by decide, none, none, none, none, none, none, rfl, c0, updC_same, hc0⟩
  · rintro E1 C1 ⟨x2, x3, x4, x5, x6, x7, rfl, hD⟩
    kwd_rel
    exact q _
  rintro x xs E1 C1 ⟨x2, x3, x4, x5, x6, x7, rfl, hD⟩
  kwd_rel
  refine ⟨d, rfl, hD, fun b C2 hb D2 o2 => ?_⟩
  have ok := docR_ok hb
  have l1 := ok.lev
  have l2 := ok.len
  kwd_rel
  refine ⟨b, by omega, by omega, rfl, ?_⟩
  kwd_rel
  refine ⟨b, by omega, by omega, rfl, ?_⟩
  kwd_rel
  refine ⟨_, 17, by decide, goodBs (n := 8) (by omega) (by omega), rfl, ?_⟩
  kwd_rel
  kwd_less
  kwd_rel
  refine ⟨b, by omega, by omega, rfl, ?_⟩
  rw [isDoc_of ok]
  kwd_rel
  refine ⟨_, 0, by decide, .bl, rfl, ?_⟩
  kwd_rel
  kwd_less
  kwd_rel
  refine ws_for (fun rest E1 C1 => ∃ (is : List Int) (x5 x6 : Option D), rest = is.map D.int ∧ E1 = [some (.ref sa), some (.ref d), some x, some (encB b), some (.lst (encBs b.all)), x5, x6, x7, none, none] ∧ IsDraw C1 d) (wi_seq ?_) ?_ ?_
  · kwd_rel
    refine w_lcMap (fun x => match x with | .tup (_ :: n :: _) => n | _ => .non) (by decide) (wi_seq ?_)
    kwd_rel
    refine ⟨by rw [encBs_length]; omega, fun x hx => ?_, ?_⟩
    · rw [encBs_map] at hx
      obtain ⟨z, hz2, rfl⟩ := List.mem_map.mp hx
      kwd_rel
      cases z <;> exact ⟨rfl, rfl⟩
    have e : (encBs b.all).map (fun x => match x with | .tup (_ :: n :: _) => n | _ => .non) = (b.all.map Box.num).map D.int := by
      rw [encBs_map, List.map_map, List.map_map]
      apply List.map_congr_left
      intro z _
      cases z <;> rfl
    rw [e]
    kwd_rel
    refine w_lst ?_
    kwd_rel
    refine wr_addL .lst .lst (by rw [List.length_map, List.length_map]; show b.all.length + 2 ≤ 1000000; omega) ?_
    exact ⟨_, .lst, b.all.map Box.num ++ [0, 777], x5, x6, by simp, rfl, D2⟩
  · rintro E1 C1 ⟨is, x5, x6, _, rfl, D3⟩
    kwd_rel
    refine ⟨d, b, rfl, D3, ok, fun b' C4 l3 l4 D4 o4 => ?_⟩
    kwd_rel
    refine ⟨b', l3, by omega, rfl, ?_⟩
    kwd_rel
    refine ⟨b', l3, by omega, rfl, ?_⟩
    kwd_rel
    refine ⟨_, 0, by decide, .bl, rfl, ?_⟩
    kwd_rel
    kwd_less
    kwd_rel
    exact ⟨_, _, _, _, _, _, rfl, D4⟩
  rintro y ys E1 C1 ⟨is, x5, x6, hi, rfl, D3⟩
  obtain ⟨i, is, rfl⟩ : ∃ i js, is = i :: js := by
    cases is with
    | nil => cases hi
    | cons i js => exact ⟨i, js, rfl⟩
  injection hi with hi1 hi2
  subst hi1 hi2
  kwd_rel
  refine w_lc (fun rest acc C4 => ∃ pre post, b.all = pre ++ post ∧ rest = encBs post ∧ acc = ((pre.filter fun p => decide (i ∈ p.parts.map Box.num)).map Box.num).map D.int ∧ C4 = C1) (sets_name (by simp)) (wi_seq ?_) ?_ ?_
  · kwd_rel
    exact ⟨by rw [encBs_length]; omega, [], b.all, rfl, rfl, rfl, rfl⟩
  · rintro acc C4 ⟨pre, post, h1, h2, rfl, rfl⟩
    have e := encBs_nil h2
    subst e
    rw [List.append_nil] at h1
    subst h1
    kwd_rel
    refine ⟨b, i, by omega, by omega, rfl, ?_⟩
    kwd_rel
    refine ⟨b, i, by omega, by omega, rfl, ?_⟩
    kwd_rel
    refine ⟨_, 16, by decide, goodO (n := 8) (by omega) (by omega), rfl, ?_⟩
    kwd_rel
    kwd_less
    kwd_rel
    refine ⟨b, i, by omega, by omega, rfl, ?_⟩
    have pf := parentB_filter b.all i
    have fin : ∀ z, z = encOI (parentB b.all i) → fSame 20 [encOI (parentB b.all i), z] C4 fun x C5 => ∃ b_1, TruD C5 x = some b_1 ∧ b_1 = true ∧ C5 = C4 := by
      rintro z rfl
      exact ⟨_, 0, by decide, goodOI, rfl, true, rfl, rfl, rfl⟩
    cases hq : ((b.all.filter fun p => decide (i ∈ p.parts.map Box.num)).map Box.num).map D.int with
    | nil =>
      rw [hq] at pf
      kwd_rel
      kwd_less
      kwd_rel
      refine ⟨_, 0, by decide, goodOI, by rw [pf], ?_⟩
      kwd_rel
      kwd_less
      kwd_rel
      exact ⟨is, _, _, rfl, rfl, D3⟩
    | cons z zs =>
      rw [hq] at pf
      kwd_rel
      kwd_less
      kwd_rel
      refine wr_ix .lst atI_zero ?_
      kwd_rel
      refine ⟨_, 0, by decide, goodOI, by rw [pf], ?_⟩
      kwd_rel
      kwd_less
      kwd_rel
      exact ⟨is, _, _, rfl, rfl, D3⟩
  · rintro u us acc C4 ⟨pre, post, h1, h2, rfl, rfl⟩
    obtain ⟨p, r, rfl, rfl, rfl⟩ := encBs_cons h2
    have yes : ∀ acc2, i ∈ p.parts.map Box.num → acc2 = ((pre.filter fun p => decide (i ∈ p.parts.map Box.num)).map Box.num).map D.int ++ [D.int p.num] →
        ∃ pre2 post2, b.all = pre2 ++ post2 ∧ encBs r = encBs post2 ∧ acc2 = ((pre2.filter fun p => decide (i ∈ p.parts.map Box.num)).map Box.num).map D.int ∧ C4 = C4 := by
      rintro acc2 hm rfl
      refine ⟨pre ++ [p], r, by simp [h1], rfl, ?_, rfl⟩
      rw [List.filter_append, List.filter_cons, if_pos (by simpa using hm)]
      simp
    have no : ¬ i ∈ p.parts.map Box.num →
        ∃ pre2 post2, b.all = pre2 ++ post2 ∧ encBs r = encBs post2 ∧ ((pre.filter fun p => decide (i ∈ p.parts.map Box.num)).map Box.num).map D.int = ((pre2.filter fun p => decide (i ∈ p.parts.map Box.num)).map Box.num).map D.int ∧ C4 = C4 := by
      intro hm
      refine ⟨pre ++ [p], r, by simp [h1], rfl, ?_, rfl⟩
      rw [List.filter_append, List.filter_cons, if_neg (by simpa using hm)]
      simp
    cases p with
    | block m h =>
      kwd_rel
      kwd_less
      exact ⟨(fun z => by cases z), fun _ => no (by simp [Box.parts])⟩
    | scroller m h ps =>
      have hlen : ps.length ≤ 100000 := by
        have := parts_len (b := b) (p := .scroller m h ps) (by rw [h1]; simp)
        show (Box.scroller m h ps).parts.length ≤ 100000
        omega
      kwd_rel
      kwd_less
      kwd_rel
      refine w_lcMap (fun x => match x with | .tup (_ :: n :: _) => n | _ => .non) (by simp) (wi_seq ?_)
      kwd_rel
      refine ⟨by rw [encBs_length]; omega, fun x hx => ?_, ?_⟩
      · rw [encBs_map] at hx
        obtain ⟨z, hz2, rfl⟩ := List.mem_map.mp hx
        kwd_rel
        cases z <;> exact ⟨rfl, rfl⟩
      have e : (encBs ps).map (fun x => match x with | .tup (_ :: n :: _) => n | _ => .non) = (ps.map Box.num).map D.int := by
        rw [encBs_map, List.map_map, List.map_map]
        apply List.map_congr_left
        intro z _
        cases z <;> rfl
      rw [e]
      refine wr_inI .lst ?_
      kwd_rel
      refine ⟨fun hc => ?_, fun hc => no (of_decide_eq_false hc)⟩
      kwd_rel
      exact yes _ (of_decide_eq_true hc) rfl
end
theorem chain {P : Program} {w : World} {K : PySem.W.Frag} {mg : Str → Option Value} {base : Heap} (T : Top mg)
    (D_parts_of : DefAt K mg "parts_of" sparts_of ["box"])
    (D_all_boxes : DefAt K mg "all_boxes" sall_boxes ["document"])
    (D_find : DefAt K mg "find" sfind ["document", "number"])
    (D_parent_of : DefAt K mg "parent_of" sparent_of ["document", "number"])
    (D_depth_of : DefAt K mg "depth_of" sdepth_of ["box"])
    (D_is_document : DefAt K mg "is_document" sis_document ["box"])
    (D_law_draw : DefAt K mg "_law_draw" slaw_draw ["_law_script"])
    (D_law_next : DefAt K mg "_law_next" slaw_next ["_law_draw_here", "_law_many"])
    (D_law_same : DefAt K mg "_law_same" slaw_same ["_law_actual", "_law_due"])
    (D_law_box : DefAt K mg "_law_box" slaw_box ["_law_draw_here", "_law_last", "_law_depth_here"])
    (D_law_document : DefAt K mg "_law_document" slaw_document ["_law_draw_here"])
    (D_law_all : DefAt K mg "_law_all" slaw_all ["_law_box_here"])
    (D_law_named : DefAt K mg "_law_named" slaw_named ["_law_document_here", "_law_number"])
    (D_law_depth : DefAt K mg "_law_depth" slaw_depth ["_law_box_here"])
    (D_law_is_document : DefAt K mg "_law_is_document" slaw_is_document ["_law_box_here"])
    (D_law_nested : DefAt K mg "_law_nested" slaw_nested ["_law_many", "_law_last"])
    (D_law_faulty : DefAt K mg "_law_faulty" slaw_faulty ["_law_draw_here", "_law_document_here"])
    {f : Addr} {fd : FuncData} (F : Fun K "law" "law" slaw f fd) :
    FnOk P w K mg base CX0 41 f fd ["_law_script"] (spScr K fun ns C P => ns.length ≤ 63 ∧ C = (fun _ => none) ∧ ∀ C', P (.bl true) C') := by
  have h_parts_of := ok_parts_of (P := P) (w := w) (base := base) D_parts_of T
  have h_all_boxes := ok_all_boxes D_all_boxes T h_parts_of 8
  have h_find := ok_find D_find T h_all_boxes
  have h_parent_of := ok_parent_of D_parent_of T (h_parts_of.mono (by decide)) h_all_boxes
  have h_depth_of := ok_depth_of (P := P) (w := w) (base := base) D_depth_of T 8
  have h_is_document := ok_is_document D_is_document T h_all_boxes (h_depth_of.mono (by decide))
  have h_law_draw := ok_law_draw (P := P) (w := w) (base := base) D_law_draw T
  have h_law_next := ok_law_next (P := P) (w := w) (base := base) D_law_next T
  have h_law_same := ok_law_same (P := P) (w := w) (base := base) D_law_same T 20
  have h_law_box := ok_law_box D_law_box T h_law_next 3
  have h_law_document := ok_law_document D_law_document T (h_law_next.mono (by decide)) h_law_box
  have h_law_all := ok_law_all (P := P) (w := w) (base := base) D_law_all T 8
  have h_law_named := ok_law_named D_law_named T h_law_all
  have h_law_depth := ok_law_depth (P := P) (w := w) (base := base) D_law_depth T 8
  have h_law_is_document := ok_law_is_document D_law_is_document T h_law_all h_law_depth
  have h_law_nested := ok_law_nested (P := P) (w := w) (base := base) D_law_nested T
  have h_law_faulty := ok_law_faulty (k := 9) D_law_faulty T (h_law_next.mono (by decide)) h_law_all (h_law_nested.mono (by decide))
  exact ok_law F T (h_law_draw.mono (by decide)) (h_law_document.mono (by decide)) (h_law_all.mono (by decide)) (h_law_same.mono (by decide)) (h_all_boxes.mono (by decide)) (h_is_document.mono (by decide)) (h_find.mono (by decide))
    (h_law_named.mono (by decide)) (h_parent_of.mono (by decide)) (h_law_faulty.mono (by decide)) (h_law_is_document.mono (by decide))
/-! ### the top, the end -/
theorem all_mk {l : PySem.W.OpenLaw} {w : World} {K : PySem.W.Frag} {h : Heap} {mg : Str → Option Value} {fa f1 f2 f3 f4 f5 f6 f7 f8 f9 f10 f11 f12 f13 f14 f15 f16 f17 f18 : Addr} (X : K.In h) (G : h.Ns mainGlobals mg) (hfa : mg "law" = some (.ref fa))
    {od1 an1 od2 an2 od3 an3 od4 an4 od5 an5 od6 an6 od7 an7 od8 an8 od9 an9 od10 an10 od11 an11 od12 an12 od13 an13 od14 an14 od15 an15 od16 an16 od17 an17 od18 an18 : Option Addr} {sl1 sl2 sl3 sl4 sl5 sl6 sl7 sl8 sl9 sl10 sl11 sl12 sl13 sl14 sl15 sl16 sl17 sl18 : Array (Option Value)} {oc1 kV1 dc1 pm1 cd1 ct1 oc2 kV2 dc2 pm2 cd2 ct2 oc3 kV3 dc3 pm3 cd3 ct3 oc4 kV4 dc4 pm4 cd4 ct4 oc5 kV5 dc5 pm5 cd5 ct5 oc6 kV6 dc6 pm6 cd6 ct6 oc7 kV7 dc7 pm7 cd7 ct7 oc8 kV8 dc8 pm8 cd8 ct8 oc9 kV9 dc9 pm9 cd9 ct9 oc10 kV10 dc10 pm10 cd10 ct10 oc11 kV11 dc11 pm11 cd11 ct11 oc12 kV12 dc12 pm12 cd12 ct12 oc13 kV13 dc13 pm13 cd13 ct13 oc14 kV14 dc14 pm14 cd14 ct14 oc15 kV15 dc15 pm15 cd15 ct15 oc16 kV16 dc16 pm16 cd16 ct16 oc17 kV17 dc17 pm17 cd17 ct17 oc18 kV18 dc18 pm18 cd18 ct18 : Value}
    (a1 : PySem.W.nsIn K mainGlobals "parts_of" = some (some (.ref f1))) (l1 : K.lookup f1 = some ⟨oc1, od1, .func (PySem.W.fnOf "parts_of" "parts_of" (defArgs sparts_of) (defBody sparts_of) (defScope sparts_of) .none kV1 dc1 pm1 an1 cd1 ct1), sl1⟩) (c1 : PySem.W.codeIn K cd1 "parts_of" = true) (k1 : PySem.W.keepIn K (.ref f1) = true)
    (a2 : PySem.W.nsIn K mainGlobals "all_boxes" = some (some (.ref f2))) (l2 : K.lookup f2 = some ⟨oc2, od2, .func (PySem.W.fnOf "all_boxes" "all_boxes" (defArgs sall_boxes) (defBody sall_boxes) (defScope sall_boxes) .none kV2 dc2 pm2 an2 cd2 ct2), sl2⟩) (c2 : PySem.W.codeIn K cd2 "all_boxes" = true) (k2 : PySem.W.keepIn K (.ref f2) = true)
    (a3 : PySem.W.nsIn K mainGlobals "find" = some (some (.ref f3))) (l3 : K.lookup f3 = some ⟨oc3, od3, .func (PySem.W.fnOf "find" "find" (defArgs sfind) (defBody sfind) (defScope sfind) .none kV3 dc3 pm3 an3 cd3 ct3), sl3⟩) (c3 : PySem.W.codeIn K cd3 "find" = true) (k3 : PySem.W.keepIn K (.ref f3) = true)
    (a4 : PySem.W.nsIn K mainGlobals "parent_of" = some (some (.ref f4))) (l4 : K.lookup f4 = some ⟨oc4, od4, .func (PySem.W.fnOf "parent_of" "parent_of" (defArgs sparent_of) (defBody sparent_of) (defScope sparent_of) .none kV4 dc4 pm4 an4 cd4 ct4), sl4⟩) (c4 : PySem.W.codeIn K cd4 "parent_of" = true) (k4 : PySem.W.keepIn K (.ref f4) = true)
    (a5 : PySem.W.nsIn K mainGlobals "depth_of" = some (some (.ref f5))) (l5 : K.lookup f5 = some ⟨oc5, od5, .func (PySem.W.fnOf "depth_of" "depth_of" (defArgs sdepth_of) (defBody sdepth_of) (defScope sdepth_of) .none kV5 dc5 pm5 an5 cd5 ct5), sl5⟩) (c5 : PySem.W.codeIn K cd5 "depth_of" = true) (k5 : PySem.W.keepIn K (.ref f5) = true)
    (a6 : PySem.W.nsIn K mainGlobals "is_document" = some (some (.ref f6))) (l6 : K.lookup f6 = some ⟨oc6, od6, .func (PySem.W.fnOf "is_document" "is_document" (defArgs sis_document) (defBody sis_document) (defScope sis_document) .none kV6 dc6 pm6 an6 cd6 ct6), sl6⟩) (c6 : PySem.W.codeIn K cd6 "is_document" = true) (k6 : PySem.W.keepIn K (.ref f6) = true)
    (a7 : PySem.W.nsIn K mainGlobals "_law_draw" = some (some (.ref f7))) (l7 : K.lookup f7 = some ⟨oc7, od7, .func (PySem.W.fnOf "_law_draw" "_law_draw" (defArgs slaw_draw) (defBody slaw_draw) (defScope slaw_draw) .none kV7 dc7 pm7 an7 cd7 ct7), sl7⟩) (c7 : PySem.W.codeIn K cd7 "_law_draw" = true) (k7 : PySem.W.keepIn K (.ref f7) = true)
    (a8 : PySem.W.nsIn K mainGlobals "_law_next" = some (some (.ref f8))) (l8 : K.lookup f8 = some ⟨oc8, od8, .func (PySem.W.fnOf "_law_next" "_law_next" (defArgs slaw_next) (defBody slaw_next) (defScope slaw_next) .none kV8 dc8 pm8 an8 cd8 ct8), sl8⟩) (c8 : PySem.W.codeIn K cd8 "_law_next" = true) (k8 : PySem.W.keepIn K (.ref f8) = true)
    (a9 : PySem.W.nsIn K mainGlobals "_law_same" = some (some (.ref f9))) (l9 : K.lookup f9 = some ⟨oc9, od9, .func (PySem.W.fnOf "_law_same" "_law_same" (defArgs slaw_same) (defBody slaw_same) (defScope slaw_same) .none kV9 dc9 pm9 an9 cd9 ct9), sl9⟩) (c9 : PySem.W.codeIn K cd9 "_law_same" = true) (k9 : PySem.W.keepIn K (.ref f9) = true)
    (a10 : PySem.W.nsIn K mainGlobals "_law_box" = some (some (.ref f10))) (l10 : K.lookup f10 = some ⟨oc10, od10, .func (PySem.W.fnOf "_law_box" "_law_box" (defArgs slaw_box) (defBody slaw_box) (defScope slaw_box) .none kV10 dc10 pm10 an10 cd10 ct10), sl10⟩) (c10 : PySem.W.codeIn K cd10 "_law_box" = true) (k10 : PySem.W.keepIn K (.ref f10) = true)
    (a11 : PySem.W.nsIn K mainGlobals "_law_document" = some (some (.ref f11))) (l11 : K.lookup f11 = some ⟨oc11, od11, .func (PySem.W.fnOf "_law_document" "_law_document" (defArgs slaw_document) (defBody slaw_document) (defScope slaw_document) .none kV11 dc11 pm11 an11 cd11 ct11), sl11⟩) (c11 : PySem.W.codeIn K cd11 "_law_document" = true) (k11 : PySem.W.keepIn K (.ref f11) = true)
    (a12 : PySem.W.nsIn K mainGlobals "_law_all" = some (some (.ref f12))) (l12 : K.lookup f12 = some ⟨oc12, od12, .func (PySem.W.fnOf "_law_all" "_law_all" (defArgs slaw_all) (defBody slaw_all) (defScope slaw_all) .none kV12 dc12 pm12 an12 cd12 ct12), sl12⟩) (c12 : PySem.W.codeIn K cd12 "_law_all" = true) (k12 : PySem.W.keepIn K (.ref f12) = true)
    (a13 : PySem.W.nsIn K mainGlobals "_law_named" = some (some (.ref f13))) (l13 : K.lookup f13 = some ⟨oc13, od13, .func (PySem.W.fnOf "_law_named" "_law_named" (defArgs slaw_named) (defBody slaw_named) (defScope slaw_named) .none kV13 dc13 pm13 an13 cd13 ct13), sl13⟩) (c13 : PySem.W.codeIn K cd13 "_law_named" = true) (k13 : PySem.W.keepIn K (.ref f13) = true)
    (a14 : PySem.W.nsIn K mainGlobals "_law_depth" = some (some (.ref f14))) (l14 : K.lookup f14 = some ⟨oc14, od14, .func (PySem.W.fnOf "_law_depth" "_law_depth" (defArgs slaw_depth) (defBody slaw_depth) (defScope slaw_depth) .none kV14 dc14 pm14 an14 cd14 ct14), sl14⟩) (c14 : PySem.W.codeIn K cd14 "_law_depth" = true) (k14 : PySem.W.keepIn K (.ref f14) = true)
    (a15 : PySem.W.nsIn K mainGlobals "_law_is_document" = some (some (.ref f15))) (l15 : K.lookup f15 = some ⟨oc15, od15, .func (PySem.W.fnOf "_law_is_document" "_law_is_document" (defArgs slaw_is_document) (defBody slaw_is_document) (defScope slaw_is_document) .none kV15 dc15 pm15 an15 cd15 ct15), sl15⟩) (c15 : PySem.W.codeIn K cd15 "_law_is_document" = true) (k15 : PySem.W.keepIn K (.ref f15) = true)
    (a16 : PySem.W.nsIn K mainGlobals "_law_nested" = some (some (.ref f16))) (l16 : K.lookup f16 = some ⟨oc16, od16, .func (PySem.W.fnOf "_law_nested" "_law_nested" (defArgs slaw_nested) (defBody slaw_nested) (defScope slaw_nested) .none kV16 dc16 pm16 an16 cd16 ct16), sl16⟩) (c16 : PySem.W.codeIn K cd16 "_law_nested" = true) (k16 : PySem.W.keepIn K (.ref f16) = true)
    (a17 : PySem.W.nsIn K mainGlobals "_law_faulty" = some (some (.ref f17))) (l17 : K.lookup f17 = some ⟨oc17, od17, .func (PySem.W.fnOf "_law_faulty" "_law_faulty" (defArgs slaw_faulty) (defBody slaw_faulty) (defScope slaw_faulty) .none kV17 dc17 pm17 an17 cd17 ct17), sl17⟩) (c17 : PySem.W.codeIn K cd17 "_law_faulty" = true) (k17 : PySem.W.keepIn K (.ref f17) = true)
    (a18 : PySem.W.nsIn K mainGlobals "law" = some (some (.ref f18))) (l18 : K.lookup f18 = some ⟨oc18, od18, .func (PySem.W.fnOf "law" "law" (defArgs slaw) (defBody slaw) (defScope slaw) .none kV18 dc18 pm18 an18 cd18 ct18), sl18⟩) (c18 : PySem.W.codeIn K cd18 "law" = true) (k18 : PySem.W.keepIn K (.ref f18) = true)
    {t_MOST_BOXES : Tok} (g_MOST_BOXES : PySem.W.nsIn K mainGlobals "MOST_BOXES" = some (some (.int 40 t_MOST_BOXES)))
    {t_MOST_DEPTH : Tok} (g_MOST_DEPTH : PySem.W.nsIn K mainGlobals "MOST_DEPTH" = some (some (.int 4 t_MOST_DEPTH)))
    {t_MOST_NUMBER : Tok} (g_MOST_NUMBER : PySem.W.nsIn K mainGlobals "MOST_NUMBER" = some (some (.int 999 t_MOST_NUMBER)))
    {t_MOST_HEIGHT : Tok} (g_MOST_HEIGHT : PySem.W.nsIn K mainGlobals "MOST_HEIGHT" = some (some (.int 1000 t_MOST_HEIGHT)))
    (z_max : PySem.W.nsIn K mainGlobals "max" = some none)
    (z_all : PySem.W.nsIn K mainGlobals "all" = some none)
    (z_len : PySem.W.nsIn K mainGlobals "len" = some none)
    (z_set : PySem.W.nsIn K mainGlobals "set" = some none)
    (z_list : PySem.W.nsIn K mainGlobals "list" = some none)
    (z_abs : PySem.W.nsIn K mainGlobals "abs" = some none)
    (z_int : PySem.W.nsIn K mainGlobals "int" = some none)
    (z_isinstance : PySem.W.nsIn K mainGlobals "isinstance" = some none)
    (z_str : PySem.W.nsIn K mainGlobals "str" = some none)
    (z_tuple : PySem.W.nsIn K mainGlobals "tuple" = some none)
    (z_bool : PySem.W.nsIn K mainGlobals "bool" = some none)
    (z_range : PySem.W.nsIn K mainGlobals "range" = some none)
    (z_sum : PySem.W.nsIn K mainGlobals "sum" = some none)
    : ∃ fd : FuncData, (∀ (s : Shared) (v : Value), BindsTo s fd ⟨[v], []⟩ [("_law_script", v)]) ∧ ∀ base : Heap, K.In base → base.Ns mainGlobals mg → FnOk l.prog w K mg base CX0 41 fa fd ["_law_script"] (spLaw K) := by
  have e := hfa.symm.trans (PySem.W.mg_of X G a18)
  cases e
  have T : Top mg := ⟨PySem.W.mg_none_of X G z_max, PySem.W.mg_none_of X G z_all, PySem.W.mg_none_of X G z_len, PySem.W.mg_none_of X G z_set, PySem.W.mg_none_of X G z_list, PySem.W.mg_none_of X G z_abs, PySem.W.mg_none_of X G z_int, PySem.W.mg_none_of X G z_isinstance, PySem.W.mg_none_of X G z_str, PySem.W.mg_none_of X G z_tuple, PySem.W.mg_none_of X G z_bool, PySem.W.mg_none_of X G z_range, PySem.W.mg_none_of X G z_sum, ⟨_, PySem.W.mg_of X G g_MOST_BOXES⟩, ⟨_, PySem.W.mg_of X G g_MOST_DEPTH⟩, ⟨_, PySem.W.mg_of X G g_MOST_NUMBER⟩, ⟨_, PySem.W.mg_of X G g_MOST_HEIGHT⟩⟩
  have D1 : DefAt K mg "parts_of" sparts_of ["box"] := ⟨_, _, fun_mk (st := sparts_of) l1 c1 k1, PySem.W.mg_of X G a1, (fun_mk (st := sparts_of) l1 c1 k1).binds (ps := ["box"]) fun _ _ _ _ _ _ us hl => match us, hl with | [_], _ => rfl⟩
  have D2 : DefAt K mg "all_boxes" sall_boxes ["document"] := ⟨_, _, fun_mk (st := sall_boxes) l2 c2 k2, PySem.W.mg_of X G a2, (fun_mk (st := sall_boxes) l2 c2 k2).binds (ps := ["document"]) fun _ _ _ _ _ _ us hl => match us, hl with | [_], _ => rfl⟩
  have D3 : DefAt K mg "find" sfind ["document", "number"] := ⟨_, _, fun_mk (st := sfind) l3 c3 k3, PySem.W.mg_of X G a3, (fun_mk (st := sfind) l3 c3 k3).binds (ps := ["document", "number"]) fun _ _ _ _ _ _ us hl => match us, hl with | [_, _], _ => rfl⟩
  have D4 : DefAt K mg "parent_of" sparent_of ["document", "number"] := ⟨_, _, fun_mk (st := sparent_of) l4 c4 k4, PySem.W.mg_of X G a4, (fun_mk (st := sparent_of) l4 c4 k4).binds (ps := ["document", "number"]) fun _ _ _ _ _ _ us hl => match us, hl with | [_, _], _ => rfl⟩
  have D5 : DefAt K mg "depth_of" sdepth_of ["box"] := ⟨_, _, fun_mk (st := sdepth_of) l5 c5 k5, PySem.W.mg_of X G a5, (fun_mk (st := sdepth_of) l5 c5 k5).binds (ps := ["box"]) fun _ _ _ _ _ _ us hl => match us, hl with | [_], _ => rfl⟩
  have D6 : DefAt K mg "is_document" sis_document ["box"] := ⟨_, _, fun_mk (st := sis_document) l6 c6 k6, PySem.W.mg_of X G a6, (fun_mk (st := sis_document) l6 c6 k6).binds (ps := ["box"]) fun _ _ _ _ _ _ us hl => match us, hl with | [_], _ => rfl⟩
  have D7 : DefAt K mg "_law_draw" slaw_draw ["_law_script"] := ⟨_, _, fun_mk (st := slaw_draw) l7 c7 k7, PySem.W.mg_of X G a7, (fun_mk (st := slaw_draw) l7 c7 k7).binds (ps := ["_law_script"]) fun _ _ _ _ _ _ us hl => match us, hl with | [_], _ => rfl⟩
  have D8 : DefAt K mg "_law_next" slaw_next ["_law_draw_here", "_law_many"] := ⟨_, _, fun_mk (st := slaw_next) l8 c8 k8, PySem.W.mg_of X G a8, (fun_mk (st := slaw_next) l8 c8 k8).binds (ps := ["_law_draw_here", "_law_many"]) fun _ _ _ _ _ _ us hl => match us, hl with | [_, _], _ => rfl⟩
  have D9 : DefAt K mg "_law_same" slaw_same ["_law_actual", "_law_due"] := ⟨_, _, fun_mk (st := slaw_same) l9 c9 k9, PySem.W.mg_of X G a9, (fun_mk (st := slaw_same) l9 c9 k9).binds (ps := ["_law_actual", "_law_due"]) fun _ _ _ _ _ _ us hl => match us, hl with | [_, _], _ => rfl⟩
  have D10 : DefAt K mg "_law_box" slaw_box ["_law_draw_here", "_law_last", "_law_depth_here"] := ⟨_, _, fun_mk (st := slaw_box) l10 c10 k10, PySem.W.mg_of X G a10, (fun_mk (st := slaw_box) l10 c10 k10).binds (ps := ["_law_draw_here", "_law_last", "_law_depth_here"]) fun _ _ _ _ _ _ us hl => match us, hl with | [_, _, _], _ => rfl⟩
  have D11 : DefAt K mg "_law_document" slaw_document ["_law_draw_here"] := ⟨_, _, fun_mk (st := slaw_document) l11 c11 k11, PySem.W.mg_of X G a11, (fun_mk (st := slaw_document) l11 c11 k11).binds (ps := ["_law_draw_here"]) fun _ _ _ _ _ _ us hl => match us, hl with | [_], _ => rfl⟩
  have D12 : DefAt K mg "_law_all" slaw_all ["_law_box_here"] := ⟨_, _, fun_mk (st := slaw_all) l12 c12 k12, PySem.W.mg_of X G a12, (fun_mk (st := slaw_all) l12 c12 k12).binds (ps := ["_law_box_here"]) fun _ _ _ _ _ _ us hl => match us, hl with | [_], _ => rfl⟩
  have D13 : DefAt K mg "_law_named" slaw_named ["_law_document_here", "_law_number"] := ⟨_, _, fun_mk (st := slaw_named) l13 c13 k13, PySem.W.mg_of X G a13, (fun_mk (st := slaw_named) l13 c13 k13).binds (ps := ["_law_document_here", "_law_number"]) fun _ _ _ _ _ _ us hl => match us, hl with | [_, _], _ => rfl⟩
  have D14 : DefAt K mg "_law_depth" slaw_depth ["_law_box_here"] := ⟨_, _, fun_mk (st := slaw_depth) l14 c14 k14, PySem.W.mg_of X G a14, (fun_mk (st := slaw_depth) l14 c14 k14).binds (ps := ["_law_box_here"]) fun _ _ _ _ _ _ us hl => match us, hl with | [_], _ => rfl⟩
  have D15 : DefAt K mg "_law_is_document" slaw_is_document ["_law_box_here"] := ⟨_, _, fun_mk (st := slaw_is_document) l15 c15 k15, PySem.W.mg_of X G a15, (fun_mk (st := slaw_is_document) l15 c15 k15).binds (ps := ["_law_box_here"]) fun _ _ _ _ _ _ us hl => match us, hl with | [_], _ => rfl⟩
  have D16 : DefAt K mg "_law_nested" slaw_nested ["_law_many", "_law_last"] := ⟨_, _, fun_mk (st := slaw_nested) l16 c16 k16, PySem.W.mg_of X G a16, (fun_mk (st := slaw_nested) l16 c16 k16).binds (ps := ["_law_many", "_law_last"]) fun _ _ _ _ _ _ us hl => match us, hl with | [_, _], _ => rfl⟩
  have D17 : DefAt K mg "_law_faulty" slaw_faulty ["_law_draw_here", "_law_document_here"] := ⟨_, _, fun_mk (st := slaw_faulty) l17 c17 k17, PySem.W.mg_of X G a17, (fun_mk (st := slaw_faulty) l17 c17 k17).binds (ps := ["_law_draw_here", "_law_document_here"]) fun _ _ _ _ _ _ us hl => match us, hl with | [_, _], _ => rfl⟩
  have D18 : DefAt K mg "law" slaw ["_law_script"] := ⟨_, _, fun_mk (st := slaw) l18 c18 k18, PySem.W.mg_of X G a18, (fun_mk (st := slaw) l18 c18 k18).binds (ps := ["_law_script"]) fun _ _ _ _ _ _ us hl => match us, hl with | [_], _ => rfl⟩
  refine ⟨PySem.W.fnOf "law" "law" (defArgs slaw) (defBody slaw) (defScope slaw) .none kV18 dc18 pm18 an18 cd18 ct18, fun s v => .of_eq rfl, fun base _ _ => law_of ?_⟩
  exact chain T D1 D2 D3 D4 D5 D6 D7 D8 D9 D10 D11 D12 D13 D14 D15 D16 D17 (fun_mk (st := slaw) l18 c18 k18)
theorem walk {l : PySem.W.OpenLaw} {q : Program} {loose : List Str} {XP : (Str → Option Value) → Heap → Prop} {YP : World → Heap → Prop} {d : DefRec} {K : Params → PySem.W.Frag} (hn : l.most = some 63) (hdf : d.params.defaults = [])
    (hY : ∀ (w : World) (h : Heap), YP w h → (K w.params).In h)
    (F : ∀ (w : World) (mg : Str → Option Value) (fa : Addr) (h : Heap), (K w.params).In h → h.Ns mainGlobals mg → mg d.name = some (.ref fa) →
      ∃ fd : FuncData, (∀ (s : Shared) (u : Value), BindsTo s fd ⟨[u], []⟩ [("_law_script", u)]) ∧ ∀ base : Heap, (K w.params).In base → base.Ns mainGlobals mg → FnOk l.prog w (K w.params) mg base CX0 41 fa fd ["_law_script"] (spLaw (K w.params))) :
    PySem.W.WalkO q loose XP YP l.row.toRowW d [] (fun f vs => PySem.call f vs) :=
  L2.walk_of (n := 63) (k := 41) (x := "_law_script") (CX := fun _ => CX0) (sp := fun w => spLaw (K w.params)) hn (by decide) hdf ⟨rfl, by decide, by decide⟩ hY F (fun _ _ a ns hl _ hS => ⟨a, ns, rfl, hS, hl, fun _ => rfl⟩) fun _ _ _ _ _ z => z
end Dv
open PySem PySem.W PyProof.Rows in
set_option maxRecDepth 100000 in
set_option maxHeartbeats 0 in
theorem PySem.Challenge.cw_asyncframes_k01_boxes_are_listed_and_che_holds : PySem.Challenge.rw_asyncframes_k01_boxes_are_listed_and_che.Holds := by
  w_on; o_law; k_head; (case hw => w_witness2)
  k_fill
  refine Dv.walk (l := PySem.Challenge.rw_asyncframes_k01_boxes_are_listed_and_che) rfl rfl (fun w h Y => PySem.W.kIn_of Y) ?F
  case F =>
    intro w mg fa h KX G hmg
    refine' Dv.all_mk KX G hmg ?a1 ?l1 ?c1 ?k1 ?a2 ?l2 ?c2 ?k2 ?a3 ?l3 ?c3 ?k3 ?a4 ?l4 ?c4 ?k4 ?a5 ?l5 ?c5 ?k5 ?a6 ?l6 ?c6 ?k6 ?a7 ?l7 ?c7 ?k7 ?a8 ?l8 ?c8 ?k8 ?a9 ?l9 ?c9 ?k9 ?a10 ?l10 ?c10 ?k10 ?a11 ?l11 ?c11 ?k11 ?a12 ?l12 ?c12 ?k12 ?a13 ?l13 ?c13 ?k13 ?a14 ?l14 ?c14 ?k14 ?a15 ?l15 ?c15 ?k15 ?a16 ?l16 ?c16 ?k16 ?a17 ?l17 ?c17 ?k17 ?a18 ?l18 ?c18 ?k18 ?g_MOST_BOXES ?g_MOST_DEPTH ?g_MOST_NUMBER ?g_MOST_HEIGHT ?z_max ?z_all ?z_len ?z_set ?z_list ?z_abs ?z_int ?z_isinstance ?z_str ?z_tuple ?z_bool ?z_range ?z_sum
    (case a1 => k_is)
    (case l1 => k_is)
    (case c1 => k_is)
    (case k1 => k_is)
    (case a2 => k_is)
    (case l2 => k_is)
    (case c2 => k_is)
    (case k2 => k_is)
    (case a3 => k_is)
    (case l3 => k_is)
    (case c3 => k_is)
    (case k3 => k_is)
    (case a4 => k_is)
    (case l4 => k_is)
    (case c4 => k_is)
    (case k4 => k_is)
    (case a5 => k_is)
    (case l5 => k_is)
    (case c5 => k_is)
    (case k5 => k_is)
    (case a6 => k_is)
    (case l6 => k_is)
    (case c6 => k_is)
    (case k6 => k_is)
    (case a7 => k_is)
    (case l7 => k_is)
    (case c7 => k_is)
    (case k7 => k_is)
    (case a8 => k_is)
    (case l8 => k_is)
    (case c8 => k_is)
    (case k8 => k_is)
    (case a9 => k_is)
    (case l9 => k_is)
    (case c9 => k_is)
    (case k9 => k_is)
    (case a10 => k_is)
    (case l10 => k_is)
    (case c10 => k_is)
    (case k10 => k_is)
    (case a11 => k_is)
    (case l11 => k_is)
    (case c11 => k_is)
    (case k11 => k_is)
    (case a12 => k_is)
    (case l12 => k_is)
    (case c12 => k_is)
    (case k12 => k_is)
    (case a13 => k_is)
    (case l13 => k_is)
    (case c13 => k_is)
    (case k13 => k_is)
    (case a14 => k_is)
    (case l14 => k_is)
    (case c14 => k_is)
    (case k14 => k_is)
    (case a15 => k_is)
    (case l15 => k_is)
    (case c15 => k_is)
    (case k15 => k_is)
    (case a16 => k_is)
    (case l16 => k_is)
    (case c16 => k_is)
    (case k16 => k_is)
    (case a17 => k_is)
    (case l17 => k_is)
    (case c17 => k_is)
    (case k17 => k_is)
    (case a18 => k_is)
    (case l18 => k_is)
    (case c18 => k_is)
    (case k18 => k_is)
    (case g_MOST_BOXES => k_is)
    (case g_MOST_DEPTH => k_is)
    (case g_MOST_NUMBER => k_is)
    (case g_MOST_HEIGHT => k_is)
    (case z_max => k_is)
    (case z_all => k_is)
    (case z_len => k_is)
    (case z_set => k_is)
    (case z_list => k_is)
    (case z_abs => k_is)
    (case z_int => k_is)
    (case z_isinstance => k_is)
    (case z_str => k_is)
    (case z_tuple => k_is)
    (case z_bool => k_is)
    (case z_range => k_is)
    (case z_sum => k_is)
#print axioms PySem.Challenge.cw_asyncframes_k01_boxes_are_listed_and_che_holds

