import PyProof.Rows.All
import Wide.All
import OpenK.AllK
import Wide.FinOn
import HandS.ForMost
import HandS.Exc
import HandS.TryOnly
import HandS.ExcOwn
import HandS.WordsExc
import HandS.TupAny
import HandS.Walk
import HandS.IsInst
import HandS.Conv
import HandS.Zip
import HandS.DictComp
import HandS.More
import HandS.SortInts
import HandS.Star
import HandS.Style
import HandS.Lambda
import HandS.TryMany
import PyProof.StrOps2
import HandS.Text
import HandS.FStr
import HandS.Nested
import HandS.ExcIs
import HandS.EndBits
import HandS.EndTab
import HandS.EndOwn
import KE.KNest
import KE.KNestM
import HandS.Flow
import HandS.Small
import PySem.Challenge.RW_asyncframes_k42_painters_alone
set_option Elab.async false
set_option linter.all false
set_option maxRecDepth 100000
set_option maxHeartbeats 1000000
/-! Deep values over the hand layer. D: a Python value as a whole (frozen data), .ref a: a mutable cell by its address.
    B: the frozen part of the heap, C: the cells (mutable), F: a frame that is kept as it is. -/
namespace Dv
open PySem L2

/-- the text of a lambda: the names that it captures, in an order -/
structure LamT where
  qual : Str
  params : Arguments
  body : Expr
  scope : Scope
  fr : List Str
/-- an object that stays just as it is -/
def PinO (a : Addr) (o : Obj) : HO := .ext fun h => h.get? a = some o
/-- the function of a lambda at a, its cells holding vs -/
structure FnAt (B : Hp) (a : Addr) (L : LamT) (vs : List V) : Prop where
  ex : ∃ (cl : List (Str × Addr)) (pm ctv : Value) (c : Addr), B a = some (PinO a (PySem.W.kla_obj "<lambda>" L.qual L.params L.body L.scope cl pm c ctv)) ∧ B c = some (LamX.CodeO c L.qual) ∧ vs.length = L.fr.length ∧
    (∀ y d, cl.lookup y = some d → ∃ o v, B d = some (PinO d o) ∧ o.data = .cell v) ∧ (∀ x y d, cl.lookup x = some d → cl.lookup y = some d → x = y) ∧
    ∀ (i : Nat) (y : Str), L.fr[i]? = some y → ∃ d o v u, cl.lookup y = some d ∧ B d = some (PinO d o) ∧ o.data = .cell (some u) ∧ vs[i]? = some v ∧ RelV v u
theorem FnAt.mono {B B' : Hp} {a : Addr} {L : LamT} {vs : List V} (h : FnAt B a L vs) (e : Same B B') : FnAt B' a L vs := by
  obtain ⟨cl, pm, ctv, c, h1, h2, h3, h4, h5, h6⟩ := h.ex
  refine ⟨cl, pm, ctv, c, e _ _ h1, e _ _ h2, h3, fun y d hd => ?_, h5, fun i y hy => ?_⟩
  · obtain ⟨o, v, g1, g2⟩ := h4 y d hd
    exact ⟨o, v, e _ _ g1, g2⟩
  · obtain ⟨d, o, v, u, g1, g2, g3, g4, g5⟩ := h6 i y hy
    exact ⟨d, o, v, u, g1, e _ _ g2, g3, g4, g5⟩
inductive D where
  | fn (L : LamT) (cap : List D)
  | non | bl (b : Bool) | int (i : Int) | str (x : Str) | ref (a : Addr) | ty (n : String)
  | tup (l : List D) | lst (l : List D) | dic (l : List (Int × D))
  /-- a dict that is read alone, one that is locked -/
  | dicR (l : List (Int × D)) | dicL (o : Obj) (l : List (Int × D))

mutual
inductive Rep (B : Hp) : V → D → Prop
  | non : Rep B .non .non
  | bl {b} : Rep B (.bl b) (.bl b)
  | int {i} : Rep B (.int i) (.int i)
  | str {x} : Rep B (.str x) (.str x)
  | ref {a} : Rep B (.ref a) (.ref a)
  | ty {n} : Rep B (.ty n) (.ty n)
  | tup {a vs ds} : B a = some (.tup vs) → Reps B vs ds → Rep B (.ref a) (.tup ds)
  | lst {a vs ds} : B a = some (.lst vs) → Reps B vs ds → Rep B (.ref a) (.lst ds)
  | dic {a vs ds} : B a = some (.dK vs) → RepK B vs ds → Rep B (.ref a) (.dic ds)
  | dicR {a vs ds} : Rd B a (.dK vs) → RepK B vs ds → Rep B (.ref a) (.dicR ds)
  | dicL {a o vs ds} : B a = some (.frz o (.dK vs)) → RepK B vs ds → Rep B (.ref a) (.dicL o ds)
  | fn {a L vs ds} : FnAt B a L vs → Reps B vs ds → Rep B (.ref a) (.fn L ds)
inductive Reps (B : Hp) : List V → List D → Prop
  | nil : Reps B [] []
  | cons {v d vs ds} : Rep B v d → Reps B vs ds → Reps B (v :: vs) (d :: ds)
inductive RepK (B : Hp) : List (Key × V) → List (Int × D) → Prop
  | nil : RepK B [] []
  | cons {k v d vs ds} : Rep B v d → RepK B vs ds → RepK B ((Sum.inl k, v) :: vs) ((k, d) :: ds)
end

inductive RepF (B : Hp) : List (Str × V) → List (Str × D) → Prop
  | nil : RepF B [] []
  | cons {k v d vs ds} : Rep B v d → RepF B vs ds → RepF B ((k, v) :: vs) ((k, d) :: ds)

mutual
theorem Rep.mono {B B' : Hp} (e : Same B B') : ∀ {v d}, Rep B v d → Rep B' v d
  | _, _, .non => .non
  | _, _, .bl => .bl
  | _, _, .int => .int
  | _, _, .str => .str
  | _, _, .ref => .ref
  | _, _, .ty => .ty
  | _, _, .fn h r => .fn (h.mono e) (Reps.mono e r)
  | _, _, .tup h r => .tup (e _ _ h) (Reps.mono e r)
  | _, _, .lst h r => .lst (e _ _ h) (Reps.mono e r)
  | _, _, .dic h r => .dic (e _ _ h) (RepK.mono e r)
  | _, _, .dicR h r => .dicR (h.elim (fun z => .inl (e _ _ z)) fun ⟨o, z⟩ => .inr ⟨o, e _ _ z⟩) (RepK.mono e r)
  | _, _, .dicL h r => .dicL (e _ _ h) (RepK.mono e r)
theorem Reps.mono {B B' : Hp} (e : Same B B') : ∀ {vs ds}, Reps B vs ds → Reps B' vs ds
  | _, _, .nil => .nil
  | _, _, .cons h r => .cons (Rep.mono e h) (Reps.mono e r)
theorem RepK.mono {B B' : Hp} (e : Same B B') : ∀ {vs ds}, RepK B vs ds → RepK B' vs ds
  | _, _, .nil => .nil
  | _, _, .cons h r => .cons (Rep.mono e h) (RepK.mono e r)
end
theorem RepF.mono {B B' : Hp} (e : Same B B') {vs ds} (h : RepF B vs ds) : RepF B' vs ds := by
  induction h with
  | nil => exact .nil
  | cons h _ ih => exact .cons (h.mono e) ih

theorem Reps.length {B : Hp} : ∀ {vs ds}, Reps B vs ds → vs.length = ds.length
  | _, _, .nil => rfl
  | _, _, .cons _ r => by rw [List.length_cons, List.length_cons, Reps.length r]
theorem Reps.get {B : Hp} : ∀ {vs ds} {i : Nat} {d : D}, Reps B vs ds → ds[i]? = some d → ∃ v, vs[i]? = some v ∧ Rep B v d
  | _, _, _, _, .nil, e => by simp at e
  | _, _, 0, _, .cons h _, e => by simp at e; subst e; exact ⟨_, rfl, h⟩
  | _, _, i + 1, d, .cons _ r, e => by
    obtain ⟨v, h1, h2⟩ := Reps.get (i := i) (d := d) r (by simpa using e)
    exact ⟨v, by simpa using h1, h2⟩
theorem Reps.getV {B : Hp} : ∀ {vs ds} {i : Nat} {v : V}, Reps B vs ds → vs[i]? = some v → ∃ d, ds[i]? = some d ∧ Rep B v d
  | _, _, _, _, .nil, e => by simp at e
  | _, _, 0, _, .cons h _, e => by simp at e; subst e; exact ⟨_, rfl, h⟩
  | _, _, i + 1, v, .cons _ r, e => by
    obtain ⟨d, h1, h2⟩ := Reps.getV (i := i) (v := v) r (by simpa using e)
    exact ⟨d, by simpa using h1, h2⟩
theorem Reps.append {B : Hp} : ∀ {vs ds ws es}, Reps B vs ds → Reps B ws es → Reps B (vs ++ ws) (ds ++ es)
  | _, _, _, _, .nil, s => s
  | _, _, _, _, .cons h r, s => .cons h (Reps.append r s)
theorem Reps.take {B : Hp} : ∀ {vs ds} (n : Nat), Reps B vs ds → Reps B (vs.take n) (ds.take n)
  | _, _, 0, _ => .nil
  | _, _, _ + 1, .nil => .nil
  | _, _, n + 1, .cons h r => .cons h (Reps.take n r)
theorem Reps.drop {B : Hp} : ∀ {vs ds} (n : Nat), Reps B vs ds → Reps B (vs.drop n) (ds.drop n)
  | _, _, 0, r => r
  | _, _, _ + 1, .nil => .nil
  | _, _, n + 1, .cons _ r => Reps.drop n r
theorem Reps.set {B : Hp} {v d} (h : Rep B v d) : ∀ {vs ds} (i : Nat), Reps B vs ds → Reps B (vs.set i v) (ds.set i d)
  | _, _, _, .nil => .nil
  | _, _, 0, .cons _ r => .cons h r
  | _, _, i + 1, .cons q r => .cons q (Reps.set h i r)
theorem Reps.one {B : Hp} {v d} (h : Rep B v d) : Reps B [v] [d] := .cons h .nil
theorem Reps.ints {B : Hp} : ∀ {ns : List Int} {vs}, Reps B vs (ns.map D.int) → vs = ns.map V.int
  | [], _, .nil => rfl
  | _ :: _, _, .cons h r => by
    cases h
    rw [Reps.ints r]
    rfl
theorem Reps.ofInts {B : Hp} : ∀ (ns : List Int), Reps B (ns.map V.int) (ns.map D.int)
  | [] => .nil
  | _ :: r => .cons .int (Reps.ofInts r)
theorem Reps.bls {B : Hp} : ∀ {ns : List Bool} {vs}, Reps B vs (ns.map D.bl) → vs = ns.map V.bl
  | [], _, .nil => rfl
  | _ :: _, _, .cons h r => by
    cases h
    rw [Reps.bls r]
    rfl
theorem Reps.strs {B : Hp} : ∀ {ns : List Str} {vs}, Reps B vs (ns.map D.str) → vs = ns.map V.str
  | [], _, .nil => rfl
  | _ :: _, _, .cons h r => by
    cases h
    rw [Reps.strs r]
    rfl

/-! ### cells -/
inductive Cell where
  | lst (l : List D) | dic (l : List (Int × D)) | ins (c : Addr) (fs : List (Str × D))
  /-- a def's table of code objects -/
  | tab (q : Str)
  /-- a dict with texts as keys -/
  | tdic (fs : List (Str × D))
  | ldic (o : Obj) (vs : List (Key × V)) (l : List (Int × D))
abbrev CH := Addr → Option Cell
def updC (C : CH) (a : Addr) (c : Cell) : CH := fun b => if b = a then some c else C b
def delC (C : CH) (a : Addr) : CH := fun b => if b = a then none else C b
theorem updC_same {C : CH} {a : Addr} {c : Cell} : updC C a c a = some c := by unfold updC; rw [if_pos rfl]
theorem updC_ne {C : CH} {a b : Addr} {c : Cell} (h : b ≠ a) : updC C a c b = C b := by unfold updC; rw [if_neg h]
theorem updC_updC {C : CH} {a : Addr} {c c' : Cell} : updC (updC C a c) a c' = updC C a c' := by
  funext b
  unfold updC
  by_cases h : b = a
  · simp [h]
  · simp [h]
theorem delC_updC {C : CH} {a : Addr} {c : Cell} (h : C a = none) : delC (updC C a c) a = C := by
  funext b
  unfold delC updC
  by_cases e : b = a
  · subst e; simp [h]
  · simp [e]
inductive RepO (B : Hp) : HO → Cell → Prop
  | lst {vs ds} : Reps B vs ds → RepO B (.lst vs) (.lst ds)
  | dic {vs ds} : RepK B vs ds → RepO B (.dK vs) (.dic ds)
  | ins {c dx fs gs} : RepF B fs gs → RepO B (.ins c dx fs) (.ins c gs)
  | tab {ps : Array Value} {q : Str} : TriplesOk ps.toList → (∀ (pos : Pos) (cv : Value), codeAmong pos ps.toList = some cv → ∃ c, cv = .ref c ∧ B c = some (LamX.CodeO c q)) → RepO B (.tbl ps) (.tab q)
  | tdic {fs : List (Str × V)} {gs : List (Str × D)} : RepF B fs gs → RepO B (.dK (fs.map fun p => (Sum.inr p.1, p.2))) (.tdic gs)
  | ldic {o : Obj} {vs : List (Key × V)} {l : List (Int × D)} : RepK B vs l → RepO B (.frz o (.dK vs)) (.ldic o vs l)
def keyT (fs : List (Str × V)) : List (Key × V) := fs.map fun p => (Sum.inr p.1, p.2)
theorem RepO.mono {B B' : Hp} (e : Same B B') {o c} (h : RepO B o c) : RepO B' o c := by
  cases h with
  | lst r => exact .lst (r.mono e)
  | dic r => exact .dic (r.mono e)
  | ins r => exact .ins (r.mono e)
  | tdic r => exact .tdic (r.mono e)
  | ldic r => exact .ldic (r.mono e)
  | tab h k => exact .tab h fun pos cv hc => (k pos cv hc).elim fun c ⟨h1, h2⟩ => ⟨c, h1, e _ _ h2⟩

structure Rel (B : Hp) (C : CH) (F H : Hp) : Prop where
  ex : Same B H
  fr : Same F H
  bf : ∀ a o, F a = some o → B a = none
  cf : ∀ a o, F a = some o → C a = none
  bc : ∀ a c, C a = some c → B a = none
  own : ∀ a c, C a = some c → ∃ o, H a = some o ∧ RepO B o c

theorem same_upd {B : Hp} {p : Addr} {o : HO} (h : B p = none) : Same B (upd B p o) := fun b u q => by
  rw [upd_ne (ne_of_none q h)]; exact q
section
variable {B F H : Hp} {C : CH} {p a : Addr} {o : HO} {c : Cell}
theorem Rel.noB (r : Rel B C F H) (h : H p = none) : B p = none := r.ex.free h
theorem Rel.noC (r : Rel B C F H) (h : H p = none) : C p = none := by
  cases e : C p with
  | none => rfl
  | some c =>
    obtain ⟨o, h1, _⟩ := r.own p c e
    rw [h] at h1
    cases h1
theorem Rel.noF (r : Rel B C F H) (h : H p = none) : F p = none := r.fr.free h
theorem Rel.new (r : Rel B C F H) (h : H p = none) : Rel (upd B p o) C F (upd H p o) where
  ex := fun b u q => by
    by_cases e : b = p
    · subst e; rw [upd_same] at q ⊢; exact q
    · rw [upd_ne e] at q ⊢; exact r.ex b u q
  fr := fun b u q => by
    rw [upd_ne (ne_of_none (r.fr b u q) h)]; exact r.fr b u q
  bf := fun b u q => by
    rw [upd_ne (ne_of_none q (r.noF h))]; exact r.bf b u q
  cf := r.cf
  bc := fun b u q => by
    have n : b ≠ p := fun e => by subst e; rw [r.noC h] at q; cases q
    rw [upd_ne n]; exact r.bc b u q
  own := fun b u q => by
    obtain ⟨o', h1, h2⟩ := r.own b u q
    exact ⟨o', by rw [upd_ne (ne_of_none h1 h)]; exact h1, h2.mono (same_upd (r.noB h))⟩
theorem Rel.newC (r : Rel B C F H) (h : H p = none) (k : RepO B o c) : Rel B (updC C p c) F (upd H p o) where
  ex := fun b u q => by rw [upd_ne (ne_of_none (r.ex b u q) h)]; exact r.ex b u q
  fr := fun b u q => by rw [upd_ne (ne_of_none (r.fr b u q) h)]; exact r.fr b u q
  bf := r.bf
  cf := fun b u q => by rw [updC_ne (ne_of_none q (r.noF h))]; exact r.cf b u q
  bc := fun b u q => by
    by_cases e : b = p
    · subst e; exact r.noB h
    · rw [updC_ne e] at q; exact r.bc b u q
  own := fun b u q => by
    by_cases e : b = p
    · subst e; rw [updC_same] at q; cases q; exact ⟨o, upd_same, k⟩
    · rw [updC_ne e] at q
      obtain ⟨o', h1, h2⟩ := r.own b u q
      exact ⟨o', by rw [upd_ne e]; exact h1, h2⟩
theorem Rel.write (r : Rel B C F H) {c0 : Cell} (h : C a = some c0) (k : RepO B o c) : Rel B (updC C a c) F (upd H a o) where
  ex := fun b u q => by
    have n : b ≠ a := fun e => by subst e; rw [r.bc b _ h] at q; cases q
    rw [upd_ne n]; exact r.ex b u q
  fr := fun b u q => by
    have n : b ≠ a := fun e => by subst e; rw [r.cf b _ q] at h; cases h
    rw [upd_ne n]; exact r.fr b u q
  bf := r.bf
  cf := fun b u q => by
    have n : b ≠ a := fun e => by subst e; rw [r.cf b _ q] at h; cases h
    rw [updC_ne n]; exact r.cf b u q
  bc := fun b u q => by
    by_cases e : b = a
    · subst e; exact r.bc b _ h
    · rw [updC_ne e] at q; exact r.bc b u q
  own := fun b u q => by
    by_cases e : b = a
    · subst e; rw [updC_same] at q; cases q; exact ⟨o, upd_same, k⟩
    · rw [updC_ne e] at q
      obtain ⟨o', h1, h2⟩ := r.own b u q
      exact ⟨o', by rw [upd_ne e]; exact h1, h2⟩
theorem Rel.freeze (r : Rel B C F H) (h : C a = some c) (k : H a = some o) : Rel (upd B a o) (delC C a) F H where
  ex := fun b u q => by
    by_cases e : b = a
    · subst e; rw [upd_same] at q; cases q; exact k
    · rw [upd_ne e] at q; exact r.ex b u q
  fr := r.fr
  bf := fun b u q => by
    have n : b ≠ a := fun e => by subst e; rw [r.cf b _ q] at h; cases h
    rw [upd_ne n]; exact r.bf b u q
  cf := fun b u q => by
    unfold delC
    split
    · rfl
    · exact r.cf b u q
  bc := fun b u q => by
    unfold delC at q
    split at q
    · cases q
    · rename_i n
      rw [upd_ne n]; exact r.bc b u q
  own := fun b u q => by
    unfold delC at q
    split at q
    · cases q
    · obtain ⟨o', h1, h2⟩ := r.own b u q
      exact ⟨o', h1, h2.mono (same_upd (r.bc a c h))⟩
/-- a cell that is not to be touched goes into the frame -/
theorem Rel.hide (r : Rel B C F H) (h : C a = some c) (k : H a = some o) : Rel B (delC C a) (upd F a o) H where
  ex := r.ex
  fr := fun b u q => by
    by_cases e : b = a
    · subst e; rw [upd_same] at q; cases q; exact k
    · rw [upd_ne e] at q; exact r.fr b u q
  bf := fun b u q => by
    by_cases e : b = a
    · subst e; exact r.bc b _ h
    · rw [upd_ne e] at q; exact r.bf b u q
  cf := fun b u q => by
    unfold delC
    by_cases e : b = a
    · rw [if_pos e]
    · rw [if_neg e]; rw [upd_ne e] at q; exact r.cf b u q
  bc := fun b u q => by
    unfold delC at q
    split at q
    · cases q
    · exact r.bc b u q
  own := fun b u q => by
    unfold delC at q
    split at q
    · cases q
    · exact r.own b u q
/-- a new object straight into the frame -/
theorem Rel.newF (r : Rel B C F H) (h : H p = none) : Rel B C (upd F p o) (upd H p o) where
  ex := fun b u q => by rw [upd_ne (ne_of_none (r.ex b u q) h)]; exact r.ex b u q
  fr := fun b u q => by
    by_cases e : b = p
    · subst e; rw [upd_same] at q ⊢; exact q
    · rw [upd_ne e] at q ⊢; exact r.fr b u q
  bf := fun b u q => by
    by_cases e : b = p
    · subst e; exact r.noB h
    · rw [upd_ne e] at q; exact r.bf b u q
  cf := fun b u q => by
    by_cases e : b = p
    · subst e; exact r.noC h
    · rw [upd_ne e] at q; exact r.cf b u q
  bc := r.bc
  own := fun b u q => by
    obtain ⟨o', h1, h2⟩ := r.own b u q
    exact ⟨o', by rw [upd_ne (ne_of_none h1 h)]; exact h1, h2⟩
/-- the frame's object at p changes -/
theorem Rel.writeF {o' : HO} (r : Rel B C (upd F p o) H) : Rel B C (upd F p o') (upd H p o') where
  ex := fun b u q => by
    have n : b ≠ p := fun e => by subst e; rw [r.bf b _ upd_same] at q; cases q
    rw [upd_ne n]; exact r.ex b u q
  fr := fun b u q => by
    by_cases e : b = p
    · subst e; rw [upd_same] at q ⊢; exact q
    · rw [upd_ne e] at q ⊢; exact r.fr b u (by rw [upd_ne e]; exact q)
  bf := fun b u q => by
    by_cases e : b = p
    · subst e; exact r.bf b _ upd_same
    · rw [upd_ne e] at q; exact r.bf b u (by rw [upd_ne e]; exact q)
  cf := fun b u q => by
    by_cases e : b = p
    · subst e; exact r.cf b _ upd_same
    · rw [upd_ne e] at q; exact r.cf b u (by rw [upd_ne e]; exact q)
  bc := r.bc
  own := fun b u q => by
    obtain ⟨o2, h1, h2⟩ := r.own b u q
    have n : b ≠ p := fun e => by subst e; rw [r.cf b _ upd_same] at q; cases q
    exact ⟨o2, by rw [upd_ne n]; exact h1, h2⟩
/-- the frame's object at p (new since F) is frozen -/
theorem Rel.freezeF (r : Rel B C (upd F p o) H) (hF : F p = none) : Rel (upd B p o) C F H where
  ex := fun b u q => by
    by_cases e : b = p
    · subst e; rw [upd_same] at q; cases q; exact r.fr b _ upd_same
    · rw [upd_ne e] at q; exact r.ex b u q
  fr := fun b u q => r.fr b u (by rw [upd_ne (ne_of_none q hF)]; exact q)
  bf := fun b u q => by
    have n := ne_of_none q hF
    rw [upd_ne n]; exact r.bf b u (by rw [upd_ne n]; exact q)
  cf := fun b u q => r.cf b u (by rw [upd_ne (ne_of_none q hF)]; exact q)
  bc := fun b u q => by
    have n : b ≠ p := fun e => by subst e; rw [r.cf b _ upd_same] at q; cases q
    rw [upd_ne n]; exact r.bc b u q
  own := fun b u q => by
    obtain ⟨o2, h1, h2⟩ := r.own b u q
    exact ⟨o2, h1, h2.mono (same_upd (r.bf p _ upd_same))⟩
/-- the frame's object at p (new since F) becomes a cell -/
theorem Rel.cellF (r : Rel B C (upd F p o) H) (hF : F p = none) (k : RepO B o c) : Rel B (updC C p c) F H where
  ex := r.ex
  fr := fun b u q => r.fr b u (by rw [upd_ne (ne_of_none q hF)]; exact q)
  bf := fun b u q => r.bf b u (by rw [upd_ne (ne_of_none q hF)]; exact q)
  cf := fun b u q => by
    have n := ne_of_none q hF
    rw [updC_ne n]; exact r.cf b u (by rw [upd_ne n]; exact q)
  bc := fun b u q => by
    by_cases e : b = p
    · subst e; exact r.bf b _ upd_same
    · rw [updC_ne e] at q; exact r.bc b u q
  own := fun b u q => by
    by_cases e : b = p
    · subst e; rw [updC_same] at q; cases q; exact ⟨o, r.fr b _ upd_same, k⟩
    · rw [updC_ne e] at q; exact r.own b u q
end

/-! ### the slots -/
abbrev EnvD := List (Option D)
structure RelE (B : Hp) (σ : St) (E : EnvD) : Prop where
  len : σ.length = E.length
  get : ∀ (i : Nat) (d : D), E[i]? = some (some d) → ∃ v, σ[i]? = some (some v) ∧ Rep B v d
theorem RelE.mono {B B' : Hp} {σ : St} {E : EnvD} (e : Same B B') (r : RelE B σ E) : RelE B' σ E :=
  ⟨r.len, fun i d h => by obtain ⟨v, h1, h2⟩ := r.get i d h; exact ⟨v, h1, h2.mono e⟩⟩
theorem RelE.set {B : Hp} {σ : St} {E : EnvD} {v : V} {d : D} (r : RelE B σ E) (i : Nat) (h : Rep B v d) : RelE B (σ.set i (some v)) (E.set i (some d)) := by
  refine ⟨by rw [List.length_set, List.length_set, r.len], fun j x e => ?_⟩
  by_cases ij : i = j
  · subst ij
    by_cases hl : i < E.length
    · rw [List.getElem?_set_self hl] at e
      cases e
      exact ⟨v, List.getElem?_set_self (by rw [r.len]; exact hl), h⟩
    · rw [List.getElem?_eq_none (by rw [List.length_set]; omega)] at e
      cases e
  · rw [List.getElem?_set_ne ij] at e ⊢
    exact r.get j x e
theorem RelE.unset {B : Hp} {σ : St} {E : EnvD} (r : RelE B σ E) (i : Nat) : RelE B (σ.set i none) (E.set i none) := by
  refine ⟨by rw [List.length_set, List.length_set, r.len], fun j x e => ?_⟩
  by_cases ij : i = j
  · subst ij
    by_cases hl : i < E.length
    · rw [List.getElem?_set_self hl] at e; cases e
    · rw [List.getElem?_eq_none (by rw [List.length_set]; omega)] at e; cases e
  · rw [List.getElem?_set_ne ij] at e ⊢
    exact r.get j x e
/-- fewer slots told -/
theorem RelE.less {B : Hp} {σ : St} {E E' : EnvD} (r : RelE B σ E) (hl : E'.length = E.length) (h : ∀ (i : Nat) (d : D), E'[i]? = some (some d) → E[i]? = some (some d)) : RelE B σ E' :=
  ⟨by rw [r.len, hl], fun i d e => r.get i d (h i d e)⟩
def startD (n : Nat) (ds : List D) : EnvD := ds.map some ++ List.replicate (n - ds.length) none
theorem RelE.begin {B : Hp} {N : List Str} {vs : List V} {ds : List D} (h : Reps B vs ds) : RelE B (L2.start N vs) (startD N.length ds) := by
  have hl := h.length
  refine ⟨by simp [L2.start, startD, hl], fun i d e => ?_⟩
  unfold startD at e
  unfold L2.start
  by_cases hi : i < ds.length
  · rw [List.getElem?_append_left (by simpa using hi), List.getElem?_map] at e
    cases q : ds[i]? with
    | none => rw [q] at e; cases e
    | some x =>
      rw [q] at e
      have ex : x = d := by simpa using e
      subst ex
      obtain ⟨v, h1, h2⟩ := h.get q
      exact ⟨v, by rw [List.getElem?_append_left (by simpa [hl] using hi), List.getElem?_map, h1]; rfl, h2⟩
  · rw [List.getElem?_append_right (by simp; omega), List.getElem?_replicate] at e
    split at e <;> cases e

/-! ### the judgements -/
/-- the ground: what is frozen already, and what of others must stand -/
structure Gr where
  b : Hp
  f : Hp
def Sb (g : Gr) (B F : Hp) : Prop := Same g.b B ∧ Same g.f F
theorem Sb.trans {g : Gr} {B B' F : Hp} (h : Sb g B F) (e : Same B B') : Sb g B' F := ⟨h.1.trans e, h.2⟩
theorem Sb.grow {g : Gr} {B F F' : Hp} (h : Sb g B F) (e : Same F F') : Sb g B F' := ⟨h.1, h.2.trans e⟩
theorem Sb.refl (B F : Hp) : Sb ⟨B, F⟩ B F := ⟨Same.refl B, Same.refl F⟩
theorem Rel.less {B F F' H : Hp} {C : CH} (r : Rel B C F' H) (s : Same F F') : Rel B C F H := ⟨r.ex, s.trans r.fr, fun a o h => r.bf a o (s a o h), fun a o h => r.cf a o (s a o h), r.bc, r.own⟩
def W (B0 : Gr) (te : TE) (E : EnvD) (C : CH) (P : D → CH → Prop) : Prop :=
  ∀ (B F : Hp) (σ : St) (H : Hp), Sb B0 B F → Rel B C F H → RelE B σ E → ∀ Q : VK,
    (∀ v d B' C' H', Same B B' → Rel B' C' F H' → Rep B' v d → P d C' → Q v H') → te σ H Q
def WT (B0 : Gr) (tt : TT) (E : EnvD) (C : CH) (P : Bool → CH → Prop) : Prop :=
  ∀ (B F : Hp) (σ : St) (H : Hp), Sb B0 B F → Rel B C F H → RelE B σ E → ∀ Q : Bool → Hp → Prop,
    (∀ b B' C' H', Same B B' → Rel B' C' F H' → P b C' → Q b H') → tt σ H Q
def WA (B0 : Gr) (ta : TA) (E : EnvD) (C : CH) (P : List D → CH → Prop) : Prop :=
  ∀ (B F : Hp) (σ : St) (H : Hp), Sb B0 B F → Rel B C F H → RelE B σ E → ∀ Q : List V → Hp → Prop,
    (∀ vs ds B' C' H', Same B B' → Rel B' C' F H' → Reps B' vs ds → P ds C' → Q vs H') → ta σ H Q
def WR (B0 : Gr) (r : R2) (x y : D) (C : CH) (P : D → CH → Prop) : Prop :=
  ∀ (B F H : Hp) (vx vy : V), Sb B0 B F → Rel B C F H → Rep B vx x → Rep B vy y → ∀ Q : VK,
    (∀ v d B' C' H', Same B B' → Rel B' C' F H' → Rep B' v d → P d C' → Q v H') → r vx vy H Q
def WU (B0 : Gr) (r : V → Hp → VK → Prop) (x : D) (C : CH) (P : D → CH → Prop) : Prop :=
  ∀ (B F H : Hp) (vx : V), Sb B0 B F → Rel B C F H → Rep B vx x → ∀ Q : VK,
    (∀ v d B' C' H', Same B B' → Rel B' C' F H' → Rep B' v d → P d C' → Q v H') → r vx H Q
def WC (B0 : Gr) (r : List V → Hp → VK → Prop) (ds : List D) (C : CH) (P : D → CH → Prop) : Prop :=
  ∀ (B F H : Hp) (vs : List V), Sb B0 B F → Rel B C F H → Reps B vs ds → ∀ Q : VK,
    (∀ v d B' C' H', Same B B' → Rel B' C' F H' → Rep B' v d → P d C' → Q v H') → r vs H Q
def WG (B0 : Gr) (g : TG) (d : D) (E : EnvD) (C : CH) (N : EnvD → CH → Prop) : Prop :=
  ∀ (B F : Hp) (σ : St) (H : Hp) (v : V), Sb B0 B F → Rel B C F H → RelE B σ E → Rep B v d → ∀ Q : St → Hp → Prop,
    (∀ σ' E' B' C' H', Same B B' → Rel B' C' F H' → RelE B' σ' E' → N E' C' → Q σ' H') → g v σ H Q
def WGs (B0 : Gr) (g : TGs) (ds : List D) (E : EnvD) (C : CH) (N : EnvD → CH → Prop) : Prop :=
  ∀ (B F : Hp) (σ : St) (H : Hp) (vs : List V), Sb B0 B F → Rel B C F H → RelE B σ E → Reps B vs ds → ∀ Q : St → Hp → Prop,
    (∀ σ' E' B' C' H', Same B B' → Rel B' C' F H' → RelE B' σ' E' → N E' C' → Q σ' H') → g vs σ H Q
structure EndD where
  nx : EnvD → CH → Prop
  rt : D → CH → Prop
  bk : EnvD → CH → Prop := fun _ _ => False
  ct : EnvD → CH → Prop := fun _ _ => False
structure EOk (B F : Hp) (Dn : Ends) (D : EndD) : Prop where
  nx : ∀ σ' E' B' C' H', Same B B' → Rel B' C' F H' → RelE B' σ' E' → D.nx E' C' → Dn.nx σ' H'
  rt : ∀ v d B' C' H', Same B B' → Rel B' C' F H' → Rep B' v d → D.rt d C' → Dn.rt v H'
  bk : ∀ σ' E' B' C' H', Same B B' → Rel B' C' F H' → RelE B' σ' E' → D.bk E' C' → Dn.bk σ' H'
  ct : ∀ σ' E' B' C' H', Same B B' → Rel B' C' F H' → RelE B' σ' E' → D.ct E' C' → Dn.ct σ' H'
theorem EOk.mono {B B1 F : Hp} {Dn : Ends} {D : EndD} (o : EOk B F Dn D) (e : Same B B1) : EOk B1 F Dn D :=
  ⟨fun σ' E' B' C' H' s => o.nx σ' E' B' C' H' (e.trans s), fun v d B' C' H' s => o.rt v d B' C' H' (e.trans s),
   fun σ' E' B' C' H' s => o.bk σ' E' B' C' H' (e.trans s), fun σ' E' B' C' H' s => o.ct σ' E' B' C' H' (e.trans s)⟩
def WS (B0 : Gr) (t : TS) (E : EnvD) (C : CH) (D : EndD) : Prop :=
  ∀ (B F : Hp) (σ : St) (H : Hp), Sb B0 B F → Rel B C F H → RelE B σ E → ∀ Dn : Ends, EOk B F Dn D → t Dn σ H

section
variable {B0 : Gr} {te ta tb : TE} {t u tt tu : TT} {tA : TA} {E : EnvD} {C : CH} {P : D → CH → Prop} {PB : Bool → CH → Prop} {PA' : List D → CH → Prop} {x y d : D} {r : R2}

theorem W.imp {P' : D → CH → Prop} (h : W B0 te E C P) (k : ∀ d C, P d C → P' d C) : W B0 te E C P' :=
  fun B F σ H sb rl re Q q => h B F σ H sb rl re Q fun v d B' C' H' e r' rp p => q v d B' C' H' e r' rp (k d C' p)
theorem WS.imp {t : TS} {D D' : EndD} (h : WS B0 t E C D) (k1 : ∀ E C, D.nx E C → D'.nx E C) (k2 : ∀ d C, D.rt d C → D'.rt d C) (k3 : ∀ E C, D.bk E C → D'.bk E C) (k4 : ∀ E C, D.ct E C → D'.ct E C) : WS B0 t E C D' :=
  fun B F σ H sb rl re Dn ok => h B F σ H sb rl re Dn
    ⟨fun σ' E' B' C' H' e r' re' n => ok.nx σ' E' B' C' H' e r' re' (k1 _ _ n), fun v d B' C' H' e r' rp p => ok.rt v d B' C' H' e r' rp (k2 _ _ p),
     fun σ' E' B' C' H' e r' re' n => ok.bk σ' E' B' C' H' e r' re' (k3 _ _ n), fun σ' E' B' C' H' e r' re' n => ok.ct σ' E' B' C' H' e r' re' (k4 _ _ n)⟩

/-! ### expressions -/
theorem w_var {i : Nat} (h : E[i]? = some (some d)) (k : P d C) : W B0 (tVar i) E C P := fun B F σ H _ rl re Q q => by
  obtain ⟨v, h1, h2⟩ := re.get i d h
  exact ⟨v, h1, q v d B C H (Same.refl B) rl h2 k⟩
theorem w_int {i : Int} (k : P (.int i) C) : W B0 (tC (.int i)) E C P := fun B _ _ H _ rl _ _ q => q _ _ B C H (Same.refl B) rl .int k
theorem w_bl {i : Bool} (k : P (.bl i) C) : W B0 (tC (.bl i)) E C P := fun B _ _ H _ rl _ _ q => q _ _ B C H (Same.refl B) rl .bl k
theorem w_str {i : Str} (k : P (.str i) C) : W B0 (tC (.str i)) E C P := fun B _ _ H _ rl _ _ q => q _ _ B C H (Same.refl B) rl .str k
theorem w_non (k : P .non C) : W B0 (tC .non) E C P := fun B _ _ H _ rl _ _ q => q _ _ B C H (Same.refl B) rl .non k
theorem w_ref {a : Addr} (k : P (.ref a) C) : W B0 (tC (.ref a)) E C P := fun B _ _ H _ rl _ _ q => q _ _ B C H (Same.refl B) rl .ref k
theorem w_ty {n : String} (k : P (.ty n) C) : W B0 (tC (.ty n)) E C P := fun B _ _ H _ rl _ _ q => q _ _ B C H (Same.refl B) rl .ty k
theorem w_op (h : W B0 ta E C fun x C1 => W B0 tb E C1 fun y C2 => WR B0 r x y C2 P) : W B0 (tOp r ta tb) E C P := fun B F σ H sb rl re Q q =>
  h B F σ H sb rl re _ fun v1 d1 B1 C1 H1 e1 rl1 rp1 h1 =>
    h1 B1 F σ H1 (sb.trans e1) rl1 (re.mono e1) _ fun v2 d2 B2 C2 H2 e2 rl2 rp2 h2 =>
      h2 B2 F H2 v1 v2 ((sb.trans e1).trans e2) rl2 (rp1.mono e2) rp2 Q fun v d B3 C3 H3 e3 rl3 rp3 p => q v d B3 C3 H3 ((e1.trans e2).trans e3) rl3 rp3 p
theorem w_un {r : V → Hp → VK → Prop} (h : W B0 ta E C fun x C1 => WU B0 r x C1 P) : W B0 (tUn r ta) E C P := fun B F σ H sb rl re Q q =>
  h B F σ H sb rl re _ fun v1 d1 B1 C1 H1 e1 rl1 rp1 h1 => h1 B1 F H1 v1 (sb.trans e1) rl1 rp1 Q fun v d B3 C3 H3 e3 rl3 rp3 p => q v d B3 C3 H3 (e1.trans e3) rl3 rp3 p
theorem w_cb {r : List V → Hp → VK → Prop} (h : WA B0 tA E C fun ds C1 => WC B0 r ds C1 P) : W B0 (tCB r tA) E C P := fun B F σ H sb rl re Q q =>
  h B F σ H sb rl re _ fun v1 d1 B1 C1 H1 e1 rl1 rp1 h1 => h1 B1 F H1 v1 (sb.trans e1) rl1 rp1 Q fun v d B3 C3 H3 e3 rl3 rp3 p => q v d B3 C3 H3 (e1.trans e3) rl3 rp3 p
theorem wa_nil (k : PA' [] C) : WA B0 tNil E C PA' := fun B _ _ H _ rl _ _ q => q _ _ B C H (Same.refl B) rl .nil k
theorem wa_cons (h : W B0 ta E C fun x C1 => WA B0 tA E C1 fun xs C2 => PA' (x :: xs) C2) : WA B0 (tCons ta tA) E C PA' := fun B F σ H sb rl re Q q =>
  h B F σ H sb rl re _ fun v1 d1 B1 C1 H1 e1 rl1 rp1 h1 => h1 B1 F σ H1 (sb.trans e1) rl1 (re.mono e1) _ fun vs ds B3 C3 H3 e3 rl3 rp3 p => q _ _ B3 C3 H3 (e1.trans e3) rl3 (.cons (rp1.mono e3) rp3) p
theorem w_tup (h : WA B0 tA E C fun ds C1 => ds.length ≤ 100000 ∧ P (.tup ds) C1) : W B0 (tTup tA) E C P := fun B F σ H sb rl re Q q =>
  h B F σ H sb rl re _ fun vs ds B1 C1 H1 e1 rl1 rp1 ⟨hl, p⟩ => ⟨by rw [rp1.length]; exact Nat.le_trans hl (by decide), fun a ha => by
    have s := same_upd (o := .tup vs) (rl1.noB ha)
    exact q _ _ _ C1 _ (e1.trans s) (rl1.new ha) (.tup upd_same (rp1.mono s)) p⟩
theorem w_lst (h : WA B0 tA E C fun ds C1 => ds.length ≤ 100000 ∧ P (.lst ds) C1) : W B0 (tLst tA) E C P := fun B F σ H sb rl re Q q =>
  h B F σ H sb rl re _ fun vs ds B1 C1 H1 e1 rl1 rp1 ⟨hl, p⟩ => ⟨by rw [rp1.length]; exact Nat.le_trans hl (by decide), fun a ha => by
    have s := same_upd (o := .lst vs) (rl1.noB ha)
    exact q _ _ _ C1 _ (e1.trans s) (rl1.new ha) (.lst upd_same (rp1.mono s)) p⟩
/-- a list that is to change: a cell -/
theorem w_lstC (h : WA B0 tA E C fun ds C1 => ds.length ≤ 100000 ∧ ∀ a, C1 a = none → P (.ref a) (updC C1 a (.lst ds))) : W B0 (tLst tA) E C P := fun B F σ H sb rl re Q q =>
  h B F σ H sb rl re _ fun vs ds B1 C1 H1 e1 rl1 rp1 ⟨hl, p⟩ => ⟨by rw [rp1.length]; exact Nat.le_trans hl (by decide), fun a ha =>
    q _ _ B1 _ _ e1 (rl1.newC ha (.lst rp1)) .ref (p a (rl1.noC ha))⟩
theorem w_ifExp (h : WT B0 t E C fun b C1 => (b = true → W B0 ta E C1 P) ∧ (b = false → W B0 tb E C1 P)) : W B0 (tIf t ta tb) E C P := fun B F σ H sb rl re Q q =>
  h B F σ H sb rl re _ fun b B1 C1 H1 e1 rl1 p => by
    cases b with
    | true => exact p.1 rfl B1 F σ H1 (sb.trans e1) rl1 (re.mono e1) Q fun v d B3 C3 H3 e3 => q v d B3 C3 H3 (e1.trans e3)
    | false => exact p.2 rfl B1 F σ H1 (sb.trans e1) rl1 (re.mono e1) Q fun v d B3 C3 H3 e3 => q v d B3 C3 H3 (e1.trans e3)
theorem w_andV (h : W B0 ta E C fun x C1 => ∃ b, x = .bl b ∧ (b = true → W B0 tb E C1 P) ∧ (b = false → P (.bl false) C1)) : W B0 (tAndV ta tb) E C P := fun B F σ H sb rl re Q q =>
  h B F σ H sb rl re _ fun v d B1 C1 H1 e1 rl1 rp ⟨b, hb, p1, p2⟩ => by
    subst hb
    cases rp
    refine ⟨b, rfl, ?_⟩
    cases b with
    | true => exact p1 rfl B1 F σ H1 (sb.trans e1) rl1 (re.mono e1) Q fun v d B3 C3 H3 e3 => q v d B3 C3 H3 (e1.trans e3)
    | false => exact q _ _ B1 C1 H1 e1 rl1 .bl (p2 rfl)
theorem w_orV (h : W B0 ta E C fun x C1 => ∃ b, x = .bl b ∧ (b = true → P (.bl true) C1) ∧ (b = false → W B0 tb E C1 P)) : W B0 (tOrV ta tb) E C P := fun B F σ H sb rl re Q q =>
  h B F σ H sb rl re _ fun v d B1 C1 H1 e1 rl1 rp ⟨b, hb, p1, p2⟩ => by
    subst hb
    cases rp
    refine ⟨b, rfl, ?_⟩
    cases b with
    | true => exact q _ _ B1 C1 H1 e1 rl1 .bl (p1 rfl)
    | false => exact p2 rfl B1 F σ H1 (sb.trans e1) rl1 (re.mono e1) Q fun v d B3 C3 H3 e3 => q v d B3 C3 H3 (e1.trans e3)
theorem w_notV (h : W B0 ta E C fun x C1 => ∃ b, x = .bl b ∧ P (.bl (!b)) C1) : W B0 (tNotV ta) E C P := fun B F σ H sb rl re Q q =>
  h B F σ H sb rl re _ fun v d B1 C1 H1 e1 rl1 rp ⟨b, hb, p1⟩ => by
    subst hb
    cases rp
    exact ⟨b, rfl, q _ _ B1 C1 H1 e1 rl1 .bl p1⟩

/-! ### tests -/
theorem wt_test (h : W B0 te E C fun x C1 => ∃ b, x = .bl b ∧ PB b C1) : WT B0 (tTest te) E C PB := fun B F σ H sb rl re Q q =>
  h B F σ H sb rl re _ fun v d B1 C1 H1 e1 rl1 rp ⟨b, hb, p1⟩ => by
    subst hb
    cases rp
    exact ⟨b, rfl, q _ B1 C1 H1 e1 rl1 p1⟩
theorem wt_B (h : W B0 te E C fun x C1 => ∃ b, x = .bl b ∧ PB b C1) : WT B0 (tB te) E C PB := fun B F σ H sb rl re Q q =>
  h B F σ H sb rl re _ fun v d B1 C1 H1 e1 rl1 rp ⟨b, hb, p1⟩ => by
    subst hb
    cases rp
    exact ⟨b, rfl, q _ B1 C1 H1 e1 rl1 p1⟩
theorem wt_and (h : WT B0 t E C fun b C1 => (b = true → WT B0 u E C1 PB) ∧ (b = false → PB false C1)) : WT B0 (tAnd t u) E C PB := fun B F σ H sb rl re Q q =>
  h B F σ H sb rl re _ fun b B1 C1 H1 e1 rl1 p => by
    cases b with
    | true => exact p.1 rfl B1 F σ H1 (sb.trans e1) rl1 (re.mono e1) Q fun b B3 C3 H3 e3 => q b B3 C3 H3 (e1.trans e3)
    | false => exact q _ B1 C1 H1 e1 rl1 (p.2 rfl)
theorem wt_or (h : WT B0 t E C fun b C1 => (b = true → PB true C1) ∧ (b = false → WT B0 u E C1 PB)) : WT B0 (tOr t u) E C PB := fun B F σ H sb rl re Q q =>
  h B F σ H sb rl re _ fun b B1 C1 H1 e1 rl1 p => by
    cases b with
    | true => exact q _ B1 C1 H1 e1 rl1 (p.1 rfl)
    | false => exact p.2 rfl B1 F σ H1 (sb.trans e1) rl1 (re.mono e1) Q fun b B3 C3 H3 e3 => q b B3 C3 H3 (e1.trans e3)
theorem wt_not (h : WT B0 t E C fun b C1 => PB (!b) C1) : WT B0 (tNot t) E C PB := fun B F σ H sb rl re Q q =>
  h B F σ H sb rl re _ fun b B1 C1 H1 e1 rl1 p => q _ B1 C1 H1 e1 rl1 p
/-- a value's truth -/
def TruD (C : CH) : D → Option Bool
  | .non => some false
  | .bl b => some b
  | .int i => some (i != 0)
  | .tup l => some (!l.isEmpty)
  | .lst l => some (!l.isEmpty)
  | .dic l => some (!l.isEmpty)
  | .str x => if x.length ≤ 1000000 then some ((x.length : Int) != 0) else none
  | .ty _ => none
  | .fn _ _ => none
  | .dicR _ => none
  | .dicL _ _ => none
  | .ref a => match C a with
    | some (.lst l) => some (!l.isEmpty)
    | some (.dic l) => some (!l.isEmpty)
    | _ => none
theorem reps_emp {B : Hp} {vs : List V} {ds : List D} (h : Reps B vs ds) : (!ds.isEmpty) = !vs.isEmpty := by cases h <;> rfl
theorem repk_emp {B : Hp} {vs : List (Key × V)} {ds : List (Int × D)} (h : RepK B vs ds) : (!ds.isEmpty) = !vs.isEmpty := by cases h <;> rfl
theorem truD_ok {B F H : Hp} {C : CH} {K : PySem.W.Frag} {v : V} {d : D} {b : Bool} (rl : Rel B C F H) (h : Rep B v d) (e : TruD C d = some b) : TruV K v H b := by
  cases h with
  | non => cases e; rfl
  | bl => cases e; rfl
  | int => cases e; rfl
  | fn _ _ => cases e
  | ty => cases e
  | @str x =>
    have e : (if x.length ≤ 1000000 then some ((x.length : Int) != 0) else none) = some b := e
    by_cases hl : x.length ≤ 1000000
    · rw [if_pos hl] at e
      cases e
      exact ⟨Nat.le_trans hl (by decide : 1000000 ≤ sizeLine), rfl⟩
    · rw [if_neg hl] at e
      cases e
  | tup h r => cases e; exact .inr (.inl ⟨_, SqT.of (rl.ex _ _ h), reps_emp r⟩)
  | lst h r => cases e; exact .inl ⟨_, SqL.of (rl.ex _ _ h), reps_emp r⟩
  | dic h r => cases e; exact .inr (.inr ⟨_, rl.ex _ _ h, repk_emp r⟩)
  | dicR h r => cases e
  | dicL h r => cases e
  | @ref a =>
    have e : (match C a with
      | some (.lst l) => some (!l.isEmpty)
      | some (.dic l) => some (!l.isEmpty)
      | _ => none) = some b := e
    split at e
    · rename_i l hc
      cases e
      obtain ⟨o, h1, h2⟩ := rl.own _ _ hc
      cases h2 with
      | lst r => exact .inl ⟨_, SqL.of h1, reps_emp r⟩
    · rename_i l hc
      cases e
      obtain ⟨o, h1, h2⟩ := rl.own _ _ hc
      cases h2 with
      | dic r => exact .inr (.inr ⟨_, h1, repk_emp r⟩)
    · cases e
/-- a test that is a value's truth, named -/
def tTruth (K : PySem.W.Frag) (ta : TE) : TT := fun σ H Q => ta σ H fun x H' => ∃ k, TruV K x H' k ∧ Q k H'
theorem wt_truth {K : PySem.W.Frag} (h : W B0 te E C fun x C1 => ∃ b, TruD C1 x = some b ∧ PB b C1) : WT B0 (tTruth K te) E C PB := fun B F σ H sb rl re Q q =>
  h B F σ H sb rl re _ fun v d B1 C1 H1 e1 rl1 rp ⟨b, hb, p1⟩ => ⟨b, truD_ok rl1 rp hb, q _ B1 C1 H1 e1 rl1 p1⟩

/-! ### targets -/
variable {N : EnvD → CH → Prop}
theorem wg_name {i : Nat} (k : N (E.set i (some d)) C) : WG B0 (gName i) d E C N := fun B F σ H v _ rl re rp Q q => q _ _ B C H (Same.refl B) rl (re.set i rp) k
theorem wgs_nil (k : N E C) : WGs B0 gNil [] E C N := fun B F σ H vs _ rl re rp Q q => by
  cases rp
  exact ⟨rfl, q _ _ B C H (Same.refl B) rl re k⟩
theorem wgs_cons {g : TG} {gs : TGs} {ds : List D} (h : WG B0 g d E C fun E1 C1 => WGs B0 gs ds E1 C1 N) : WGs B0 (gCons g gs) (d :: ds) E C N := fun B F σ H vs sb rl re rp Q q => by
  cases rp with
  | cons h1 r =>
    exact ⟨_, _, rfl, h B F σ H _ sb rl re h1 _ fun σ1 E1 B1 C1 H1 e1 rl1 re1 n1 => n1 B1 F σ1 H1 _ (sb.trans e1) rl1 re1 (r.mono e1) Q fun σ' E' B' C' H' e => q σ' E' B' C' H' (e1.trans e)⟩
theorem wg_tup {K : PySem.W.Frag} {n : Nat} {gs : TGs} {ds : List D} (hl : ds.length = n) (h : WGs B0 gs ds E C N) : WG B0 (gTup K n gs) (.tup ds) E C N := fun B F σ H v sb rl re rp Q q => by
  cases rp with
  | tup ha r => exact ⟨_, _, rfl, SqT.of (rl.ex _ _ ha), by rw [r.length]; exact hl, h B F σ H _ sb rl re r Q q⟩

/-! ### statements -/
variable {D1 : EndD} {s1 s2 : TS}
theorem ws_next (k : D1.nx E C) : WS B0 tNext E C D1 := fun B F σ H _ rl re Dn ok => ok.nx σ E B C H (Same.refl B) rl re k
theorem ws_break (k : D1.bk E C) : WS B0 tBreak E C D1 := fun B F σ H _ rl re Dn ok => ok.bk σ E B C H (Same.refl B) rl re k
theorem ws_cont (k : D1.ct E C) : WS B0 tCont E C D1 := fun B F σ H _ rl re Dn ok => ok.ct σ E B C H (Same.refl B) rl re k
theorem ws_seq (h : WS B0 s1 E C { D1 with nx := fun E1 C1 => WS B0 s2 E1 C1 D1 }) : WS B0 (tSeq s1 s2) E C D1 := fun B F σ H sb rl re Dn ok =>
  h B F σ H sb rl re _ ⟨fun σ' E' B' C' H' e rl' re' n => n B' F σ' H' (sb.trans e) rl' re' Dn (ok.mono e), ok.rt, ok.bk, ok.ct⟩
theorem ws_asg {g : TG} (h : W B0 te E C fun d C1 => WG B0 g d E C1 D1.nx) : WS B0 (tAsg te g) E C D1 := fun B F σ H sb rl re Dn ok =>
  h B F σ H sb rl re _ fun v d B1 C1 H1 e1 rl1 rp n => n B1 F σ H1 v (sb.trans e1) rl1 (re.mono e1) rp _ fun σ' E' B' C' H' e rl' re' k => ok.nx σ' E' B' C' H' (e1.trans e) rl' re' k
theorem ws_set {i : Nat} (h : W B0 te E C fun d C1 => D1.nx (E.set i (some d)) C1) : WS B0 (tAsg te (gName i)) E C D1 := ws_asg (h.imp fun _ _ k => wg_name k)
theorem ws_drop (h : W B0 te E C fun _ C1 => D1.nx E C1) : WS B0 (tDrop te) E C D1 := fun B F σ H sb rl re Dn ok =>
  h B F σ H sb rl re _ fun v d B1 C1 H1 e1 rl1 rp n => ok.nx σ E B1 C1 H1 e1 rl1 (re.mono e1) n
theorem ws_ret (h : W B0 te E C D1.rt) : WS B0 (tRet te) E C D1 := fun B F σ H sb rl re Dn ok =>
  h B F σ H sb rl re _ fun v d B1 C1 H1 e1 rl1 rp n => ok.rt v d B1 C1 H1 e1 rl1 rp n
theorem ws_retN (h : D1.rt .non C) : WS B0 tRetN E C D1 := fun B F σ H sb rl re Dn ok => ok.rt .non .non B C H (Same.refl B) rl .non h
theorem ws_if {c : TT} (h : WT B0 c E C fun b C1 => (b = true → WS B0 s1 E C1 D1) ∧ (b = false → WS B0 s2 E C1 D1)) : WS B0 (tIfS c s1 s2) E C D1 := fun B F σ H sb rl re Dn ok =>
  h B F σ H sb rl re _ fun b B1 C1 H1 e1 rl1 p => by
    cases b with
    | true => exact p.1 rfl B1 F σ H1 (sb.trans e1) rl1 (re.mono e1) Dn (ok.mono e1)
    | false => exact p.2 rfl B1 F σ H1 (sb.trans e1) rl1 (re.mono e1) Dn (ok.mono e1)
theorem ws_aug {i : Nat} {ti : TIp} (hx : E[i]? = some (some x)) (h : W B0 te E C fun y C1 => WR B0 (fun a b H Q => ti a b H Q) x y C1 fun z C2 => D1.nx (E.set i (some z)) C2) : WS B0 (tAug i te ti) E C D1 := fun B F σ H sb rl re Dn ok => by
  obtain ⟨v, h1, h2⟩ := re.get i x hx
  exact ⟨v, h1, h B F σ H sb rl re _ fun w d B1 C1 H1 e1 rl1 rp n => n B1 F H1 v w (sb.trans e1) rl1 (h2.mono e1) rp _ fun z d' B2 C2 H2 e2 rl2 rp2 k =>
    ok.nx _ _ B2 C2 H2 (e1.trans e2) rl2 ((re.mono (e1.trans e2)).set i rp2) k⟩
theorem ws_never (h : False) : WS B0 tNever E C D1 := h.elim
end
end Dv

set_option maxRecDepth 100000
set_option maxHeartbeats 1000000
/-! Operations by values, loops, comprehensions, calls. -/
namespace Dv
open PySem L2

/-! ### reading what stands there -/
section
variable {B F H : Hp} {C : CH} {K : PySem.W.Frag} {v : V} {d : D} {ds : List D} {ks : List (Int × D)}
/-- d is a list or a tuple of ds (frozen, or a list in a cell) -/
inductive SeqD (C : CH) : D → List D → Prop
  | lst {ds : List D} : SeqD C (.lst ds) ds
  | tup {ds : List D} : SeqD C (.tup ds) ds
  | cell {a : Addr} {ds : List D} : C a = some (.lst ds) → SeqD C (.ref a) ds
inductive LstD (C : CH) : D → List D → Prop
  | lst {ds : List D} : LstD C (.lst ds) ds
  | cell {a : Addr} {ds : List D} : C a = some (.lst ds) → LstD C (.ref a) ds
theorem lstD_rd (rl : Rel B C F H) (h : Rep B v d) (s : LstD C d ds) : ∃ a vs, v = .ref a ∧ H a = some (.lst vs) ∧ Reps B vs ds := by
  cases s with
  | lst => cases h with | lst h r => exact ⟨_, _, rfl, rl.ex _ _ h, r⟩
  | cell hc =>
    cases h
    obtain ⟨o, h1, h2⟩ := rl.own _ _ hc
    cases h2 with | lst r => exact ⟨_, _, rfl, h1, r⟩
theorem tupD_rd (rl : Rel B C F H) (h : Rep B v (.tup ds)) : ∃ a vs, v = .ref a ∧ H a = some (.tup vs) ∧ Reps B vs ds := by
  cases h with | tup h r => exact ⟨_, _, rfl, rl.ex _ _ h, r⟩
theorem seqD_rd (rl : Rel B C F H) (h : Rep B v d) (s : SeqD C d ds) : ∃ a vs, v = .ref a ∧ (SqL K H a vs ∨ SqT K H a vs) ∧ Reps B vs ds := by
  cases s with
  | lst => obtain ⟨a, vs, e, h1, r⟩ := lstD_rd rl h .lst; exact ⟨a, vs, e, .inl (SqL.of h1), r⟩
  | tup => obtain ⟨a, vs, e, h1, r⟩ := tupD_rd rl h; exact ⟨a, vs, e, .inr (SqT.of h1), r⟩
  | cell hc => obtain ⟨a, vs, e, h1, r⟩ := lstD_rd rl h (.cell hc); exact ⟨a, vs, e, .inl (SqL.of h1), r⟩
theorem seqD_rd' (rl : Rel B C F H) (h : Rep B v d) (s : SeqD C d ds) : ∃ a vs, v = .ref a ∧ (H a = some (.lst vs) ∨ H a = some (.tup vs)) ∧ Reps B vs ds := by
  cases s with
  | lst => obtain ⟨a, vs, e, h1, r⟩ := lstD_rd rl h .lst; exact ⟨a, vs, e, .inl h1, r⟩
  | tup => obtain ⟨a, vs, e, h1, r⟩ := tupD_rd rl h; exact ⟨a, vs, e, .inr h1, r⟩
  | cell hc => obtain ⟨a, vs, e, h1, r⟩ := lstD_rd rl h (.cell hc); exact ⟨a, vs, e, .inl h1, r⟩
/-- a dict: frozen or a cell -/
inductive DicD (C : CH) : D → List (Int × D) → Prop
  | dic {ks : List (Int × D)} : DicD C (.dic ks) ks
  | cell {a : Addr} {ks : List (Int × D)} : C a = some (.dic ks) → DicD C (.ref a) ks
theorem dicD_rd (rl : Rel B C F H) (h : Rep B v d) (s : DicD C d ks) : ∃ a vs, v = .ref a ∧ H a = some (.dK vs) ∧ RepK B vs ks := by
  cases s with
  | dic => cases h with | dic h r => exact ⟨_, _, rfl, rl.ex _ _ h, r⟩
  | cell hc =>
    cases h
    obtain ⟨o, h1, h2⟩ := rl.own _ _ hc
    cases h2 with | dic r => exact ⟨_, _, rfl, h1, r⟩
theorem Reps.at {vs : List V} {i : Int} (r : Reps B vs ds) (h : atI ds i = some d) : ∃ v, atI vs i = some v ∧ Rep B v d := by
  unfold atI at h ⊢
  rw [r.length]
  cases e : ixN ds.length i with
  | none => rw [e] at h; cases h
  | some j =>
    rw [e] at h
    exact r.get h
end

theorem atI_some {ds : List D} {i : Int} (h0 : 0 ≤ i) (h : i < (ds.length : Int)) : ∃ d, d ∈ ds ∧ ds[i.toNat]? = some d ∧ atI ds i = some d := by
  have hl : i.toNat < ds.length := by omega
  refine ⟨ds[i.toNat], List.getElem_mem hl, List.getElem?_eq_getElem hl, ?_⟩
  unfold atI ixN
  rw [if_pos h0, if_pos h]
  exact List.getElem?_eq_getElem hl
theorem atI_zero {α : Type} {z : α} {zs : List α} : atI (z :: zs) 0 = some z := by
  unfold atI ixN
  rw [if_pos (by decide), if_pos (by rw [List.length_cons]; omega)]
  rfl
theorem atI_int {ns : List Int} {i : Int} (h0 : 0 ≤ i) (h : i < (ns.length : Int)) : ∃ z, z ∈ ns ∧ atI (ns.map D.int) i = some (.int z) := by
  obtain ⟨d, h1, _, h2⟩ := atI_some (ds := ns.map D.int) h0 (by rw [List.length_map]; exact h)
  obtain ⟨z, hz, e⟩ := List.mem_map.mp h1
  exact ⟨z, hz, by rw [h2, e]⟩

/-! ### dicts on the deep side -/
def lookD (ks : List (Int × D)) (k : Int) : Option D := (ks.find? fun p => decide (p.1 = k)).map (·.2)
def putD (ks : List (Int × D)) (k : Int) (d : D) : List (Int × D) :=
  if ks.any fun p => decide (p.1 = k) then ks.map fun p => if p.1 = k then (p.1, d) else p else ks ++ [(k, d)]
theorem repK_look {B : Hp} {vs : List (Key × V)} {ks : List (Int × D)} (r : RepK B vs ks) (k : Int) :
    (lookD ks k = none → valV vs (Sum.inl k) = none) ∧ ∀ d, lookD ks k = some d → ∃ v, valV vs (Sum.inl k) = some v ∧ Rep B v d := by
  induction vs generalizing ks with
  | nil => cases r; exact ⟨fun _ => rfl, fun d h => by cases h⟩
  | cons p vs ih =>
    cases r with
    | @cons j v d vs ds h r =>
      obtain ⟨i1, i2⟩ := ih r
      by_cases e : j = k
      · subst e
        refine ⟨fun h => by simp [lookD] at h, fun d' h' => ?_⟩
        have : d = d' := by simpa [lookD] using h'
        subst this
        exact ⟨v, valV_pos rfl, h⟩
      · have e1 : lookD ((j, d) :: ds) k = lookD ds k := by simp [lookD, e]
        have e2 : valV ((Sum.inl j, v) :: vs) (Sum.inl k : Key) = valV vs (Sum.inl k) := valV_neg (by intro z; exact e (Sum.inl.inj z))
        rw [e1, e2]
        exact ⟨i1, i2⟩
theorem repK_any {B : Hp} {vs : List (Key × V)} {ks : List (Int × D)} (r : RepK B vs ks) (k : Int) :
    (vs.any fun p => decide (p.1 = Sum.inl k)) = ks.any fun p => decide (p.1 = k) := by
  induction vs generalizing ks with
  | nil => cases r; rfl
  | cons p vs ih =>
    cases r with
    | cons h r => simp [ih r]
theorem repK_len {B : Hp} {vs : List (Key × V)} {ks : List (Int × D)} (r : RepK B vs ks) : vs.length = ks.length := by
  induction vs generalizing ks with
  | nil => cases r; rfl
  | cons p vs ih =>
    cases r with
    | cons h r => simp [ih r]
theorem repK_map {B : Hp} {vs : List (Key × V)} {ks : List (Int × D)} (r : RepK B vs ks) (k : Int) {v d} (h : Rep B v d) :
    RepK B (vs.map fun p => if p.1 = Sum.inl k then (p.1, v) else p) (ks.map fun p => if p.1 = k then (p.1, d) else p) := by
  induction vs generalizing ks with
  | nil => cases r; exact .nil
  | cons p vs ih =>
    cases r with
    | @cons j v' d' vs ds h' r =>
      by_cases e : j = k
      · subst e
        simpa using RepK.cons h (ih r)
      · have e' : ¬ (Sum.inl j : Key) = Sum.inl k := fun z => e (Sum.inl.inj z)
        simpa [e] using RepK.cons (k := j) h' (ih r)
theorem repK_app {B : Hp} {vs ws : List (Key × V)} {ks ls : List (Int × D)} (r : RepK B vs ks) (s : RepK B ws ls) : RepK B (vs ++ ws) (ks ++ ls) := by
  induction vs generalizing ks with
  | nil => cases r; exact s
  | cons p vs ih =>
    cases r with
    | cons h r => exact .cons h (ih r)
theorem repK_put {B : Hp} {vs : List (Key × V)} {ks : List (Int × D)} (r : RepK B vs ks) (k : Int) {v d} (h : Rep B v d) : RepK B (putK vs (Sum.inl k) v) (putD ks k d) := by
  unfold putK putD
  rw [repK_any r k]
  by_cases e : (ks.any fun p => decide (p.1 = k)) = true
  · rw [if_pos e, if_pos e]; exact repK_map r k h
  · rw [if_neg e, if_neg e]; exact repK_app r (.cons h .nil)

/-! ### one value handed on -/
section
variable {B0 : Gr} {C : CH} {P : D → CH → Prop} {x y d : D} {i j : Int} {K : PySem.W.Frag} {ds es : List D} {E : EnvD}

theorem wr_int {g : Int → Int → Int} (k : P (.int (g i j)) C) : WR B0 (rI0 fun i j => .int (g i j)) (.int i) (.int j) C P := fun B F H vx vy _ rl hx hy Q q => by
  cases hx; cases hy
  exact ⟨i, j, rfl, rfl, q _ _ B C H (Same.refl B) rl .int k⟩
theorem wr_intB {g : Int → Int → Bool} (k : P (.bl (g i j)) C) : WR B0 (rI0 fun i j => .bl (g i j)) (.int i) (.int j) C P := fun B F H vx vy _ rl hx hy Q q => by
  cases hx; cases hy
  exact ⟨i, j, rfl, rfl, q _ _ B C H (Same.refl B) rl .bl k⟩
theorem wr_intC {R : Int → Int → Prop} {g : Int → Int → Int} (hc : R i j) (k : P (.int (g i j)) C) : WR B0 (rI R fun i j => .int (g i j)) (.int i) (.int j) C P := fun B F H vx vy _ rl hx hy Q q => by
  cases hx; cases hy
  exact ⟨i, j, rfl, rfl, hc, q _ _ B C H (Same.refl B) rl .int k⟩
theorem wu_int {g : Int → Int} (k : P (.int (g i)) C) : WU B0 (rU fun i => .int (g i)) (.int i) C P := fun B F H vx _ rl hx Q q => by
  cases hx
  exact ⟨i, rfl, q _ _ B C H (Same.refl B) rl .int k⟩

/-! + -/
def rStrCat : R2 := fun x y H Q => ∃ i j, x = .str i ∧ y = .str j ∧ i.length + j.length ≤ sizeLine ∧ Q (.str (i ++ j)) H
def rAddU (K : PySem.W.Frag) : R2 := fun x y H Q => (rI0 fun i j => .int (i + j)) x y H Q ∨ rCat x y H Q ∨ rCatA K x y H Q ∨ rStrCat x y H Q
theorem op_addU {X : Cx} : OpR X (binaryOp .Add) (rAddU X.K) := op_add.or (op_cat.or (op_catA.or op_add_str))
theorem wr_add (k : P (.int (i + j)) C) : WR B0 (rAddU K) (.int i) (.int j) C P := fun B F H vx vy sb rl hx hy Q q => .inl (wr_int (g := fun i j => i + j) k B F H vx vy sb rl hx hy Q q)
theorem wr_addS {a b : Str} (hl : a.length + b.length ≤ 1000000) (k : P (.str (a ++ b)) C) : WR B0 (rAddU K) (.str a) (.str b) C P := fun B F H vx vy _ rl hx hy Q q => by
  cases hx; cases hy
  exact .inr (.inr (.inr ⟨a, b, rfl, rfl, Nat.le_trans hl (by decide), q _ _ B C H (Same.refl B) rl .str k⟩))
theorem wr_addT (hl : ds.length + es.length ≤ 1000000) (k : P (.tup (ds ++ es)) C) : WR B0 (rAddU K) (.tup ds) (.tup es) C P := fun B F H vx vy _ rl hx hy Q q => by
  cases hx with
  | @tup a vs _ ha r =>
  cases hy with
  | @tup b ws _ hb s =>
  refine .inr (.inr (.inl ⟨a, b, vs, ws, rfl, rfl, SqT.of (rl.ex _ _ ha), SqT.of (rl.ex _ _ hb), by rw [r.length, s.length]; exact Nat.le_trans hl (by decide), fun e => ?_, fun _ e => ?_, fun _ _ p hp => ?_⟩))
  · subst e
    cases r
    exact q _ _ B C H (Same.refl B) rl (.tup hb s) k
  · subst e
    cases s
    rw [List.append_nil] at k
    exact q _ _ B C H (Same.refl B) rl (.tup ha r) k
  · have e := same_upd (o := .tup (vs ++ ws)) (rl.noB hp)
    exact q _ _ _ C _ e (rl.new hp) (.tup upd_same ((r.append s).mono e)) k
theorem wr_addL (hx : LstD C x ds) (hy : LstD C y es) (hl : ds.length + es.length ≤ 1000000) (k : P (.lst (ds ++ es)) C) : WR B0 (rAddU K) x y C P := fun B F H vx vy _ rl h1 h2 Q q => by
  obtain ⟨a, vs, rfl, ha, r⟩ := lstD_rd rl h1 hx
  obtain ⟨b, ws, rfl, hb, s⟩ := lstD_rd rl h2 hy
  refine .inr (.inl ⟨a, b, vs, ws, rfl, rfl, ha, hb, by rw [r.length, s.length]; exact Nat.le_trans hl (by decide), fun p hp => ?_⟩)
  have e := same_upd (o := .lst (vs ++ ws)) (rl.noB hp)
  exact q _ _ _ C _ e (rl.new hp) (.lst upd_same ((r.append s).mono e)) k

/-! == -/
def tyN : D → Nat
  | .non => 0 | .bl _ => 1 | .int _ => 2 | .str _ => 3 | _ => 9
/-- == of scalars: what decides is whether they are the same -/
def eqS : D → D → Option Bool
  | .non, .non => some true
  | .int i, .int j => some (decide (i = j))
  | .bl i, .bl j => some (decide (i = j))
  | .str i, .str j => some (decide (i = j))
  | .non, .int _ => some false | .int _, .non => some false | .non, .bl _ => some false | .bl _, .non => some false
  | .non, .str _ => some false | .str _, .non => some false
  | .int _, .str _ => some false | .str _, .int _ => some false | .bl _, .str _ => some false | .str _, .bl _ => some false
  | _, _ => none
theorem eqS_ok {B : Hp} {v w : V} {b : Bool} (h1 : Rep B v x) (h2 : Rep B w y) (e : eqS x y = some b) : scal v w = true ∧ decide (v = w) = b := by
  cases h1 <;> cases h2 <;> first
    | (cases e; exact ⟨rfl, by simp⟩)
    | (cases e)
end

section
variable {B0 : Gr} {C : CH} {P : D → CH → Prop} {x y d : D} {i j : Int} {K : PySem.W.Frag} {ds es : List D} {E : EnvD}
/-! deep data without cells and dicts -/
mutual
def toPy : D → Option PyData
  | .non => some .none
  | .bl b => some (.bool b)
  | .int i => some (.int i)
  | .str x => some (.str x)
  | .tup l => (toPys l).map .tuple
  | .lst l => (toPys l).map .list
  | .dic _ => none
  | .ref _ => none
  | .ty _ => none
  | .dicR _ => none
  | .dicL _ _ => none
  | .fn _ _ => none
def toPys : List D → Option (List PyData)
  | [] => some []
  | d :: r => (toPy d).bind fun a => (toPys r).map fun b => a :: b
end
mutual
theorem toPy_ok {B H : Hp} {K : PySem.W.Frag} (e : Same B H) : ∀ {v : V} {d : D} {p : PyData}, Rep B v d → toPy d = some p → Dp K H v p
  | _, _, _, .non, h => by cases h; exact .non
  | _, _, _, .bl, h => by cases h; exact .bl _
  | _, _, _, .int, h => by cases h; exact .int _
  | _, _, _, .str, h => by cases h; exact .str _
  | _, .tup l, _, .tup ha r, h => by
    have h : (toPys l).map PyData.tuple = some _ := h
    cases q : toPys l with
    | none => rw [q] at h; cases h
    | some ps => rw [q] at h; cases h; exact .tup (SqT.of (e _ _ ha)) (toPys_ok e r q)
  | _, .lst l, _, .lst ha r, h => by
    have h : (toPys l).map PyData.list = some _ := h
    cases q : toPys l with
    | none => rw [q] at h; cases h
    | some ps => rw [q] at h; cases h; exact .lst (SqL.of (e _ _ ha)) (toPys_ok e r q)
  | _, _, _, .dic _ _, h => by cases h
  | _, _, _, .ref, h => by cases h
  | _, _, _, .ty, h => by cases h
  | _, _, _, .dicR _ _, h => by cases h
  | _, _, _, .dicL _ _, h => by cases h
  | _, _, _, .fn _ _, h => by cases h
theorem toPys_ok {B H : Hp} {K : PySem.W.Frag} (e : Same B H) : ∀ {vs : List V} {ds : List D} {ps : List PyData}, Reps B vs ds → toPys ds = some ps → DpAll K H vs ps
  | _, _, _, .nil, h => by cases h; exact .nil
  | _, d :: r, _, .cons h1 hr, h => by
    have h : (toPy d).bind (fun a => (toPys r).map fun b => a :: b) = some _ := h
    cases q : toPy d with
    | none => rw [q] at h; cases h
    | some a =>
      cases q2 : toPys r with
      | none => rw [q, q2] at h; cases h
      | some b => rw [q, q2] at h; cases h; exact .cons (toPy_ok e h1 q) (toPys_ok e hr q2)
end
def rEqU (K : PySem.W.Frag) : R2 := fun x y H Q => rEq x y H Q ∨ rEqD K x y H Q ∨ rEqDA x y H Q
def rNeU (K : PySem.W.Frag) : R2 := fun x y H Q => rNe x y H Q ∨ rNeD K x y H Q ∨ rNeDA x y H Q
theorem op_eqU {X : Cx} {n : Nat} (hr : Room n X.A) : OpR X (compareOp .Eq) (rEqU X.K) := op_eq.or ((op_eqD hr.units).or (op_eq_dictA hr.units0))
theorem op_neU {X : Cx} {n : Nat} (hr : Room n X.A) : OpR X (compareOp .NotEq) (rNeU X.K) := op_ne.or ((op_neD hr.units).or (op_ne_dictA hr.units0))
theorem wr_eq {b : Bool} (h : eqS x y = some b) (k : P (.bl b) C) : WR B0 (rEqU K) x y C P := fun B F H vx vy _ rl hx hy Q q => by
  obtain ⟨h1, h2⟩ := eqS_ok hx hy h
  exact .inl ⟨h1, by rw [h2]; exact q _ _ B C H (Same.refl B) rl .bl k⟩
theorem wr_ne {b : Bool} (h : eqS x y = some b) (k : P (.bl (!b)) C) : WR B0 (rNeU K) x y C P := fun B F H vx vy _ rl hx hy Q q => by
  obtain ⟨h1, h2⟩ := eqS_ok hx hy h
  exact .inl ⟨h1, by rw [h2]; exact q _ _ B C H (Same.refl B) rl .bl k⟩
theorem wr_eqP {p r : PyData} (h1 : toPy x = some p) (h2 : toPy y = some r) (s1 : SeqAt.shaped p = true) (s2 : SeqAt.shaped r = true) (k : P (.bl (PyData.eqv p r)) C) : WR B0 (rEqU K) x y C P := fun B F H vx vy _ rl hx hy Q q =>
  .inr (.inl ⟨p, r, toPy_ok rl.ex hx h1, toPy_ok rl.ex hy h2, s1, s2, q _ _ B C H (Same.refl B) rl .bl k⟩)
theorem wr_neP {p r : PyData} (h1 : toPy x = some p) (h2 : toPy y = some r) (s1 : SeqAt.shaped p = true) (s2 : SeqAt.shaped r = true) (k : P (.bl (!PyData.eqv p r)) C) : WR B0 (rNeU K) x y C P := fun B F H vx vy _ rl hx hy Q q =>
  .inr (.inl ⟨p, r, toPy_ok rl.ex hx h1, toPy_ok rl.ex hy h2, s1, s2, q _ _ B C H (Same.refl B) rl .bl k⟩)

/-! is None -/
def isNonD : D → Bool
  | .non => true | _ => false
theorem rep_non {B : Hp} {v : V} (h : Rep B v d) : decide (v = .non) = isNonD d := by
  cases h <;> simp [isNonD]
theorem wr_isN (k : P (.bl (isNonD x)) C) : WR B0 (fun x y H Q => y = .non ∧ Q (.bl (decide (x = .non))) H) x .non C P := fun B F H vx vy _ rl hx hy Q q => by
  cases hy
  exact ⟨rfl, by rw [rep_non hx]; exact q _ _ B C H (Same.refl B) rl .bl k⟩
theorem wr_notN (k : P (.bl (!isNonD x)) C) : WR B0 (fun x y H Q => y = .non ∧ Q (.bl (!decide (x = .non))) H) x .non C P := fun B F H vx vy _ rl hx hy Q q => by
  cases hy
  exact ⟨rfl, by rw [rep_non hx]; exact q _ _ B C H (Same.refl B) rl .bl k⟩
theorem w_isN {ta : TE} (h : W B0 ta E C fun x C1 => P (.bl (isNonD x)) C1) : W B0 (tIsN ta) E C P := fun B F σ H sb rl re Q q =>
  h B F σ H sb rl re _ fun v d B1 C1 H1 e1 rl1 rp p => by
    show Q (.bl (decide (v = .non))) H1
    rw [rep_non rp]
    exact q _ _ B1 C1 H1 e1 rl1 .bl p
theorem w_notN {ta : TE} (h : W B0 ta E C fun x C1 => P (.bl (!isNonD x)) C1) : W B0 (tNotN ta) E C P := fun B F σ H sb rl re Q q =>
  h B F σ H sb rl re _ fun v d B1 C1 H1 e1 rl1 rp p => by
    show Q (.bl (!decide (v = .non))) H1
    rw [rep_non rp]
    exact q _ _ B1 C1 H1 e1 rl1 .bl p

/-! subscripts -/
theorem wr_ix (hx : SeqD C x ds) (h : atI ds i = some d) (k : P d C) : WR B0 (rIx K) x (.int i) C P := fun B F H vx vy _ rl h1 h2 Q q => by
  cases h2
  obtain ⟨a, vs, rfl, hs, r⟩ := seqD_rd (K := K) rl h1 hx
  obtain ⟨v, h3, h4⟩ := r.at h
  rcases hs with hs | hs
  · exact .inl ⟨a, vs, i, v, rfl, rfl, hs, h3, q _ _ B C H (Same.refl B) rl h4 k⟩
  · exact .inr (.inl ⟨a, vs, i, v, rfl, rfl, hs, h3, q _ _ B C H (Same.refl B) rl h4 k⟩)
theorem wr_ixS {z : Str} {c : Nat} (hl : z.length ≤ 1000000) (h : atI z.cps.toList i = some c) (k : P (.str ⟨#[c]⟩) C) : WR B0 (rIx K) (.str z) (.int i) C P := fun B F H vx vy _ rl h1 h2 Q q => by
  cases h1; cases h2
  exact .inr (.inr ⟨z, i, c, rfl, rfl, Nat.le_trans hl (by decide), h, q _ _ B C H (Same.refl B) rl .str k⟩)
/-- slices -/
def cutD (ds : List D) (lo hi : Option Int) : List D := (ds.drop (HT.sIx ds.length 0 lo)).take (HT.sIx ds.length ds.length hi - HT.sIx ds.length 0 lo)
theorem reps_cut {B : Hp} {vs : List V} (r : Reps B vs ds) (lo hi : Option Int) : Reps B (cutV vs lo hi) (cutD ds lo hi) := by
  unfold cutV cutD
  rw [r.length]
  exact (r.drop _).take _
def WO (B0 : Gr) (to : TO) (E : EnvD) (C : CH) (P : Option Int → CH → Prop) : Prop :=
  ∀ (B F : Hp) (σ : St) (H : Hp), Sb B0 B F → Rel B C F H → RelE B σ E → ∀ Q : Option Int → Hp → Prop,
    (∀ o B' C' H', Same B B' → Rel B' C' F H' → P o C' → Q o H') → to σ H Q
theorem wo_none {PO : Option Int → CH → Prop} (k : PO none C) : WO B0 tNoPart E C PO := fun B _ _ H _ rl _ _ q => q _ B C H (Same.refl B) rl k
theorem wo_some {te : TE} {PO : Option Int → CH → Prop} (h : W B0 te E C fun d C1 => ∃ i, d = .int i ∧ PO (some i) C1) : WO B0 (tPart te) E C PO := fun B F σ H sb rl re Q q =>
  h B F σ H sb rl re _ fun v d B1 C1 H1 e1 rl1 rp ⟨i, hi, p⟩ => by
    subst hi
    cases rp
    exact ⟨i, rfl, q _ B1 C1 H1 e1 rl1 p⟩
def WSl (B0 : Gr) (r : V → Option Int → Option Int → Hp → VK → Prop) (x : D) (lo hi : Option Int) (C : CH) (P : D → CH → Prop) : Prop :=
  ∀ (B F H : Hp) (vx : V), Sb B0 B F → Rel B C F H → Rep B vx x → ∀ Q : VK, (∀ v d B' C' H', Same B B' → Rel B' C' F H' → Rep B' v d → P d C' → Q v H') → r vx lo hi H Q
theorem w_slice {r : V → Option Int → Option Int → Hp → VK → Prop} {te : TE} {tl th : TO} (h : W B0 te E C fun x C1 => WO B0 tl E C1 fun lo C2 => WO B0 th E C2 fun hi C3 => WSl B0 r x lo hi C3 P) : W B0 (tSl r te tl th) E C P := fun B F σ H sb rl re Q q =>
  h B F σ H sb rl re _ fun v d B1 C1 H1 e1 rl1 rp h1 => h1 B1 F σ H1 (sb.trans e1) rl1 (re.mono e1) _ fun lo B2 C2 H2 e2 rl2 h2 =>
    h2 B2 F σ H2 ((sb.trans e1).trans e2) rl2 (re.mono (e1.trans e2)) _ fun hi B3 C3 H3 e3 rl3 h3 =>
      h3 B3 F H3 v (((sb.trans e1).trans e2).trans e3) rl3 (rp.mono (e2.trans e3)) Q fun v d B4 C4 H4 e4 => q v d B4 C4 H4 (((e1.trans e2).trans e3).trans e4)
def rSlU (K : PySem.W.Frag) : V → Option Int → Option Int → Hp → VK → Prop := fun x lo hi H Q => rSlL K x lo hi H Q ∨ rSlA K x lo hi H Q ∨ rSlS x lo hi H Q
theorem sl_U {X : Cx} : SlR X (rSlU X.K) := sl_list.or (sl_tupA.or sl_str)
theorem wsl_lst {lo hi : Option Int} (hx : LstD C x ds) (k : P (.lst (cutD ds lo hi)) C) : WSl B0 (rSlU K) x lo hi C P := fun B F H vx _ rl h1 Q q => by
  obtain ⟨a, vs, rfl, ha, r⟩ := lstD_rd rl h1 hx
  refine .inl ⟨a, vs, rfl, SqL.of ha, fun p hp => ?_⟩
  have e := same_upd (o := .lst (cutV vs lo hi)) (rl.noB hp)
  exact q _ _ _ C _ e (rl.new hp) (.lst upd_same ((reps_cut r lo hi).mono e)) k
theorem wsl_tup {lo hi : Option Int} (k : P (.tup (cutD ds lo hi)) C) : WSl B0 (rSlU K) (.tup ds) lo hi C P := fun B F H vx _ rl h1 Q q => by
  cases h1 with
  | @tup a vs _ ha r =>
  refine .inr (.inl ⟨a, vs, rfl, SqT.of (rl.ex _ _ ha), fun ⟨h1, h2⟩ => ?_, fun _ p hp => ?_⟩)
  · have e : cutD ds lo hi = ds := by
      rw [r.length] at h1 h2
      unfold cutD
      rw [h1, h2]
      simp
    rw [e] at k
    exact q _ _ B C H (Same.refl B) rl (.tup ha r) k
  · have e := same_upd (o := .tup (cutV vs lo hi)) (rl.noB hp)
    exact q _ _ _ C _ e (rl.new hp) (.tup upd_same ((reps_cut r lo hi).mono e)) k
theorem wsl_str {z : Str} {lo hi : Option Int} (hl : z.length ≤ 1000000) (k : P (.str (cutS z lo hi)) C) : WSl B0 (rSlU K) (.str z) lo hi C P := fun B F H vx _ rl h1 Q q => by
  cases h1
  exact .inr (.inr ⟨z, rfl, Nat.le_trans hl (by decide), q _ _ B C H (Same.refl B) rl .str k⟩)
end
end Dv

set_option maxRecDepth 100000
set_option maxHeartbeats 1000000
namespace Dv
open PySem PySem.Spec L2

/-! ### what is walked -/
structure JD (J : It) (B : Hp) (ds : List D) : Prop where
  go : ∀ (i : Nat) (B' F H : Hp) (C : CH), Same B B' → Rel B' C F H → i < ds.length → J.go i H
  stop : ∀ (B' F H : Hp) (C : CH), Same B B' → Rel B' C F H → J.stop ds.length H
  yld : ∀ (i : Nat) (x : V) (B' F H H' : Hp) (C : CH), Same B B' → Rel B' C F H → i < ds.length → J.yld i H x H' → ∃ d B'', ds[i]? = some d ∧ Same B' B'' ∧ Rel B'' C F H' ∧ Rep B'' x d
def WI (B0 : Gr) (wi : TI) (E : EnvD) (C : CH) (P : List D → CH → Prop) : Prop :=
  ∀ (B F : Hp) (σ : St) (H : Hp), Sb B0 B F → Rel B C F H → RelE B σ E → ∀ R : It → Hp → Prop,
    (∀ J ds B' C' H', Same B B' → Rel B' C' F H' → JD J B' ds → P ds C' → R J H') → wi σ H R
theorem jd_list {K : PySem.W.Frag} {B : Hp} {a : Addr} {vs : List V} {ds : List D} (h : B a = some (.lst vs)) (r : Reps B vs ds) : JD (Itl K a) B ds where
  go := fun i B' F H C s rl hi => by
    have hi' : i < vs.length := by rw [r.length]; exact hi
    exact ⟨vs, vs[i], SqL.of (rl.ex _ _ (s _ _ h)), by simp [hi']⟩
  stop := fun B' F H C s rl => ⟨vs, SqL.of (rl.ex _ _ (s _ _ h)), by rw [r.length]; exact Nat.le_refl _⟩
  yld := fun i x B' F H H' C s rl hi y => by
    obtain ⟨e, y⟩ := y
    subst e
    obtain ⟨d, h1, h2⟩ := r.getV (y vs (SqL.of (rl.ex _ _ (s _ _ h))))
    exact ⟨d, B', h1, Same.refl _, rl, h2.mono s⟩
theorem jd_tup {K : PySem.W.Frag} {B : Hp} {a : Addr} {vs : List V} {ds : List D} (h : B a = some (.tup vs)) (r : Reps B vs ds) : JD (Itt K a) B ds where
  go := fun i B' F H C s rl hi => by
    have hi' : i < vs.length := by rw [r.length]; exact hi
    exact ⟨vs, vs[i], SqT.of (rl.ex _ _ (s _ _ h)), by simp [hi']⟩
  stop := fun B' F H C s rl => ⟨vs, SqT.of (rl.ex _ _ (s _ _ h)), by rw [r.length]; exact Nat.le_refl _⟩
  yld := fun i x B' F H H' C s rl hi y => by
    obtain ⟨e, y⟩ := y
    subst e
    obtain ⟨d, h1, h2⟩ := r.getV (y vs (SqT.of (rl.ex _ _ (s _ _ h))))
    exact ⟨d, B', h1, Same.refl _, rl, h2.mono s⟩
def rngD (lo : Int) (n : Nat) : List D := (List.range n).map fun i => D.int (lo + (i : Nat))
theorem rngD_len (lo : Int) (n : Nat) : (rngD lo n).length = n := by simp [rngD]
theorem rngD_at {lo : Int} {n i : Nat} (h : i < n) : (rngD lo n)[i]? = some (.int (lo + (i : Nat))) := by simp [rngD, h]
theorem rngD_mem {lo : Int} {n : Nat} {x : D} (h : x ∈ rngD lo n) : ∃ i : Nat, i < n ∧ x = .int (lo + (i : Nat)) := by
  obtain ⟨i, hi, e⟩ := List.mem_map.mp h
  exact ⟨i, List.mem_range.mp hi, e.symm⟩
theorem rngD_const {lo : Int} {n : Nat} {z : D} : (rngD lo n).map (fun _ => z) = List.replicate n z := by
  unfold rngD
  rw [List.map_map]
  apply List.ext_getElem?
  intro i
  by_cases h : i < n
  · simp [h]
  · simp [h]
theorem rngD_drop {lo : Int} {n i : Nat} (h : i < n) : (rngD lo n).drop i = .int (lo + (i : Nat)) :: (rngD lo n).drop (i + 1) := by
  have e := List.drop_eq_getElem_cons (l := rngD lo n) (i := i) (by rw [rngD_len]; exact h)
  rw [e]
  have q := rngD_at (lo := lo) h
  rw [List.getElem?_eq_getElem (by rw [rngD_len]; exact h)] at q
  rw [Option.some.inj q]
theorem jd_rng {B : Hp} {lo : Int} {n : Nat} : JD (Itr lo n) B (rngD lo n) where
  go := fun i B' F H C s rl hi => by rw [rngD_len] at hi; exact hi
  stop := fun B' F H C s rl => by rw [rngD_len]; exact Nat.le_refl _
  yld := fun i x B' F H H' C s rl hi y => by
    obtain ⟨e, y⟩ := y
    subst e y
    rw [rngD_len] at hi
    exact ⟨_, B', rngD_at hi, Same.refl _, rl, .int⟩
section
variable {B0 : Gr} {C : CH} {K : PySem.W.Frag} {E : EnvD} {PI' : List D → CH → Prop} {tl : TE} {ta : TA}
theorem wi_list (h : W B0 tl E C fun d C1 => ∃ ds, d = .lst ds ∧ PI' ds C1) : WI B0 (iList K tl) E C PI' := fun B F σ H sb rl re R q =>
  h B F σ H sb rl re _ fun v d B1 C1 H1 e1 rl1 rp ⟨ds, hd, p⟩ => by
    subst hd
    cases rp with
    | lst ha r => exact ⟨_, rfl, ⟨_, SqL.of (rl1.ex _ _ ha)⟩, q _ ds B1 C1 H1 e1 rl1 (jd_list ha r) p⟩
theorem wi_tup (h : W B0 tl E C fun d C1 => ∃ ds, d = .tup ds ∧ PI' ds C1) : WI B0 (iTup K tl) E C PI' := fun B F σ H sb rl re R q =>
  h B F σ H sb rl re _ fun v d B1 C1 H1 e1 rl1 rp ⟨ds, hd, p⟩ => by
    subst hd
    cases rp with
    | tup ha r => exact ⟨_, rfl, ⟨_, SqT.of (rl1.ex _ _ ha)⟩, q _ ds B1 C1 H1 e1 rl1 (jd_tup ha r) p⟩
theorem wi_rng1 (h : WA B0 ta E C fun ds C1 => ∃ n : Int, ds = [.int n] ∧ n < 2 ^ 62 ∧ -(2 ^ 62) ≤ n ∧ PI' (rngD 0 n.toNat) C1) : WI B0 (iRng1 ta) E C PI' := fun B F σ H sb rl re R q =>
  h B F σ H sb rl re _ fun vs ds B1 C1 H1 e1 rl1 rp ⟨n, hd, h1, h2, p⟩ => by
    subst hd
    cases rp with
    | cons a r =>
      cases a
      cases r
      exact ⟨n, rfl, h2, h1, q _ _ B1 C1 H1 e1 rl1 jd_rng p⟩
theorem wi_rng2 (h : WA B0 ta E C fun ds C1 => ∃ m n : Int, ds = [.int m, .int n] ∧ (-(2 ^ 62) ≤ m ∧ m < 2 ^ 62 ∧ -(2 ^ 62) ≤ n ∧ n < 2 ^ 62) ∧ PI' (rngD m (n - m).toNat) C1) : WI B0 (iRng2 ta) E C PI' := fun B F σ H sb rl re R q =>
  h B F σ H sb rl re _ fun vs ds B1 C1 H1 e1 rl1 rp ⟨m, n, hd, h1, p⟩ => by
    subst hd
    cases rp with
    | cons a r =>
      cases a
      cases r with
      | cons b r =>
        cases b
        cases r
        exact ⟨m, n, rfl, h1, q _ _ B1 C1 H1 e1 rl1 jd_rng p⟩
end
/-- a list or a tuple walked -/
def iSeq (K : PySem.W.Frag) (tl : TE) : TI := fun σ H R => tl σ H fun x H1 => ∃ a, x = .ref a ∧ ((∃ xs, SqL K H1 a xs) ∧ R (Itl K a) H1 ∨ (∃ xs, SqT K H1 a xs) ∧ R (Itt K a) H1)
theorem pi_seq {X : Cx} {tg l : Expr} {tl : TE} (hl : PE X l tl) : PI X tg l (iSeq X.K tl) := by
  constructor
  intro pins s σ H R I h
  refine thn (hl.run pins s σ H _ I h) ?_
  rintro v s1 ⟨x, H1, J1, r1, a, e, hh⟩
  subst e
  cases r1
  have fresh := J1.fpOk (Nat.le_refl s1.heap.objs.size) (J1.hok.fresh (Nat.le_refl _))
  rcases hh with ⟨⟨xs, hq⟩, q⟩ | ⟨⟨xs, hq⟩, q⟩
  · obtain ⟨its, _, p, _⟩ := J1.list hq
    apply wpAny_pyIter_list p.isList
    refine ⟨_, [_], _, _, H1, rfl, J1.kept (t' := s1.toks) ?_, turn_list a _, ⟨_, Heap.get?_push_size _ rfl, rfl, rfl⟩, ?_, q⟩
    · intro b o eb
      exact Heap.get?_push_of_some _ eb
    · intro b hb
      obtain rfl : b = s1.heap.objs.size := by simpa using hb
      exact fresh
  · obtain ⟨its, _, p, _⟩ := J1.tuple hq
    apply wpAny_pyIter_tuple (show s1.heap.IsTuple a its.toArray from p)
    refine ⟨_, [_], _, _, H1, rfl, J1.kept (t' := s1.toks) ?_, turn_tuple a _, ⟨_, Heap.get?_push_size _ rfl, rfl, rfl⟩, ?_, q⟩
    · intro b o eb
      exact Heap.get?_push_of_some _ eb
    · intro b hb
      obtain rfl : b = s1.heap.objs.size := by simpa using hb
      exact fresh
section
variable {B0 : Gr} {C : CH} {K : PySem.W.Frag} {E : EnvD} {PI' : List D → CH → Prop} {tl : TE}
/-- frozen data that can be walked -/
inductive SeqF : D → List D → Prop
  | lst {ds : List D} : SeqF (.lst ds) ds
  | tup {ds : List D} : SeqF (.tup ds) ds
theorem wi_seq (h : W B0 tl E C fun d C1 => ∃ ds, SeqF d ds ∧ PI' ds C1) : WI B0 (iSeq K tl) E C PI' := fun B F σ H sb rl re R q =>
  h B F σ H sb rl re _ fun v d B1 C1 H1 e1 rl1 rp ⟨ds, hd, p⟩ => by
    cases hd with
    | lst =>
      cases rp with
      | lst ha r => exact ⟨_, rfl, .inl ⟨⟨_, SqL.of (rl1.ex _ _ ha)⟩, q _ ds B1 C1 H1 e1 rl1 (jd_list ha r) p⟩⟩
    | tup =>
      cases rp with
      | tup ha r => exact ⟨_, rfl, .inr ⟨⟨_, SqT.of (rl1.ex _ _ ha)⟩, q _ ds B1 C1 H1 e1 rl1 (jd_tup ha r) p⟩⟩
end

/-! ### for -/
section
variable {B0 : Gr} {C : CH} {E : EnvD} {D1 : EndD} {wi : TI} {g : TG} {tb : TS}
/-- L: what holds by the items that are left -/
theorem ws_for (L : List D → EnvD → CH → Prop) (h : WI B0 wi E C fun ds C1 => L ds E C1) (hn : ∀ E1 C1, L [] E1 C1 → D1.nx E1 C1)
    (hs : ∀ x xs E1 C1, L (x :: xs) E1 C1 → WG B0 g x E1 C1 fun E2 C2 => WS B0 tb E2 C2 { D1 with nx := L xs, ct := L xs, bk := D1.nx }) : WS B0 (tFor wi g tb) E C D1 := fun B F σ H sb rl re Dn ok =>
  h B F σ H sb rl re _ fun J ds B1 C1 H1 e1 rl1 jd l0 => by
    have main : ∀ (i : Nat) (σ' : St) (H' : Hp), (∃ B' C' E', Same B1 B' ∧ Rel B' C' F H' ∧ RelE B' σ' E' ∧ L (ds.drop i) E' C') → i < ds.length →
        ∀ x H2, J.yld i H' x H2 → g x σ' H2 fun σ2 H2 => tb { Dn with
          nx := fun σ3 H3 => ∃ B' C' E', Same B1 B' ∧ Rel B' C' F H3 ∧ RelE B' σ3 E' ∧ L (ds.drop (i + 1)) E' C'
          ct := fun σ3 H3 => ∃ B' C' E', Same B1 B' ∧ Rel B' C' F H3 ∧ RelE B' σ3 E' ∧ L (ds.drop (i + 1)) E' C'
          bk := Dn.nx } σ2 H2 := by
      rintro i σ' H' ⟨B', C', E', s', rl', re', l⟩ hi x H2 y
      obtain ⟨d, B2, hd, s2, rl2, rp2⟩ := jd.yld i x B' F H' H2 C' s' rl' hi y
      have e : ds.drop i = d :: ds.drop (i + 1) := by
        rw [List.drop_eq_getElem_cons hi]
        rw [List.getElem?_eq_getElem hi] at hd
        rw [Option.some.inj hd]
      rw [e] at l
      have sb2 : Same B B2 := (e1.trans s').trans s2
      refine hs d _ E' C' l B2 F σ' H2 x (sb.trans sb2) rl2 (re'.mono s2) rp2 _ fun σ3 E3 B3 C3 H3 s3 rl3 re3 w => ?_
      refine w B3 F σ3 H3 (sb.trans (sb2.trans s3)) rl3 re3 _ ⟨?_, ?_, ?_, ?_⟩
      · exact fun σ4 E4 B4 C4 H4 s4 rl4 re4 l4 => ⟨B4, C4, E4, ((s'.trans s2).trans s3).trans s4, rl4, re4, l4⟩
      · exact fun v d B4 C4 H4 s4 rl4 rp4 k => ok.rt v d B4 C4 H4 ((sb2.trans s3).trans s4) rl4 rp4 k
      · exact fun σ4 E4 B4 C4 H4 s4 rl4 re4 k => ok.nx σ4 E4 B4 C4 H4 ((sb2.trans s3).trans s4) rl4 re4 k
      · exact fun σ4 E4 B4 C4 H4 s4 rl4 re4 l4 => ⟨B4, C4, E4, ((s'.trans s2).trans s3).trans s4, rl4, re4, l4⟩
    refine ⟨fun i m σ' H' => m = ds.length - i ∧ i ≤ ds.length ∧ ∃ B' C' E', Same B1 B' ∧ Rel B' C' F H' ∧ RelE B' σ' E' ∧ L (ds.drop i) E' C',
      ⟨ds.length, by simp, Nat.zero_le _, B1, C1, E, Same.refl _, rl1, re.mono e1, by simpa using l0⟩, ?_⟩
    rintro i m σ' H' ⟨rfl, hi, z⟩
    by_cases hlt : i < ds.length
    · obtain ⟨B', C', E', s', rl', re', l⟩ := id z
      exact .inr ⟨jd.go i B' F H' C' s' rl' hlt, _, fun σ2 H2 n => ⟨ds.length - (i + 1), by omega, rfl, hlt, n⟩, main i σ' H' z hlt⟩
    · obtain ⟨B', C', E', s', rl', re', l⟩ := z
      have e : i = ds.length := by omega
      subst e
      rw [List.drop_length] at l
      exact .inl ⟨jd.stop B' F H' C' s' rl', ok.nx σ' E' B' C' H' (e1.trans s') rl' re' (hn _ _ l)⟩
end

/-! ### comprehensions -/
def wipeE (E : EnvD) : List Nat → EnvD
  | [] => E
  | v :: vs => (wipeE E vs).set v none
theorem relE_wipe {B : Hp} {σ : St} {E : EnvD} (r : RelE B σ E) : ∀ vs : List Nat, RelE B (wipe σ vs) (wipeE E vs)
  | [] => r
  | v :: vs => (relE_wipe r vs).unset v
theorem wipe_get (σ : St) (i : Nat) : ∀ vs : List Nat, (wipe σ vs)[i]? = if i ∈ vs then (σ[i]?).map (fun _ => none) else σ[i]?
  | [] => by simp [wipe]
  | v :: vs => by
    unfold wipe
    by_cases e : v = i
    · subst e
      rw [if_pos (List.mem_cons_self ..)]
      by_cases hl : v < σ.length
      · rw [List.getElem?_set_self (by rw [wipe_length]; exact hl), List.getElem?_eq_getElem hl]; rfl
      · rw [List.getElem?_eq_none (by rw [List.length_set, wipe_length]; omega), List.getElem?_eq_none (by omega)]; rfl
    · rw [List.getElem?_set_ne e, wipe_get σ i vs]
      have : (i ∈ v :: vs) ↔ i ∈ vs := by
        rw [List.mem_cons]
        exact ⟨fun h => h.elim (fun z => absurd z.symm e) id, .inr⟩
      by_cases m : i ∈ vs
      · rw [if_pos m, if_pos (this.mpr m)]
      · rw [if_neg m, if_neg (fun z => m (this.mp z))]
theorem wipe_set {σ : St} {j : Nat} {x : Option V} {vs : List Nat} (h : j ∈ vs) : wipe (σ.set j x) vs = wipe σ vs := by
  apply List.ext_getElem?
  intro i
  rw [wipe_get, wipe_get]
  by_cases m : i ∈ vs
  · rw [if_pos m, if_pos m]
    by_cases e : j = i
    · subst e
      by_cases hl : j < σ.length
      · rw [List.getElem?_set_self hl, List.getElem?_eq_getElem hl]; rfl
      · rw [List.getElem?_eq_none (by rw [List.length_set]; omega), List.getElem?_eq_none (by omega)]
    · rw [List.getElem?_set_ne e]
  · rw [if_neg m, if_neg m, List.getElem?_set_ne (fun e : j = i => m (by rw [← e]; exact h))]
theorem wipe_wipe (σ : St) (vs : List Nat) : wipe (wipe σ vs) vs = wipe σ vs := by
  apply List.ext_getElem?
  intro i
  rw [wipe_get, wipe_get]
  by_cases m : i ∈ vs
  · simp [m]
    cases σ[i]? <;> rfl
  · simp [m]
/-- the target stores into the slots vs alone -/
def Sets (g : TG) (vs : List Nat) : Prop := ∀ v σ H (Q : St → Hp → Prop), g v σ H Q → g v σ H fun σ2 H2 => Q σ2 H2 ∧ wipe σ2 vs = wipe σ vs
def SetsS (g : TGs) (vs : List Nat) : Prop := ∀ v σ H (Q : St → Hp → Prop), g v σ H Q → g v σ H fun σ2 H2 => Q σ2 H2 ∧ wipe σ2 vs = wipe σ vs
theorem sets_name {j : Nat} {vs : List Nat} (h : j ∈ vs) : Sets (gName j) vs := fun v σ H Q q => ⟨q, wipe_set h⟩
theorem sets_nil {vs : List Nat} : SetsS gNil vs := fun v σ H Q ⟨e, q⟩ => ⟨e, q, rfl⟩
theorem sets_cons {j : Nat} {gs : TGs} {vs : List Nat} (h : j ∈ vs) (r : SetsS gs vs) : SetsS (gCons (gName j) gs) vs := fun v σ H Q ⟨a, rest, e, q⟩ => by
  have q : gs rest (σ.set j (some a)) H fun σ' H' => Q σ' H' := q
  have q2 := r _ _ _ _ q
  rw [wipe_set h] at q2
  exact ⟨a, rest, e, q2⟩
theorem sets_tup {K : PySem.W.Frag} {n : Nat} {gs : TGs} {vs : List Nat} (r : SetsS gs vs) : Sets (gTup K n gs) vs := fun v σ H Q ⟨a, xs, e, h1, h2, q⟩ => ⟨a, xs, e, h1, h2, r _ _ _ _ q⟩
section
variable {B0 : Gr} {C : CH} {E : EnvD} {P : D → CH → Prop} {wi : TI} {g : TG} {tt : TT} {te : TE} {vs : List Nat}
/-- L: by the items left and those made -/
theorem w_lcQ (cell : Bool) (L : List D → List D → CH → Prop) (st : Sets g vs) (h : WI B0 wi E C fun ds C1 => ds.length ≤ 1000000 ∧ L ds [] C1)
    (hn : ∀ acc C1, L [] acc C1 → if cell then ∀ a, C1 a = none → P (.ref a) (updC C1 a (.lst acc)) else P (.lst acc) C1)
    (hs : ∀ x xs acc C1, L (x :: xs) acc C1 → WG B0 g x (wipeE E vs) C1 fun E2 C2 => WT B0 tt E2 C2 fun b C3 =>
      (b = true → W B0 te E2 C3 fun y C4 => L xs (acc ++ [y]) C4) ∧ (b = false → L xs acc C3)) : W B0 (tLc wi g tt te vs) E C P := fun B F σ H sb rl re Q q =>
  h B F σ H sb rl re _ fun J ds B1 C1 H1 e1 rl1 jd ⟨hlen, l0⟩ Dl hD => by
    have hF := rl1.noF hD
    refine ⟨fun i m H' => m = ds.length - i ∧ i ≤ ds.length ∧ ∃ B' C' vacc acc, Same B1 B' ∧ Rel B' C' (upd F Dl (.lst vacc)) H' ∧ Reps B' vacc acc ∧ acc.length ≤ i ∧ L (ds.drop i) acc C',
      ⟨ds.length, by simp, Nat.zero_le _, B1, C1, [], [], Same.refl _, rl1.newF hD, .nil, Nat.le_refl _, by simpa using l0⟩, ?_⟩
    rintro i m H' ⟨rfl, hi, B', C', vacc, acc, s', rl', ra, hal, l⟩
    by_cases hlt : i < ds.length
    · refine .inr ⟨jd.go i B' _ H' C' s' rl' hlt, fun H2 => ∃ B' C' vacc acc, Same B1 B' ∧ Rel B' C' (upd F Dl (.lst vacc)) H2 ∧ Reps B' vacc acc ∧ acc.length ≤ i + 1 ∧ L (ds.drop (i + 1)) acc C',
        fun H2 n => ⟨ds.length - (i + 1), by omega, rfl, hlt, n⟩, fun x H2 y => ?_⟩
      obtain ⟨d, B2, hd, s2, rl2, rp2⟩ := jd.yld i x B' _ H' H2 C' s' rl' hlt y
      have e : ds.drop i = d :: ds.drop (i + 1) := by
        rw [List.drop_eq_getElem_cons hlt]
        rw [List.getElem?_eq_getElem hlt] at hd
        rw [Option.some.inj hd]
      rw [e] at l
      have sb2 : Same B B2 := (e1.trans s').trans s2
      replace sb : Sb B0 B (upd F Dl (.lst vacc)) := sb.grow (same_upd hF)
      have z := hs d _ acc C' l B2 _ (wipe σ vs) H2 x (sb.trans sb2) rl2 (relE_wipe (re.mono sb2) vs) rp2 (fun σ3 H3 => tt σ3 H3 fun b H3 =>
        if b = true then te σ3 H3 fun y H4 => ∃ acc, H4 Dl = some (.lst acc) ∧ acc.length < sizeLine ∧ ∃ B' C' vacc' acc', Same B1 B' ∧ Rel B' C' (upd F Dl (.lst vacc')) (upd H4 Dl (.lst (acc ++ [y]))) ∧ Reps B' vacc' acc' ∧ acc'.length ≤ i + 1 ∧ L (ds.drop (i + 1)) acc' C'
        else ∃ B' C' vacc acc, Same B1 B' ∧ Rel B' C' (upd F Dl (.lst vacc)) H3 ∧ Reps B' vacc acc ∧ acc.length ≤ i + 1 ∧ L (ds.drop (i + 1)) acc C') fun σ3 E3 B3 C3 H3 s3 rl3 re3 w => ?_
      · have z2 := st _ _ _ _ z
        rw [wipe_wipe] at z2
        refine cast ?_ z2
        congr 1
        funext σ2 H2
        exact propext ⟨fun ⟨a, b⟩ => ⟨b, a⟩, fun ⟨a, b⟩ => ⟨b, a⟩⟩
      · refine w B3 _ σ3 H3 (sb.trans (sb2.trans s3)) rl3 re3 _ fun b B4 C4 H4 s4 rl4 p => ?_
        cases b with
        | false =>
          refine ⟨B4, C4, vacc, acc, ((s'.trans s2).trans s3).trans s4, rl4, ra.mono ((s2.trans s3).trans s4), by omega, p.2 rfl⟩
        | true =>
          refine p.1 rfl B4 _ σ3 H4 (sb.trans ((sb2.trans s3).trans s4)) rl4 (re3.mono s4) _ fun v y B5 C5 H5 s5 rl5 rp5 l5 => ?_
          have hl5 : H5 Dl = some (.lst vacc) := rl5.fr _ _ upd_same
          have rlen := ra.length
          refine ⟨vacc, hl5, Nat.lt_of_le_of_lt (by omega : vacc.length ≤ 1000000) (by decide), B5, C5, vacc ++ [v], acc ++ [y], (((s'.trans s2).trans s3).trans s4).trans s5, rl5.writeF,
            (ra.mono (((s2.trans s3).trans s4).trans s5)).append (.one rp5), by simp; omega, l5⟩
    · have e : i = ds.length := by omega
      subst e
      rw [List.drop_length] at l
      have k := hn _ _ l
      refine .inl ⟨jd.stop B' _ H' C' s' rl', ?_⟩
      cases cell with
      | false =>
        have sf := same_upd (o := .lst vacc) (rl'.bf Dl _ upd_same)
        exact q _ _ _ C' _ ((e1.trans s').trans sf) (rl'.freezeF hF) (.lst upd_same (ra.mono sf)) k
      | true => exact q _ _ B' _ _ (e1.trans s') (rl'.cellF hF (.lst ra)) .ref (k Dl (rl'.cf Dl _ upd_same))
theorem w_lc (L : List D → List D → CH → Prop) (st : Sets g vs) (h : WI B0 wi E C fun ds C1 => ds.length ≤ 1000000 ∧ L ds [] C1) (hn : ∀ acc C1, L [] acc C1 → P (.lst acc) C1)
    (hs : ∀ x xs acc C1, L (x :: xs) acc C1 → WG B0 g x (wipeE E vs) C1 fun E2 C2 => WT B0 tt E2 C2 fun b C3 =>
      (b = true → W B0 te E2 C3 fun y C4 => L xs (acc ++ [y]) C4) ∧ (b = false → L xs acc C3)) : W B0 (tLc wi g tt te vs) E C P := w_lcQ false L st h hn hs
theorem w_lcC (L : List D → List D → CH → Prop) (st : Sets g vs) (h : WI B0 wi E C fun ds C1 => ds.length ≤ 1000000 ∧ L ds [] C1) (hn : ∀ acc C1, L [] acc C1 → ∀ a, C1 a = none → P (.ref a) (updC C1 a (.lst acc)))
    (hs : ∀ x xs acc C1, L (x :: xs) acc C1 → WG B0 g x (wipeE E vs) C1 fun E2 C2 => WT B0 tt E2 C2 fun b C3 =>
      (b = true → W B0 te E2 C3 fun y C4 => L xs (acc ++ [y]) C4) ∧ (b = false → L xs acc C3)) : W B0 (tLc wi g tt te vs) E C P := w_lcQ true L st h hn hs
theorem wt_yes {PB : Bool → CH → Prop} (k : PB true C) : WT B0 tYes E C PB := fun B F σ H _ rl _ _ q => q _ B C H (Same.refl B) rl k
/-- the common case: each item gives f of it, nothing else changes -/
theorem w_lcMap {j : Nat} (f : D → D) (hj : j ∈ vs) (h : WI B0 wi E C fun ds C1 => ds.length ≤ 1000000 ∧ (∀ x ∈ ds, W B0 te ((wipeE E vs).set j (some x)) C1 fun y C4 => y = f x ∧ C4 = C1) ∧ P (.lst (ds.map f)) C1) :
    W B0 (tLc wi (gName j) tYes te vs) E C P := by
  refine w_lc (fun rest acc C1 => ∃ ds, (∀ x ∈ ds, W B0 te ((wipeE E vs).set j (some x)) C1 fun y C4 => y = f x ∧ C4 = C1) ∧ P (.lst (ds.map f)) C1 ∧ ∃ pre, ds = pre ++ rest ∧ acc = pre.map f) (sets_name hj) ?_ ?_ ?_
  · exact fun B F σ H sb rl re R q => h B F σ H sb rl re R fun J ds B' C' H' e r jd ⟨a, b, c⟩ => q J ds B' C' H' e r jd ⟨a, ds, b, c, [], rfl, rfl⟩
  · rintro acc C1 ⟨ds, _, p, pre, rfl, rfl⟩
    simpa using p
  · rintro x xs acc C1 ⟨ds, hw, p, pre, rfl, rfl⟩
    refine wg_name (wt_yes ⟨fun _ => ?_, fun z => by cases z⟩)
    refine (hw x (by simp)).imp fun y C4 ⟨hy, hc⟩ => ?_
    subst hy hc
    exact ⟨_, hw, p, pre ++ [x], by simp, by simp⟩
/-- .. and each item that passes t -/
theorem w_lcFilter {j : Nat} (f : D → D) (b : D → Bool) (hj : j ∈ vs) (h : WI B0 wi E C fun ds C1 => ds.length ≤ 1000000 ∧
      (∀ x ∈ ds, WT B0 tt ((wipeE E vs).set j (some x)) C1 fun k C4 => k = b x ∧ C4 = C1) ∧
      (∀ x ∈ ds, b x = true → W B0 te ((wipeE E vs).set j (some x)) C1 fun y C4 => y = f x ∧ C4 = C1) ∧ P (.lst ((ds.filter b).map f)) C1) :
    W B0 (tLc wi (gName j) tt te vs) E C P := by
  refine w_lc (fun rest acc C1 => ∃ ds, (∀ x ∈ ds, WT B0 tt ((wipeE E vs).set j (some x)) C1 fun k C4 => k = b x ∧ C4 = C1) ∧ (∀ x ∈ ds, b x = true → W B0 te ((wipeE E vs).set j (some x)) C1 fun y C4 => y = f x ∧ C4 = C1) ∧ P (.lst ((ds.filter b).map f)) C1 ∧ ∃ pre, ds = pre ++ rest ∧ acc = (pre.filter b).map f) (sets_name hj) ?_ ?_ ?_
  · exact fun B F σ H sb rl re R q => h B F σ H sb rl re R fun J ds B' C' H' e r jd ⟨a, t, w, c⟩ => q J ds B' C' H' e r jd ⟨a, ds, t, w, c, [], rfl, rfl⟩
  · rintro acc C1 ⟨ds, _, _, p, pre, rfl, rfl⟩
    simpa using p
  · rintro x xs acc C1 ⟨ds, ht, hw, p, pre, rfl, rfl⟩
    refine wg_name ?_
    intro B F σ H sb rl re Q q
    refine ht x (by simp) B F σ H sb rl re Q fun k B' C' H' e rl' ⟨hk, hc⟩ => q k B' C' H' e rl' ⟨fun kt => ?_, fun kf => ?_⟩
    · subst hc
      rw [kt] at hk
      refine (hw x (by simp) hk.symm).imp fun y C4 ⟨hy, hc⟩ => ?_
      subst hy hc
      exact ⟨_, ht, hw, p, pre ++ [x], by simp, by simp [← hk]⟩
    · subst hc
      rw [kf] at hk
      exact ⟨_, ht, hw, p, pre ++ [x], by simp, by simp [← hk]⟩
end

/-! ### calls of defs -/
abbrev SpD := List D → CH → (D → CH → Prop) → Prop
def spD (f : SpD) : Sp := fun vs H Q _ => ∃ (B F : Hp) (C : CH) (ds : List D) (P : D → CH → Prop), Rel B C F H ∧ Reps B vs ds ∧ f ds C P ∧
  ∀ v d B' C' H', Same B B' → Rel B' C' F H' → Rep B' v d → P d C' → Q v H'
theorem w_call {B0 : Gr} {f : SpD} {E0' : XK} {tA : TA} {E : EnvD} {C : CH} {P : D → CH → Prop} (h : WA B0 tA E C fun ds C1 => f ds C1 P) : W B0 (tCall (spD f) [] E0' tA) E C P := fun B F σ H sb rl re Q q =>
  h B F σ H sb rl re _ fun vs ds B1 C1 H1 e1 rl1 rp p => ⟨B1, F, C1, ds, P, rl1, by rw [List.append_nil]; exact rp, p, fun v d B' C' H' e => q v d B' C' H' (e1.trans e)⟩
section
variable {P : Program} {w : World} {K : PySem.W.Frag} {mg : Str → Option Value} {base : Heap}
def Has (P : Program) (w : World) (K : PySem.W.Frag) (mg : Str → Option Value) (base : Heap) (k : Nat) (x : Str) (ps : List Str) (sp : Sp) : Prop :=
  ∃ f fd, FnOk P w K mg base CX0 k f fd ps sp ∧ mg x = some (.ref f) ∧ PySem.W.keepIn K (.ref f) = true ∧ Binds K fd ps []
/-- a def of the top, as it stands -/
def DefAt (K : PySem.W.Frag) (mg : Str → Option Value) (x : Str) (st : Stmt) (ps : List Str) : Prop :=
  ∃ f fd, Fun K x x st f fd ∧ mg x = some (.ref f) ∧ Binds K fd ps []
theorem Has.mono {j k : Nat} {x : Str} {ps : List Str} {sp : Sp} (h : Has P w K mg base j x ps sp) (l : j ≤ k) : Has P w K mg base k x ps sp := by
  obtain ⟨f, fd, a, b, c, d⟩ := h
  exact ⟨f, fd, a.mono l, b, c, d⟩
theorem Has.imp {k : Nat} {x : Str} {ps : List Str} {f g : SpD} (h : Has P w K mg base k x ps (spD f)) (l : ∀ ds C P, g ds C P → f ds C P) : Has P w K mg base k x ps (spD g) := by
  obtain ⟨a, fd, F, b, c, d⟩ := h
  exact ⟨a, fd, F.imp fun vs H Q E ⟨B, F, C, ds, P, r, rp, g, q⟩ => ⟨B, F, C, ds, P, r, rp, l _ _ _ g, q⟩, b, c, d⟩
theorem has_of {x : Str} {st : Stmt} {N ps : List Str} {k : Nat} {g : SpD} (Df : DefAt K mg x st ps) (S : FnScope N ps (defScope st)) (len : ∀ ds C P, g ds C P → ds.length = ps.length)
    (hbody : ∀ (f : Addr) (cdv : Value) (A : Around) (outer : List PySem.Env) (s : Shared) (H : Hp) (E : XK), Room k (A.deeper (PyProof.Rows.envOfC x (defScope st) s.heap.objs.size f cdv)) →
      ∃ t, PSs (cxOf CX0 P w K mg base N x (defScope st) f cdv A outer s H E).nox (defBody st) t ∧ ∀ (B : Gr) ds C PD, g ds C PD → WS B t (startD N.length ds) C { nx := fun _ C' => PD .non C', rt := PD }) :
    Has P w K mg base (k + 1) x ps (spD g) := by
  obtain ⟨f, fd, F, hm, hb⟩ := Df
  refine ⟨f, fd, F.ok S ?_ ?_, hm, F.kp, hb⟩
  · rintro vs H Q E ⟨B, F, C, ds, P, _, rp, h, _⟩
    rw [rp.length]
    exact len _ _ _ h
  · intro cdv A outer s H vs Q E hr h
    obtain ⟨t, h1, h2⟩ := hbody f cdv A outer s H E hr
    obtain ⟨B, F, C, ds, P, rl, rp, hg, q⟩ := h
    refine ⟨t, h1, h2 ⟨B, F⟩ ds C P hg B F _ H (Sb.refl B F) rl (RelE.begin rp) _ ⟨?_, ?_, ?_, ?_⟩⟩
    · exact fun σ' E' B' C' H' e rl' _ p => q .non .non B' C' H' e rl' .non p
    · exact fun v d B' C' H' e rl' rp' p => q v d B' C' H' e rl' rp' p
    · exact fun _ _ _ _ _ _ _ _ z => z
    · exact fun _ _ _ _ _ _ _ _ z => z
end
/-! ### what is called with the law's script -/
abbrev SpS := List Int → CH → (D → CH → Prop) → Prop
def spScr (K : PySem.W.Frag) (g : SpS) : Sp := fun vs H Q _ => ∃ (B F : Hp) (C : CH) (a : Addr) (ns : List Int) (P : D → CH → Prop), Rel B C F H ∧ vs = [.ref a] ∧ SqL K B a (ns.map V.int) ∧ g ns C P ∧
  ∀ v d B' C' H', Same B B' → Rel B' C' F H' → Rep B' v d → P d C' → Q v H'
theorem w_callScr {K : PySem.W.Frag} {B0 : Gr} {g : SpS} {E0' : XK} {E : EnvD} {C : CH} {P : D → CH → Prop} {i : Nat} {a : Addr} {ns : List Int} (he : E[i]? = some (some (.ref a))) (hs : SqL K B0.b a (ns.map V.int)) (h : g ns C P) :
    W B0 (tCall (spScr K g) [] E0' (tCons (tVar i) tNil)) E C P := fun B F σ H sb rl re Q q => by
  obtain ⟨v, h1, h2⟩ := re.get i _ he
  cases h2
  exact ⟨_, h1, B, F, C, a, ns, P, rl, rfl, sb.1.seq hs, h, q⟩
section
variable {P : Program} {w : World} {K : PySem.W.Frag} {mg : Str → Option Value} {base : Heap}
theorem fn_ofScr {x : Str} {st : Stmt} {N : List Str} {p : Str} {k : Nat} {g : SpS} {f : Addr} {fd : FuncData} (F : Fun K x x st f fd) (S : FnScope N [p] (defScope st))
    (hbody : ∀ (f : Addr) (cdv : Value) (A : Around) (outer : List PySem.Env) (s : Shared) (H : Hp) (E : XK), Room k (A.deeper (PyProof.Rows.envOfC x (defScope st) s.heap.objs.size f cdv)) →
      ∃ t, PSs (cxOf CX0 P w K mg base N x (defScope st) f cdv A outer s H E).nox (defBody st) t ∧ ∀ (B : Gr) a ns C PD, SqL K B.b a (ns.map V.int) → g ns C PD → WS B t (startD N.length [.ref a]) C { nx := fun _ C' => PD .non C', rt := PD }) :
    FnOk P w K mg base CX0 (k + 1) f fd [p] (spScr K g) := by
  refine F.ok S ?_ ?_
  · rintro vs H Q E ⟨B, F, C, a, ns, P, _, rfl, _⟩
    rfl
  · intro cdv A outer s H vs Q E hr h
    obtain ⟨t, h1, h2⟩ := hbody f cdv A outer s H E hr
    obtain ⟨B, F, C, a, ns, P, rl, rfl, hs, hg, q⟩ := h
    refine ⟨t, h1, h2 ⟨B, F⟩ a ns C P hs hg B F _ H (Sb.refl B F) rl (RelE.begin (.one .ref)) _ ⟨?_, ?_, ?_, ?_⟩⟩
    · exact fun σ' E' B' C' H' e rl' _ p => q .non .non B' C' H' e rl' .non p
    · exact fun v d B' C' H' e rl' rp' p => q v d B' C' H' e rl' rp' p
    · exact fun _ _ _ _ _ _ _ _ z => z
    · exact fun _ _ _ _ _ _ _ _ z => z
theorem has_ofScr {x : Str} {st : Stmt} {N : List Str} {p : Str} {k : Nat} {g : SpS} (Df : DefAt K mg x st [p]) (S : FnScope N [p] (defScope st))
    (hbody : ∀ (f : Addr) (cdv : Value) (A : Around) (outer : List PySem.Env) (s : Shared) (H : Hp) (E : XK), Room k (A.deeper (PyProof.Rows.envOfC x (defScope st) s.heap.objs.size f cdv)) →
      ∃ t, PSs (cxOf CX0 P w K mg base N x (defScope st) f cdv A outer s H E).nox (defBody st) t ∧ ∀ (B : Gr) a ns C PD, SqL K B.b a (ns.map V.int) → g ns C PD → WS B t (startD N.length [.ref a]) C { nx := fun _ C' => PD .non C', rt := PD }) :
    Has P w K mg base (k + 1) x [p] (spScr K g) := by
  obtain ⟨f, fd, F, hm, hb⟩ := Df
  exact ⟨f, fd, fn_ofScr F S hbody, hm, F.kp, hb⟩
/-- what law(script) promises -/
def spLaw (K : PySem.W.Frag) : Sp := fun vs H Q _ => ∃ (a : Addr) (ns : List Int), vs = [.ref a] ∧ SqL K H a (ns.map V.int) ∧ ns.length ≤ 63 ∧ ∀ H', Q (.bl true) H'
/-- the law from its promise over deep values -/
theorem law_of {k : Nat} {f : Addr} {fd : FuncData} {ps : List Str} (F : FnOk P w K mg base CX0 k f fd ps (spScr K fun ns C P => ns.length ≤ 63 ∧ C = (fun _ => none) ∧ ∀ C', P (.bl true) C')) : FnOk P w K mg base CX0 k f fd ps (spLaw K) :=
  F.imp fun vs H Q E ⟨a, ns, e, hs, hl, q⟩ => ⟨H, fun _ => none, fun _ => none, a, ns, fun d _ => d = .bl true, ⟨Same.refl H, (fun _ _ z => by cases z), (fun _ _ z => by cases z), (fun _ _ z => by cases z), (fun _ _ z => by cases z), (fun _ _ z => by cases z)⟩, e, hs,
    ⟨hl, rfl, fun _ => rfl⟩, fun v d B' C' H' _ _ rp e => by subst e; cases rp; exact q H'⟩
end
section
variable {X : Cx} {x : Str} {ps : List Str} {sp : Sp} {k : Nat} {p pos : Pos} {e : Expr} {es : List Expr} {t : TA}
theorem pe_def (h : Has X.prog X.w X.K X.mg X.base k x ps sp) (hr : Room k X.A) (ha : PA X (e :: es) t) (hg : Gl X x := by rfl) (hdb : (x == ("__debug__" : Str)) = false := by decide)
    (he : starEach (e :: es) X.env = (false, eval e X.env) :: starEach es X.env := by rfl) (hpl : (backTo pos (starEach es X.env)).any (·.1) = false := by rfl) (hx : ∀ CXX, CXX = CX0 → Passes CXX X E0 := by intro _ h; subst h; exact pass0) :
    PE X (.Call (.Name x p) (e :: es) [] pos) (tCall sp [] E0 t) := by
  obtain ⟨f, fd, F, hm, hk, hb⟩ := h
  exact pe_call F hr hg hm hk hb .nil (hx _ rfl) ha hdb he hpl
theorem pe_def0 (h : Has X.prog X.w X.K X.mg X.base k x ps sp) (hr : Room k X.A) (hg : Gl X x := by rfl) (hdb : (x == ("__debug__" : Str)) = false := by decide) (hx : ∀ CXX, CXX = CX0 → Passes CXX X E0 := by intro _ h; subst h; exact pass0) :
    PE X (.Call (.Name x p) [] [] pos) (tCall sp [] E0 tNil) := by
  obtain ⟨f, fd, F, hm, hk, hb⟩ := h
  exact pe_call0 F hr hg hm hk hb .nil (hx _ rfl) hdb
def IntAt (mg : Str → Option Value) (x : Str) (i : Int) : Prop := ∃ t, mg x = some (.int i t)
theorem pe_globI {i : Int} (h : IntAt X.mg x i) (hg : Gl X x := by rfl) (hd : (x == ("__debug__" : Str)) = false := by decide) : PE X (.Name x pos) (tC (.int i)) := by
  obtain ⟨t, h⟩ := h
  exact pe_glob hg h ⟨t, rfl⟩ hd
def StrAt (mg : Str → Option Value) (x : Str) (i : Str) : Prop := ∃ t, mg x = some (.str i t)
theorem pe_globS {i : Str} (h : StrAt X.mg x i) (hg : Gl X x := by rfl) (hd : (x == ("__debug__" : Str)) = false := by decide) : PE X (.Name x pos) (tC (.str i)) := by
  obtain ⟨t, h⟩ := h
  exact pe_glob hg h ⟨t, rfl⟩ hd
end
end Dv

set_option maxRecDepth 100000
set_option maxHeartbeats 1000000
/-! Built-ins, methods, dicts, isinstance. -/
namespace Dv
open PySem L2
section
variable {B0 : Gr} {C : CH} {P : D → CH → Prop} {x y d : D} {i j : Int} {K : PySem.W.Frag} {ds es : List D} {ns : List Int} {E : EnvD} {ks : List (Int × D)}

/-! ### arithmetic with a condition -/
theorem wr_mod (h : 0 < j) (k : P (.int (i % j)) C) : WR B0 (rI (fun _ j => 0 < j) fun i j => .int (i % j)) (.int i) (.int j) C P := wr_intC (g := fun i j => i % j) h k
theorem wr_fdiv (h : 0 < j) (h2 : j < 1073741824) (k : P (.int (i / j)) C) : WR B0 (rI CDiv fun i j => .int (i / j)) (.int i) (.int j) C P := wr_intC (g := fun i j => i / j) ⟨h, h2⟩ k
theorem wr_mul (h : (-18446744073709551616 < i ∧ i < 18446744073709551616) ∨ (-18446744073709551616 < j ∧ j < 18446744073709551616)) (k : P (.int (i * j)) C) : WR B0 (rI CMul fun i j => .int (i * j)) (.int i) (.int j) C P :=
  wr_intC (g := fun i j => i * j) (by rcases h with h | h; exact .inl ⟨by omega, by omega⟩; exact .inr ⟨by omega, by omega⟩) k
theorem wr_pow (h : 0 ≤ j ∧ j ≤ 1000000 ∧ i.natAbs < 18446744073709551616) (k : P (.int (i ^ j.toNat)) C) : WR B0 (rI CPow fun i j => .int (i ^ j.toNat)) (.int i) (.int j) C P := wr_intC (g := fun i j => i ^ j.toNat) ⟨h.1, h.2.1, by have := h.2.2; omega⟩ k

/-! ### len -/
def rLen1 (K : PySem.W.Frag) : List V → Hp → VK → Prop := fun xs H Q => ∃ p ys, xs = [.ref p] ∧ (SqL K H p ys ∨ SqT K H p ys) ∧ Q (.int ys.length) H
def rLen2 : List V → Hp → VK → Prop := fun xs H Q => ∃ z, xs = [.str z] ∧ z.length ≤ sizeLine ∧ Q (.int z.length) H
def rLen3 : List V → Hp → VK → Prop := fun xs H Q => ∃ a kvs, xs = [V.ref a] ∧ H a = some (.dK kvs) ∧ Q (.int kvs.length) H
def rLenU (K : PySem.W.Frag) : List V → Hp → VK → Prop := fun xs H Q => rLen1 K xs H Q ∨ rLen2 xs H Q ∨ rLen3 xs H Q
theorem call_lenU {X : Cx} : CallR X (.builtin "len") (rLenU X.K) := call_len_seq.or (call_len_str.or call_lenD)
theorem wc_len (h : SeqD C x ds) (k : P (.int (ds.length : Int)) C) : WC B0 (rLenU K) [x] C P := fun B F H vs _ rl r Q q => by
  cases r with
  | cons r1 r =>
    cases r
    obtain ⟨a, vs, rfl, hs, rr⟩ := seqD_rd (K := K) rl r1 h
    exact .inl ⟨a, vs, rfl, hs, by rw [rr.length]; exact q _ _ B C H (Same.refl B) rl .int k⟩
theorem wc_lenS {z : Str} (h : z.length ≤ 1000000) (k : P (.int (z.length : Int)) C) : WC B0 (rLenU K) [.str z] C P := fun B F H vs _ rl r Q q => by
  cases r with
  | cons r1 r =>
    cases r; cases r1
    exact .inr (.inl ⟨z, rfl, Nat.le_trans h (by decide), q _ _ B C H (Same.refl B) rl .int k⟩)
theorem wc_lenD (h : DicD C x ks) (k : P (.int (ks.length : Int)) C) : WC B0 (rLenU K) [x] C P := fun B F H vs _ rl r Q q => by
  cases r with
  | cons r1 r =>
    cases r
    obtain ⟨a, vs, rfl, hs, rr⟩ := dicD_rd rl r1 h
    exact .inr (.inr ⟨a, vs, rfl, hs, by rw [repK_len rr]; exact q _ _ B C H (Same.refl B) rl .int k⟩)

/-! ### max, min, sum, all, any, abs, int -/
def rMax2' : List V → Hp → VK → Prop := fun xs H Q => ∃ i j, xs = [.int i, .int j] ∧ Q (.int (if j > i then j else i)) H
def rMin2' : List V → Hp → VK → Prop := fun xs H Q => ∃ i j, xs = [.int i, .int j] ∧ Q (.int (if j < i then j else i)) H
def rMaxU (K : PySem.W.Frag) : List V → Hp → VK → Prop := fun xs H Q => rMax K xs H Q ∨ rMax2' xs H Q
def rMinU (K : PySem.W.Frag) : List V → Hp → VK → Prop := fun xs H Q => rMin K xs H Q ∨ rMin2' xs H Q
theorem call_maxU {X : Cx} (hc : X.calm = true) : CallR X (.builtin "max") (rMaxU X.K) := (cr_max hc).or (call_max2 hc)
theorem call_minU {X : Cx} (hc : X.calm = true) : CallR X (.builtin "min") (rMinU X.K) := (cr_min hc).or (call_min2 hc)
theorem max_if (i j : Int) : (if j > i then j else i) = max i j := by
  rw [Int.max_def]; split <;> split <;> omega
theorem min_if (i j : Int) : (if j < i then j else i) = min i j := by
  rw [Int.min_def]; split <;> split <;> omega
theorem wc_max2 (k : P (.int (max i j)) C) : WC B0 (rMaxU K) [.int i, .int j] C P := fun B F H vs _ rl r Q q => by
  cases r with
  | cons r1 r =>
    cases r with
    | cons r2 r =>
      cases r; cases r1; cases r2
      exact .inr ⟨i, j, rfl, by rw [max_if]; exact q _ _ B C H (Same.refl B) rl .int k⟩
theorem wc_min2 (k : P (.int (min i j)) C) : WC B0 (rMinU K) [.int i, .int j] C P := fun B F H vs _ rl r Q q => by
  cases r with
  | cons r1 r =>
    cases r with
    | cons r2 r =>
      cases r; cases r1; cases r2
      exact .inr ⟨i, j, rfl, by rw [min_if]; exact q _ _ B C H (Same.refl B) rl .int k⟩
theorem wc_maxL (h : LstD C x (ns.map D.int)) (h0 : 0 < ns.length) (k : ∀ m, m ∈ ns → (∀ y, y ∈ ns → y ≤ m) → P (.int m) C) : WC B0 (rMaxU K) [x] C P := fun B F H vs _ rl r Q q => by
  cases r with
  | cons r1 r =>
    cases r
    obtain ⟨a, vs, rfl, hs, rr⟩ := lstD_rd rl r1 h
    have e := rr.ints
    subst e
    exact .inl ⟨a, ns, rfl, SqL.of hs, h0, fun m hm hle => q _ _ B C H (Same.refl B) rl .int (k m hm hle)⟩
theorem wc_sum (h : LstD C x (ns.map D.int)) (k : P (.int ns.sum) C) : WC B0 (rSum K) [x] C P := fun B F H vs _ rl r Q q => by
  cases r with
  | cons r1 r =>
    cases r
    obtain ⟨a, vs, rfl, hs, rr⟩ := lstD_rd rl r1 h
    have e := rr.ints
    subst e
    exact ⟨a, ns, rfl, SqL.of hs, q _ _ B C H (Same.refl B) rl .int k⟩
theorem wc_all {bs : List Bool} (h : LstD C x (bs.map D.bl)) (k : P (.bl (bs.all id)) C) : WC B0 (rAll K) [x] C P := fun B F H vs _ rl r Q q => by
  cases r with
  | cons r1 r =>
    cases r
    obtain ⟨a, vs, rfl, hs, rr⟩ := lstD_rd rl r1 h
    have e := rr.bls
    subst e
    exact ⟨a, bs, rfl, SqL.of hs, q _ _ B C H (Same.refl B) rl .bl k⟩
theorem wc_any {bs : List Bool} (h : LstD C x (bs.map D.bl)) (k : P (.bl (bs.any id)) C) : WC B0 (rAny K) [x] C P := fun B F H vs _ rl r Q q => by
  cases r with
  | cons r1 r =>
    cases r
    obtain ⟨a, vs, rfl, hs, rr⟩ := lstD_rd rl r1 h
    have e := rr.bls
    subst e
    exact ⟨a, bs, rfl, SqL.of hs, q _ _ B C H (Same.refl B) rl .bl k⟩
def rAbs : List V → Hp → VK → Prop := fun xs H Q => ∃ i, xs = [.int i] ∧ Q (.int (if i < 0 then -i else i)) H
theorem call_absN {X : Cx} : CallR X (.builtin "abs") rAbs := call_abs
theorem abs_if (i : Int) : (if i < 0 then -i else i) = (i.natAbs : Int) := by split <;> omega
theorem wc_abs (k : P (.int (i.natAbs : Int)) C) : WC B0 rAbs [.int i] C P := fun B F H vs _ rl r Q q => by
  cases r with
  | cons r1 r =>
    cases r; cases r1
    exact ⟨i, rfl, by rw [abs_if]; exact q _ _ B C H (Same.refl B) rl .int k⟩
def rInt1 : List V → Hp → VK → Prop := fun xs H Q => (∃ i, xs = [.int i] ∧ Q (.int i) H) ∨ ∃ k, xs = [.bl k] ∧ Q (.int (if k then 1 else 0)) H
def rInt2 : List V → Hp → VK → Prop := fun xs H Q => ∃ a n, xs = [.str a] ∧ PySem.intText? a = some n ∧ a.length ≤ 640 ∧ Q (.int n) H
def rIntU : List V → Hp → VK → Prop := fun xs H Q => rInt1 xs H Q ∨ rInt2 xs H Q
theorem call_intU {X : Cx} : CallR X (.type "int") rIntU := call_int1.or call_int_str
theorem wc_int (k : P (.int i) C) : WC B0 rIntU [.int i] C P := fun B F H vs _ rl r Q q => by
  cases r with
  | cons r1 r =>
    cases r; cases r1
    exact .inl (.inl ⟨i, rfl, q _ _ B C H (Same.refl B) rl .int k⟩)
theorem wc_intS {a : Str} {n : Int} (h1 : PySem.intText? a = some n) (h2 : a.length ≤ 640) (k : P (.int n) C) : WC B0 rIntU [.str a] C P := fun B F H vs _ rl r Q q => by
  cases r with
  | cons r1 r =>
    cases r; cases r1
    exact .inr ⟨a, n, rfl, h1, h2, q _ _ B C H (Same.refl B) rl .int k⟩

/-! ### list(..), tuple(..), dict(..) -/
def rLst1 (K : PySem.W.Frag) : List V → Hp → VK → Prop := fun xs H Q => ∃ p ys, xs = [.ref p] ∧ (SqL K H p ys ∨ SqT K H p ys) ∧ ∀ l, H l = none → Q (.ref l) (upd H l (.lst ys))
def rLstU (K : PySem.W.Frag) : List V → Hp → VK → Prop := fun xs H Q => rLst1 K xs H Q ∨ rListD xs H Q
theorem call_lstU {X : Cx} (hc : X.calm = true) : CallR X (.type "list") (rLstU X.K) := call_list_of.or (call_list_dK hc)
theorem wc_list (h : SeqD C x ds) (k : P (.lst ds) C) : WC B0 (rLstU K) [x] C P := fun B F H vs _ rl r Q q => by
  cases r with
  | cons r1 r =>
    cases r
    obtain ⟨a, vs, rfl, hs, rr⟩ := seqD_rd (K := K) rl r1 h
    exact .inl ⟨a, vs, rfl, hs, fun l hl => by
      have e := same_upd (o := .lst vs) (rl.noB hl)
      exact q _ _ _ C _ e (rl.new hl) (.lst upd_same (rr.mono e)) k⟩
theorem wc_listC (h : SeqD C x ds) (k : ∀ a, C a = none → P (.ref a) (updC C a (.lst ds))) : WC B0 (rLstU K) [x] C P := fun B F H vs _ rl r Q q => by
  cases r with
  | cons r1 r =>
    cases r
    obtain ⟨a, vs, rfl, hs, rr⟩ := seqD_rd (K := K) rl r1 h
    exact .inl ⟨a, vs, rfl, hs, fun l hl => q _ _ B _ _ (Same.refl B) (rl.newC hl (.lst rr)) .ref (k l (rl.noC hl))⟩
theorem repK_keys {B : Hp} {vs : List (Key × V)} {ks : List (Int × D)} (r : RepK B vs ks) : vs.map (fun kv => kV kv.1) = (ks.map (·.1)).map V.int := by
  induction vs generalizing ks with
  | nil => cases r; rfl
  | cons p vs ih =>
    cases r with
    | cons h r =>
      rw [List.map_cons, List.map_cons, List.map_cons, ih r]
      rfl
theorem wc_listK (h : DicD C x ks) (k : P (.lst ((ks.map (·.1)).map D.int)) C) : WC B0 (rLstU K) [x] C P := fun B F H vs _ rl r Q q => by
  cases r with
  | cons r1 r =>
    cases r
    obtain ⟨a, vs, rfl, hs, rr⟩ := dicD_rd rl r1 h
    refine .inr ⟨a, vs, rfl, hs, fun l hl => ?_⟩
    have e := same_upd (o := .lst (vs.map fun kv => kV kv.1)) (rl.noB hl)
    exact q _ _ _ C _ e (rl.new hl) (.lst upd_same (by rw [repK_keys rr]; exact Reps.ofInts _)) k
/-- the law's script, read once -/
theorem wc_listScr {a : Addr} (h : SqL K B0.b a (ns.map V.int)) (k : P (.lst (ns.map D.int)) C) : WC B0 (rLstU K) [.ref a] C P := fun B F H vs sb rl r Q q => by
  cases r with
  | cons r1 r =>
    cases r; cases r1
    refine .inl ⟨a, _, rfl, .inl (rl.ex.seq (sb.1.seq h)), fun l hl => ?_⟩
    have e := same_upd (o := .lst (ns.map V.int)) (rl.noB hl)
    exact q _ _ _ C _ e (rl.new hl) (.lst upd_same (Reps.ofInts ns)) k
def rTupU (K : PySem.W.Frag) : List V → Hp → VK → Prop := fun xs H Q => ∃ p ys, xs = [.ref p] ∧ ((SqL K H p ys ∧ ∀ l, H l = none → Q (.ref l) (upd H l (.tup ys))) ∨ (SqT K H p ys ∧ Q (.ref p) H))
theorem call_tupU {X : Cx} : CallR X (.type "tuple") (rTupU X.K) := call_tuple_of
theorem wc_tuple (h : LstD C x ds) (k : P (.tup ds) C) : WC B0 (rTupU K) [x] C P := fun B F H vs _ rl r Q q => by
  cases r with
  | cons r1 r =>
    cases r
    obtain ⟨a, vs, rfl, hs, rr⟩ := lstD_rd rl r1 h
    refine ⟨a, vs, rfl, .inl ⟨SqL.of hs, fun l hl => ?_⟩⟩
    have e := same_upd (o := .tup vs) (rl.noB hl)
    exact q _ _ _ C _ e (rl.new hl) (.tup upd_same (rr.mono e)) k
theorem wc_tupleT (k : P (.tup ds) C) : WC B0 (rTupU K) [.tup ds] C P := fun B F H vs _ rl r Q q => by
  cases r with
  | cons r1 r =>
    cases r
    cases r1 with
    | tup ha rr => exact ⟨_, _, rfl, .inr ⟨SqT.of (rl.ex _ _ ha), q _ _ B C H (Same.refl B) rl (.tup ha rr) k⟩⟩
def rDictD : List V → Hp → VK → Prop := fun xs H Q => ∃ (a : Addr) (kvs : List (Key × V)), xs = [.ref a] ∧ Rd H a (.dK kvs) ∧ ∀ p, H p = none → Q (.ref p) (upd H p (.dK kvs))
theorem call_dictN {X : Cx} : CallR X (.type "dict") rDictD := call_dictD
theorem wc_dict (h : DicD C x ks) (k : P (.dic ks) C) : WC B0 rDictD [x] C P := fun B F H vs _ rl r Q q => by
  cases r with
  | cons r1 r =>
    cases r
    obtain ⟨a, vs, rfl, hs, rr⟩ := dicD_rd rl r1 h
    refine ⟨a, vs, rfl, .inl hs, fun l hl => ?_⟩
    have e := same_upd (o := .dK vs) (rl.noB hl)
    exact q _ _ _ C _ e (rl.new hl) (.dic upd_same (rr.mono e)) k
theorem wc_dictC (h : DicD C x ks) (k : ∀ a, C a = none → P (.ref a) (updC C a (.dic ks))) : WC B0 rDictD [x] C P := fun B F H vs _ rl r Q q => by
  cases r with
  | cons r1 r =>
    cases r
    obtain ⟨a, vs, rfl, hs, rr⟩ := dicD_rd rl r1 h
    exact ⟨a, vs, rfl, .inl hs, fun l hl => q _ _ B _ _ (Same.refl B) (rl.newC hl (.dic rr)) .ref (k l (rl.noC hl))⟩

/-! ### methods of lists -/
def WM (B0 : Gr) (r : V → List V → Hp → VK → Prop) (o : D) (ds : List D) (C : CH) (P : D → CH → Prop) : Prop :=
  ∀ (B F H : Hp) (vo : V) (vs : List V), Sb B0 B F → Rel B C F H → Rep B vo o → Reps B vs ds → ∀ Q : VK,
    (∀ v d B' C' H', Same B B' → Rel B' C' F H' → Rep B' v d → P d C' → Q v H') → r vo vs H Q
theorem w_bmL {r : V → List V → Hp → VK → Prop} {to : TE} {t : TA} (h : W B0 to E C fun o C1 => (∃ ds, LstD C1 o ds) ∧ WA B0 t E C1 fun ds C2 => WM B0 r o ds C2 P) : W B0 (tBM K "list" r to t) E C P := fun B F σ H sb rl re Q q =>
  h B F σ H sb rl re _ fun v d B1 C1 H1 e1 rl1 rp ⟨⟨ds, l⟩, h1⟩ => by
    obtain ⟨a, vs, rfl, ha, _⟩ := lstD_rd rl1 rp l
    refine ⟨.inl ⟨rfl, vs, SqL.of ha⟩, h1 B1 F σ H1 (sb.trans e1) rl1 (re.mono e1) _ fun ws es B2 C2 H2 e2 rl2 rp2 h2 => ?_⟩
    exact h2 B2 F H2 _ ws (sb.trans (e1.trans e2)) rl2 (rp.mono e2) rp2 Q fun v d B3 C3 H3 e3 => q v d B3 C3 H3 ((e1.trans e2).trans e3)
theorem w_bmL0 {r : V → List V → Hp → VK → Prop} {to : TE} (h : W B0 to E C fun o C1 => (∃ ds, LstD C1 o ds) ∧ WM B0 r o [] C1 P) : W B0 (tBM0 K "list" r to) E C P := fun B F σ H sb rl re Q q =>
  h B F σ H sb rl re _ fun v d B1 C1 H1 e1 rl1 rp ⟨⟨ds, l⟩, h1⟩ => by
    obtain ⟨a, vs, rfl, ha, _⟩ := lstD_rd rl1 rp l
    refine ⟨.inl ⟨rfl, vs, SqL.of ha⟩, ?_⟩
    exact h1 B1 F H1 _ [] (sb.trans e1) rl1 rp .nil Q fun v d B3 C3 H3 e3 => q v d B3 C3 H3 (e1.trans e3)
theorem wm_append {a : Addr} (h : C a = some (.lst ds)) (hl : ds.length < 1000000) (k : P .non (updC C a (.lst (ds ++ [d])))) : WM B0 rAppend (.ref a) [d] C P := fun B F H vo vs _ rl ho r Q q => by
  cases ho
  cases r with
  | cons r1 r =>
    cases r
    obtain ⟨o, h1, h2⟩ := rl.own _ _ h
    cases h2 with
    | @lst ws _ rr =>
      exact ⟨a, ws, _, rfl, rfl, h1, by rw [rr.length]; exact Nat.lt_trans hl (by decide), q _ _ B _ _ (Same.refl B) (rl.write h (.lst (rr.append (.one r1)))) .non k⟩
theorem wm_extend {a : Addr} (h : C a = some (.lst ds)) (hy : LstD C y es) (hl : ds.length + es.length ≤ 1000000) (k : P .non (updC C a (.lst (ds ++ es)))) : WM B0 rExtend (.ref a) [y] C P := fun B F H vo vs _ rl ho r Q q => by
  cases ho
  cases r with
  | cons r1 r =>
    cases r
    obtain ⟨o, h1, h2⟩ := rl.own _ _ h
    obtain ⟨b, zs, rfl, hb, rz⟩ := lstD_rd rl r1 hy
    cases h2 with
    | @lst ws _ rr =>
      exact ⟨a, b, ws, zs, rfl, rfl, h1, hb, by rw [rr.length, rz.length]; exact Nat.le_trans hl (by decide), q _ _ B _ _ (Same.refl B) (rl.write h (.lst (rr.append rz))) .non k⟩
def rInsert : V → List V → Hp → VK → Prop := fun x vs H Q => ∃ (l : Addr) (xs : List V) (i : Int) (y : V), x = .ref l ∧ vs = [.int i, y] ∧ H l = some (.lst xs) ∧ xs.length < sizeLine ∧ 0 ≤ i ∧ i < 2 ^ 63 ∧
    Q .non (upd H l (.lst (xs.take i.toNat ++ [y] ++ xs.drop i.toNat)))
theorem mt_insertN {X : Cx} : MtM X "list.insert" rInsert := mt_insert
theorem wm_insert {a : Addr} (h : C a = some (.lst ds)) (hl : ds.length < 1000000) (h0 : 0 ≤ i) (h1 : i < 2 ^ 63) (k : P .non (updC C a (.lst (ds.take i.toNat ++ [d] ++ ds.drop i.toNat)))) : WM B0 rInsert (.ref a) [.int i, d] C P := fun B F H vo vs _ rl ho r Q q => by
  cases ho
  cases r with
  | cons r1 r =>
    cases r1
    cases r with
    | cons r2 r =>
      cases r
      obtain ⟨o, g1, h2⟩ := rl.own _ _ h
      cases h2 with
      | @lst ws _ rr =>
        exact ⟨a, ws, i, _, rfl, rfl, g1, by rw [rr.length]; exact Nat.lt_trans hl (by decide), h0, h1, q _ _ B _ _ (Same.refl B) (rl.write h (.lst (((rr.take _).append (.one r2)).append (rr.drop _)))) .non k⟩
theorem wm_pop {a : Addr} (h : C a = some (.lst ds)) (he : ds[ds.length - 1]? = some d) (k : P d (updC C a (.lst (ds.take (ds.length - 1))))) : WM B0 rPop (.ref a) [] C P := fun B F H vo vs _ rl ho r Q q => by
  cases ho
  cases r
  obtain ⟨o, g1, h2⟩ := rl.own _ _ h
  cases h2 with
  | @lst ws _ rr =>
    obtain ⟨v, hv, rv⟩ := rr.get he
    refine ⟨a, ws, v, rfl, rfl, g1, by rw [rr.length]; exact hv, ?_⟩
    rw [List.dropLast_eq_take, rr.length]
    exact q _ _ B _ _ (Same.refl B) (rl.write h (.lst (rr.take _))) rv k

/-! ### a op b op c; fewer cells told -/
theorem w_chain {r r' : R2} {ta tb tc : TE} (h : W B0 ta E C fun x C1 => W B0 tb E C1 fun y C2 => WR B0 r x y C2 fun z C3 => ∃ k, z = .bl k ∧ (k = true → W B0 tc E C3 fun u C4 => WR B0 r' y u C4 P) ∧ (k = false → P (.bl false) C3)) : W B0 (tChain r r' ta tb tc) E C P := fun B F σ H sb rl re Q q =>
  h B F σ H sb rl re _ fun v1 d1 B1 C1 H1 e1 rl1 rp1 h1 => h1 B1 F σ H1 (sb.trans e1) rl1 (re.mono e1) _ fun v2 d2 B2 C2 H2 e2 rl2 rp2 h2 =>
    h2 B2 F H2 v1 v2 (sb.trans (e1.trans e2)) rl2 (rp1.mono e2) rp2 _ fun v3 d3 B3 C3 H3 e3 rl3 rp3 ⟨k, hk, p1, p2⟩ => by
      subst hk
      cases rp3
      refine ⟨k, rfl, ?_⟩
      cases k with
      | false => exact q _ _ B3 C3 H3 ((e1.trans e2).trans e3) rl3 .bl (p2 rfl)
      | true =>
        exact p1 rfl B3 F σ H3 (sb.trans ((e1.trans e2).trans e3)) rl3 (re.mono ((e1.trans e2).trans e3)) _ fun v4 d4 B4 C4 H4 e4 rl4 rp4 h4 =>
          h4 B4 F H4 v2 v4 (sb.trans (((e1.trans e2).trans e3).trans e4)) rl4 (rp2.mono (e3.trans e4)) rp4 Q fun v d B5 C5 H5 e5 => q v d B5 C5 H5 ((((e1.trans e2).trans e3).trans e4).trans e5)
theorem Rel.sub {B F H : Hp} {C C2 : CH} (r : Rel B C F H) (h : ∀ a c, C2 a = some c → C a = some c) : Rel B C2 F H where
  ex := r.ex
  fr := r.fr
  bf := r.bf
  cf := fun a o q => by
    cases e : C2 a with
    | none => rfl
    | some c => have := h a c e; rw [r.cf a o q] at this; cases this
  bc := fun a c q => r.bc a c (h a c q)
  own := fun a c q => r.own a c (h a c q)
theorem w_weak {te : TE} (h : W B0 te E C fun d C1 => ∃ C2 : CH, (∀ a c, C2 a = some c → C1 a = some c) ∧ P d C2) : W B0 te E C P := fun B F σ H sb rl re Q q =>
  h B F σ H sb rl re Q fun v d B1 C1 H1 e1 rl1 rp ⟨C2, h2, p⟩ => q v d B1 C2 H1 e1 (rl1.sub h2) rp p

def Sub (C2 C1 : CH) : Prop := ∀ a c, C2 a = some c → C1 a = some c
theorem Sub.refl (C : CH) : Sub C C := fun _ _ h => h
theorem Sub.trans {C1 C2 C3 : CH} (a : Sub C1 C2) (b : Sub C2 C3) : Sub C1 C3 := fun x c h => b x c (a x c h)
theorem sub_updC {a : Addr} {c : Cell} (h : C a = none) : Sub C (updC C a c) := fun b c' e => by
  rw [updC_ne (fun z => by rw [z, h] at e; cases e)]; exact e
/-- fewer cells are told at the end -/
theorem ws_weak {t : TS} {D1 : EndD} (h : WS B0 t E C { D1 with rt := fun d C1 => ∃ C2 : CH, Sub C2 C1 ∧ D1.rt d C2 }) : WS B0 t E C D1 := fun B F σ H sb rl re Dn ok =>
  h B F σ H sb rl re Dn ⟨ok.nx, fun v d B' C' H' e rl' rp ⟨C2, s, k⟩ => ok.rt v d B' C2 H' e (rl'.sub s) rp k, ok.bk, ok.ct⟩

/-! ### a cell is frozen where it is handed on -/
theorem w_varF {i : Nat} {a : Addr} (he : E[i]? = some (some (.ref a))) (hc : C a = some (.lst ds)) (k : P (.lst ds) (delC C a)) : W B0 (tVar i) E C P := fun B F σ H _ rl re Q q => by
  obtain ⟨v, h1, h2⟩ := re.get i _ he
  cases h2
  obtain ⟨o, g1, g2⟩ := rl.own _ _ hc
  cases g2 with
  | @lst vs _ r =>
    have s := same_upd (o := .lst vs) (rl.bc _ _ hc)
    exact ⟨_, h1, q _ _ _ _ H s (rl.freeze hc g1) (.lst upd_same (r.mono s)) k⟩
theorem w_varFD {i : Nat} {a : Addr} (he : E[i]? = some (some (.ref a))) (hc : C a = some (.dic ks)) (k : P (.dic ks) (delC C a)) : W B0 (tVar i) E C P := fun B F σ H _ rl re Q q => by
  obtain ⟨v, h1, h2⟩ := re.get i _ he
  cases h2
  obtain ⟨o, g1, g2⟩ := rl.own _ _ hc
  cases g2 with
  | @dic vs _ r =>
    have s := same_upd (o := .dK vs) (rl.bc _ _ hc)
    exact ⟨_, h1, q _ _ _ _ H s (rl.freeze hc g1) (.dic upd_same (r.mono s)) k⟩
/-- the state told otherwise: a cell frozen, its name's slot told by its content -/
theorem ws_freeze {i : Nat} {a : Addr} {t : TS} {D1 : EndD} (he : E[i]? = some (some (.ref a))) (hc : C a = some (.lst ds)) (k : WS B0 t (E.set i (some (.lst ds))) (delC C a) D1) : WS B0 t E C D1 := fun B F σ H sb rl re Dn ok => by
  obtain ⟨v, h1, h2⟩ := re.get i _ he
  cases h2
  obtain ⟨o, g1, g2⟩ := rl.own _ _ hc
  cases g2 with
  | @lst vs _ r =>
    have s := same_upd (o := .lst vs) (rl.bc _ _ hc)
    have e : σ.set i (some (.ref a)) = σ := by
      apply List.ext_getElem?
      intro j
      by_cases q : i = j
      · subst q
        rw [List.getElem?_set_self (List.getElem?_eq_some_iff.mp h1).1, h1]
      · rw [List.getElem?_set_ne q]
    have re2 := (re.mono s).set i (v := .ref a) (d := .lst ds) (.lst upd_same (r.mono s))
    rw [e] at re2
    exact k _ F σ H (sb.trans s) (rl.freeze hc g1) re2 Dn (ok.mono s)
theorem ws_freezeD {i : Nat} {a : Addr} {t : TS} {D1 : EndD} (he : E[i]? = some (some (.ref a))) (hc : C a = some (.dic ks)) (k : WS B0 t (E.set i (some (.dic ks))) (delC C a) D1) : WS B0 t E C D1 := fun B F σ H sb rl re Dn ok => by
  obtain ⟨v, h1, h2⟩ := re.get i _ he
  cases h2
  obtain ⟨o, g1, g2⟩ := rl.own _ _ hc
  cases g2 with
  | @dic vs _ r =>
    have s := same_upd (o := .dK vs) (rl.bc _ _ hc)
    have e : σ.set i (some (.ref a)) = σ := by
      apply List.ext_getElem?
      intro j
      by_cases q : i = j
      · subst q
        rw [List.getElem?_set_self (List.getElem?_eq_some_iff.mp h1).1, h1]
      · rw [List.getElem?_set_ne q]
    have re2 := (re.mono s).set i (v := .ref a) (d := .dic ks) (.dic upd_same (r.mono s))
    rw [e] at re2
    exact k _ F σ H (sb.trans s) (rl.freeze hc g1) re2 Dn (ok.mono s)

/-! ### stores o[i] = v -/
def WSet (B0 : Gr) (t : TSet) (o i v : D) (C : CH) (N : CH → Prop) : Prop :=
  ∀ (B F H : Hp) (vo vi vv : V), Sb B0 B F → Rel B C F H → Rep B vo o → Rep B vi i → Rep B vv v → ∀ Q : Hp → Prop, (∀ B' C' H', Same B B' → Rel B' C' F H' → N C' → Q H') → t vo vi vv H Q
theorem wg_sub {to ti : TE} {t : TSet} {N : EnvD → CH → Prop} (h : W B0 to E C fun o C1 => W B0 ti E C1 fun i C2 => WSet B0 t o i d C2 fun C3 => N E C3) : WG B0 (gSub to ti t) d E C N := fun B F σ H v sb rl re rp Q q =>
  h B F σ H sb rl re _ fun v1 d1 B1 C1 H1 e1 rl1 rp1 h1 => h1 B1 F σ H1 (sb.trans e1) rl1 (re.mono e1) _ fun v2 d2 B2 C2 H2 e2 rl2 rp2 h2 =>
    h2 B2 F H2 v1 v2 v (sb.trans (e1.trans e2)) rl2 (rp1.mono e2) rp2 (rp.mono (e1.trans e2)) _ fun B3 C3 H3 e3 rl3 n => q σ E B3 C3 H3 ((e1.trans e2).trans e3) rl3 (re.mono ((e1.trans e2).trans e3)) n
theorem wset_list {a : Addr} {v : D} {n : Nat} {N : CH → Prop} (h : C a = some (.lst ds)) (hi : ixN ds.length i = some n) (k : N (updC C a (.lst (ds.set n v)))) : WSet B0 rSetL (.ref a) (.int i) v C N := fun B F H vo vi vv _ rl ho hi' hv Q q => by
  cases ho; cases hi'
  obtain ⟨o, g1, h2⟩ := rl.own _ _ h
  cases h2 with
  | @lst ws _ rr => exact ⟨a, ws, i, n, rfl, rfl, g1, by rw [rr.length]; exact hi, q B _ _ (Same.refl B) (rl.write h (.lst (rr.set hv n))) k⟩

/-! ### dicts -/
theorem w_dnew (k : P (.dic []) C) : W B0 tDNewK E C P := fun B F σ H _ rl _ Q q a ha => by
  have e := same_upd (o := .dK []) (rl.noB ha)
  exact q _ _ _ C _ e (rl.new ha) (.dic upd_same .nil) k
theorem w_dnewC (k : ∀ a, C a = none → P (.ref a) (updC C a (.dic []))) : W B0 tDNewK E C P := fun B F σ H _ rl _ Q q a ha =>
  q _ _ B _ _ (Same.refl B) (rl.newC ha (.dic .nil)) .ref (k a (rl.noC ha))
theorem w_dget {td ty : TE} (h : W B0 td E C fun x C1 => W B0 ty E C1 fun y C2 => ∃ ks k d, DicD C2 x ks ∧ y = .int k ∧ lookD ks k = some d ∧ P d C2) : W B0 (tDGet td ty) E C P := fun B F σ H sb rl re Q q =>
  h B F σ H sb rl re _ fun v1 d1 B1 C1 H1 e1 rl1 rp1 h1 => h1 B1 F σ H1 (sb.trans e1) rl1 (re.mono e1) _ fun v2 d2 B2 C2 H2 e2 rl2 rp2 ⟨ks, k, d, hd, hk, hl, p⟩ => by
    subst hk
    cases rp2
    obtain ⟨a, vs, rfl, ha, r⟩ := dicD_rd rl2 (rp1.mono e2) hd
    obtain ⟨v, g1, g2⟩ := (repK_look r k).2 d hl
    have g := DGet.k (k := Sum.inl k) ha
    rw [g1] at g
    exact ⟨a, v, rfl, g, q v d B2 C2 H2 (e1.trans e2) rl2 g2 p⟩
/-- what is found under a key, or else -/
def getD' (ks : List (Int × D)) (k : Int) (z : D) : D := (lookD ks k).getD z
theorem w_dget1 {td ty : TE} (h : W B0 td E C fun x C1 => (∃ ks, DicD C1 x ks) ∧ W B0 ty E C1 fun y C2 => ∃ ks k, DicD C2 x ks ∧ y = .int k ∧ P (getD' ks k .non) C2) : W B0 (tDGet1 td ty) E C P := fun B F σ H sb rl re Q q =>
  h B F σ H sb rl re _ fun v1 d1 B1 C1 H1 e1 rl1 rp1 ⟨⟨ks0, hd0⟩, h1⟩ => by
    obtain ⟨a, vs0, rfl, ha0, _⟩ := dicD_rd rl1 rp1 hd0
    refine ⟨a, rfl, .inl ⟨vs0, .inl ha0⟩, h1 B1 F σ H1 (sb.trans e1) rl1 (re.mono e1) _ fun v2 d2 B2 C2 H2 e2 rl2 rp2 ⟨ks, k, hd, hk, p⟩ => ?_⟩
    subst hk
    cases rp2
    obtain ⟨a', vs, e, ha, r⟩ := dicD_rd rl2 (rp1.mono e2) hd
    cases e
    refine ⟨_, DGet.k (k := Sum.inl k) ha, ?_⟩
    unfold getD' at p
    cases g : lookD ks k with
    | none =>
      rw [(repK_look r k).1 g]
      rw [g] at p
      exact q _ _ B2 C2 H2 (e1.trans e2) rl2 .non p
    | some d =>
      obtain ⟨v, g1, g2⟩ := (repK_look r k).2 d g
      rw [g1]
      rw [g] at p
      exact q v d B2 C2 H2 (e1.trans e2) rl2 g2 p
theorem w_dget2 {td ty tx : TE} (h : W B0 td E C fun x C1 => (∃ ks, DicD C1 x ks) ∧ W B0 ty E C1 fun y C2 => W B0 tx E C2 fun z C3 => ∃ ks k, DicD C3 x ks ∧ y = .int k ∧ P (getD' ks k z) C3) : W B0 (tDGet2 td ty tx) E C P := fun B F σ H sb rl re Q q =>
  h B F σ H sb rl re _ fun v1 d1 B1 C1 H1 e1 rl1 rp1 ⟨⟨ks0, hd0⟩, h1⟩ => by
    obtain ⟨a, vs0, rfl, ha0, _⟩ := dicD_rd rl1 rp1 hd0
    refine ⟨a, rfl, .inl ⟨vs0, .inl ha0⟩, h1 B1 F σ H1 (sb.trans e1) rl1 (re.mono e1) _ fun v2 d2 B2 C2 H2 e2 rl2 rp2 h2 =>
      h2 B2 F σ H2 (sb.trans (e1.trans e2)) rl2 (re.mono (e1.trans e2)) _ fun v3 d3 B3 C3 H3 e3 rl3 rp3 ⟨ks, k, hd, hk, p⟩ => ?_⟩
    subst hk
    cases rp2
    obtain ⟨a', vs, e, ha, r⟩ := dicD_rd rl3 (rp1.mono (e2.trans e3)) hd
    cases e
    refine ⟨_, DGet.k (k := Sum.inl k) ha, ?_⟩
    unfold getD' at p
    cases g : lookD ks k with
    | none =>
      rw [(repK_look r k).1 g]
      rw [g] at p
      exact q _ _ B3 C3 H3 ((e1.trans e2).trans e3) rl3 rp3 p
    | some d =>
      obtain ⟨v, g1, g2⟩ := (repK_look r k).2 d g
      rw [g1]
      rw [g] at p
      exact q v d B3 C3 H3 ((e1.trans e2).trans e3) rl3 g2 p
theorem isSome_look {B : Hp} {vs : List (Key × V)} (r : RepK B vs ks) (k : Int) : (valV vs (Sum.inl k)).isSome = (lookD ks k).isSome := by
  cases g : lookD ks k with
  | none => rw [(repK_look r k).1 g]; rfl
  | some d =>
    obtain ⟨v, g1, _⟩ := (repK_look r k).2 d g
    rw [g1]; rfl
theorem w_din {td ty : TE} (h : W B0 ty E C fun y C1 => W B0 td E C1 fun x C2 => ∃ ks k, DicD C2 x ks ∧ y = .int k ∧ P (.bl (lookD ks k).isSome) C2) : W B0 (tDIn ty td) E C P := fun B F σ H sb rl re Q q =>
  h B F σ H sb rl re _ fun v1 d1 B1 C1 H1 e1 rl1 rp1 h1 => h1 B1 F σ H1 (sb.trans e1) rl1 (re.mono e1) _ fun v2 d2 B2 C2 H2 e2 rl2 rp2 ⟨ks, k, hd, hk, p⟩ => by
    subst hk
    cases rp1
    obtain ⟨a, vs, rfl, ha, r⟩ := dicD_rd rl2 rp2 hd
    exact ⟨a, _, rfl, DGet.k (k := Sum.inl k) ha, by rw [isSome_look r k]; exact q _ _ B2 C2 H2 (e1.trans e2) rl2 .bl p⟩
theorem w_dnotin {td ty : TE} (h : W B0 ty E C fun y C1 => W B0 td E C1 fun x C2 => ∃ ks k, DicD C2 x ks ∧ y = .int k ∧ P (.bl (!(lookD ks k).isSome)) C2) : W B0 (tDNotIn ty td) E C P := fun B F σ H sb rl re Q q =>
  h B F σ H sb rl re _ fun v1 d1 B1 C1 H1 e1 rl1 rp1 h1 => h1 B1 F σ H1 (sb.trans e1) rl1 (re.mono e1) _ fun v2 d2 B2 C2 H2 e2 rl2 rp2 ⟨ks, k, hd, hk, p⟩ => by
    subst hk
    cases rp1
    obtain ⟨a, vs, rfl, ha, r⟩ := dicD_rd rl2 rp2 hd
    exact ⟨a, _, rfl, DGet.k (k := Sum.inl k) ha, by rw [isSome_look r k]; exact q _ _ B2 C2 H2 (e1.trans e2) rl2 .bl p⟩
theorem ws_dput {td ty tv : TE} {D1 : EndD} (h : W B0 tv E C fun v C1 => W B0 td E C1 fun x C2 => W B0 ty E C2 fun y C3 => ∃ a ks k, x = .ref a ∧ y = .int k ∧ C3 a = some (.dic ks) ∧ ks.length < 1000000 ∧ D1.nx E (updC C3 a (.dic (putD ks k v)))) : WS B0 (sDPut td ty tv) E C D1 := fun B F σ H sb rl re Dn ok =>
  h B F σ H sb rl re _ fun v1 d1 B1 C1 H1 e1 rl1 rp1 h1 => h1 B1 F σ H1 (sb.trans e1) rl1 (re.mono e1) _ fun v2 d2 B2 C2 H2 e2 rl2 rp2 h2 =>
    h2 B2 F σ H2 (sb.trans (e1.trans e2)) rl2 (re.mono (e1.trans e2)) _ fun v3 d3 B3 C3 H3 e3 rl3 rp3 ⟨a, ks, k, hx, hy, hc, hl, n⟩ => by
      subst hx hy
      cases rp2; cases rp3
      obtain ⟨o, g1, g2⟩ := rl3.own _ _ hc
      cases g2 with
      | @dic vs _ r =>
        refine ⟨a, _, rfl, DPut.k (k := Sum.inl k) g1 (by rw [repK_len r]; exact Nat.lt_trans hl (by decide)), ?_⟩
        exact ok.nx σ E B3 _ _ ((e1.trans e2).trans e3) (rl3.write hc (.dic (repK_put r k (rp1.mono (e2.trans e3))))) (re.mono ((e1.trans e2).trans e3)) n

/-! ### isinstance -/
def tyD (C : CH) : D → Option String
  | .non => some "NoneType" | .bl _ => some "bool" | .int _ => some "int" | .str _ => some "str"
  | .tup _ => some "tuple" | .lst _ => some "list" | .dic _ => some "dict" | .ty _ => none | .dicR _ => none | .dicL _ _ => none | .fn _ _ => none
  | .ref a => match C a with
    | some (.lst _) => some "list"
    | some (.dic _) => some "dict"
    | _ => none
theorem tyD_ok {B F H : Hp} {v : V} {n : String} (rl : Rel B C F H) (h : Rep B v d) (e : tyD C d = some n) : TyX K H v (.type n) := by
  cases h with
  | non => cases e; exact .base .non
  | bl => cases e; exact .base (.bl _)
  | int => cases e; exact .base (.int _)
  | str => cases e; exact .base (.str _)
  | fn _ _ => cases e
  | ty => cases e
  | tup h r => cases e; exact .base (.tup (rl.ex _ _ h))
  | lst h r => cases e; exact .base (.lst (rl.ex _ _ h))
  | dic h r => cases e; exact .base (.dK (rl.ex _ _ h))
  | dicR h r => cases e
  | dicL h r => cases e
  | @ref a =>
    have e : (match C a with
      | some (.lst _) => some "list"
      | some (.dic _) => some "dict"
      | _ => none) = some n := e
    split at e
    · rename_i l hc
      cases e
      obtain ⟨o, h1, h2⟩ := rl.own _ _ hc
      cases h2
      exact .base (.lst h1)
    · rename_i l hc
      cases e
      obtain ⟨o, h1, h2⟩ := rl.own _ _ hc
      cases h2
      exact .base (.dK h1)
    · cases e
def rIsiU (K : PySem.W.Frag) : List V → Hp → VK → Prop := fun xs H Q => rIsi K xs H Q ∨ rIsiT K xs H Q
theorem call_isiU {X : Cx} : CallR X (.builtin "isinstance") (rIsiU X.K) := call_isi.or call_isiT
theorem wc_isi {n m : String} {b : Bool} (h : tyD C x = some n) (hk : kitB n m = some b) (k : P (.bl b) C) : WC B0 (rIsiU K) [x, .ty m] C P := fun B F H vs _ rl r Q q => by
  cases r with
  | cons r1 r =>
    cases r with
    | cons r2 r =>
      cases r; cases r2
      exact .inl ⟨_, _, _, _, b, rfl, .ty m, tyD_ok rl r1 h, kit_ty hk, q _ _ B C H (Same.refl B) rl .bl k⟩
theorem wc_isi2 {n m m' : String} {b b' : Bool} (h : tyD C x = some n) (hk : kitB n m = some b) (hk' : kitB n m' = some b') (k : P (.bl (b || b')) C) : WC B0 (rIsiU K) [x, .tup [.ty m, .ty m']] C P := fun B F H vs _ rl r Q q => by
  cases r with
  | cons r1 r =>
    cases r with
    | cons r2 r =>
      cases r
      cases r2 with
      | @tup a ws _ ha rr =>
        cases rr with
        | cons r3 rr =>
          cases rr with
          | cons r4 rr =>
            cases rr; cases r3; cases r4
            refine .inr ⟨_, a, _, _, [.type m, .type m'], b || b', rfl, rl.ex _ _ ha, .cons (.ty m) (.cons (.ty m') .nil), tyD_ok rl r1 h, ?_, q _ _ B C H (Same.refl B) rl .bl k⟩
            refine kitAny_cons (kit_ty hk) (fun e => kitAny_cons (kit_ty hk') (fun e' => ?_) (fun e' => ?_)) (fun e => ?_)
            · rw [e, e']; exact kitAny_nil
            · rw [e, e']; rfl
            · rw [e]; rfl

/-! ### in -/
def rInU (K : PySem.W.Frag) (neg : Bool) : R2 := fun x y H Q => rIn K neg x y H Q ∨ ∃ (c : Nat) (z : Str), x = .str ⟨#[c]⟩ ∧ y = .str z ∧ Q (.bl (if neg then !decide (c ∈ z.cps.toList) else decide (c ∈ z.cps.toList))) H
theorem op_inU {X : Cx} : OpR X (compareOp .In) (rInU X.K false) := op_in_seq.or op_in_sign
theorem op_ninU {X : Cx} : OpR X (compareOp .NotIn) (rInU X.K true) := op_notIn_seq.or op_notIn_sign
/-- flat data: none, bools, ints, texts -/
def flatD : D → Bool
  | .int _ => true | .str _ => true | .non => true | .bl _ => true | _ => false
theorem ixV_int (n : Int) : ∀ ms : List Int, inV (.int n) (ms.map V.int) = decide (n ∈ ms)
  | [] => by simp [inV]
  | m :: r => by
    have ih := ixV_int n r
    unfold inV at ih ⊢
    rw [List.map_cons, List.any_cons, ih]
    have : eqV (V.int m) (V.int n) = decide (n = m) := by
      by_cases e : n = m
      · subst e; simp [eqV]
      · have e2 : ¬ m = n := fun z => e z.symm
        simp [eqV, e, e2]
    rw [this]
    by_cases h1 : n = m <;> by_cases h2 : n ∈ r <;> simp [h1, h2]
theorem flat_ints (ms : List Int) : (ms.map V.int).all flatV = true := by simp [flatV]
theorem wr_inI {ms : List Int} {n : Int} (hy : SeqD C y (ms.map D.int)) (k : P (.bl (decide (n ∈ ms))) C) : WR B0 (rInU K false) (.int n) y C P := fun B F H vx vy _ rl hx h2 Q q => by
  cases hx
  obtain ⟨a, vs, rfl, hs, r⟩ := seqD_rd (K := K) rl h2 hy
  have e := r.ints
  subst e
  refine .inl ⟨a, _, rfl, hs, rfl, flat_ints ms, ?_⟩
  rw [if_neg Bool.false_ne_true, ixV_int]
  exact q _ _ B C H (Same.refl B) rl .bl k
theorem wr_ninI {ms : List Int} {n : Int} (hy : SeqD C y (ms.map D.int)) (k : P (.bl (!decide (n ∈ ms))) C) : WR B0 (rInU K true) (.int n) y C P := fun B F H vx vy _ rl hx h2 Q q => by
  cases hx
  obtain ⟨a, vs, rfl, hs, r⟩ := seqD_rd (K := K) rl h2 hy
  have e := r.ints
  subst e
  refine .inl ⟨a, _, rfl, hs, rfl, flat_ints ms, ?_⟩
  rw [if_pos rfl, ixV_int]
  exact q _ _ B C H (Same.refl B) rl .bl k
theorem wr_inC {z : Str} {c : Nat} (k : P (.bl (decide (c ∈ z.cps.toList))) C) : WR B0 (rInU K false) (.str ⟨#[c]⟩) (.str z) C P := fun B F H vx vy _ rl hx h2 Q q => by
  cases hx; cases h2
  exact .inr ⟨c, z, rfl, rfl, q _ _ B C H (Same.refl B) rl .bl k⟩
theorem wr_ninC {z : Str} {c : Nat} (k : P (.bl (!decide (c ∈ z.cps.toList))) C) : WR B0 (rInU K true) (.str ⟨#[c]⟩) (.str z) C P := fun B F H vx vy _ rl hx h2 Q q => by
  cases hx; cases h2
  exact .inr ⟨c, z, rfl, rfl, q _ _ B C H (Same.refl B) rl .bl k⟩
end

/-! ### len(set(..)) of ints -/
section
variable {B0 : Gr} {C : CH} {P : D → CH → Prop} {K : PySem.W.Frag} {E : EnvD}
/-- how many different ones -/
def metN (ns : List Int) : Nat := (PyProof.Rows.firstMet (fun i => ns.getD i 0) ns.length).length
def tLenSet (K : PySem.W.Frag) (ta : TE) : TE := fun σ H Q => ta σ H fun x H1 => ∃ (l : Addr) (ns : List Int), x = .ref l ∧ SqL K H1 l (ns.map V.int) ∧ ns.length ≤ 4000 ∧ Q (.int (metN ns : Nat)) H1
theorem pe_lenSetN {X : Cx} {a : Expr} {ta : TE} {p p2 q pos : Pos} (hm : X.mg "len" = none) (hm2 : X.mg "set" = none) (ha : PE X a ta) (hg : Gl X "len" := by rfl) (hg2 : Gl X "set" := by rfl) (hc : X.calm = true := by rfl)
    (na : starEach [a] X.env = (false, eval a X.env) :: starEach [] X.env := by rfl) : PE X (.Call (.Name "len" p) [.Call (.Name "set" p2) [a] [] q] [] pos) (tLenSet X.K ta) := by
  constructor
  intro pins s σ H Q I h
  refine PyProof.Rows.Call_ (ld_blt I hg hm PySem.boot_len (PyProof.Rows.callWith_builtin1 (PyProof.Rows.args_cons (PyProof.Rows.Call_ (ld_blt I hg2 hm2 PyProof.Rows.boot_set
    (PyProof.Rows.callWith_type1 (PyProof.Rows.args_cons (thn (ha.run pins s σ H _ I h) ?_) na) na rfl))) rfl) rfl rfl))
  rintro v s1 ⟨x, H1, J, r1, l, ns, e, hq, hl, k⟩
  subst e
  cases r1
  obtain ⟨its, r, pl, hz⟩ := J.list hq
  have hlen : its.toArray.size = ns.length := by
    have e := r.length
    rw [List.length_map] at e
    rw [List.size_toArray, e]
  refine PyProof.Rows.args_nil (PySem.call_set_list (J.ok.hd hc) pl.isList (by simpa using RZ.intsAre_vals r) (by rw [hlen]; unfold scanBound; omega) fun h' tk hS hk => PyProof.Rows.args_nil ?_)
  rw [hlen] at hS
  obtain ⟨o, es, ep, t, ho, hex, hd, _, _, _, hf, hn⟩ := hS
  have J2 : Inv X pins σ H1 { s1 with heap := h', toks := tk } := J.kept fun b o e => hk b o (Heap.lt_size e) e
  have hle : metN ns ≤ ns.length := PyProof.Rows.firstMet_length_le _ _
  have hle2 : (PyProof.Rows.firstMet (fun i => ns.getD i 0) ns.length).length ≤ ns.length := hle
  exact PySem.call_len_set ho hex hd hf (by rw [hn] <;> omega) ⟨.int (metN ns), H1, J2.tok _, ⟨_, by rw [hn]; rfl⟩, k⟩
theorem w_lenSet {ta : TE} (h : W B0 ta E C fun x C1 => ∃ ns : List Int, LstD C1 x (ns.map D.int) ∧ ns.length ≤ 4000 ∧ P (.int (metN ns : Nat)) C1) : W B0 (tLenSet K ta) E C P := fun B F σ H sb rl re Q q =>
  h B F σ H sb rl re _ fun v d B1 C1 H1 e1 rl1 rp ⟨ns, l, hl, p⟩ => by
    obtain ⟨a, vs, rfl, ha, r⟩ := lstD_rd rl1 rp l
    have e := r.ints
    subst e
    exact ⟨a, ns, rfl, SqL.of ha, hl, q _ _ B1 C1 H1 e1 rl1 .int p⟩
/-- fewer than all just where one stands twice -/
theorem met_step (l : List Int) (v : Int) : PyProof.Rows.step_dedup l v = if v ∈ l then l else l ++ [v] := by
  unfold PyProof.Rows.step_dedup
  by_cases h : v ∈ l
  · have : (l.any fun x => x == v) = true := List.any_eq_true.mpr ⟨v, h, by simp⟩
    simp [this, h]
  · have : (l.any fun x => x == v) = false := by
      cases e : l.any fun x => x == v with
      | false => rfl
      | true =>
        obtain ⟨w, hw, e2⟩ := List.any_eq_true.mp e
        rw [eq_of_beq e2] at hw
        exact absurd hw h
    simp [this, h]
theorem met_fold : ∀ (l acc : List Int), acc.Nodup → (l.foldl PyProof.Rows.step_dedup acc).length ≤ acc.length + l.length ∧
    ((l.foldl PyProof.Rows.step_dedup acc).length = acc.length + l.length ↔ (acc ++ l).Nodup)
  | [], acc, h => by simp [h]
  | v :: l, acc, h => by
    rw [List.foldl_cons, met_step]
    by_cases m : v ∈ acc
    · rw [if_pos m]
      obtain ⟨h1, h2⟩ := met_fold l acc h
      refine ⟨by simp; omega, ⟨fun e => ?_, fun e => ?_⟩⟩
      · simp at e; omega
      · exact absurd rfl ((List.nodup_append.mp e).2.2 v m v (by simp))
    · rw [if_neg m]
      have hn : (acc ++ [v]).Nodup := by
        rw [List.nodup_append]
        refine ⟨h, by simp, fun a ha b hb => ?_⟩
        simp at hb
        subst hb
        exact fun e => m (e ▸ ha)
      obtain ⟨h1, h2⟩ := met_fold l (acc ++ [v]) hn
      rw [List.length_append, List.length_singleton] at h1 h2
      rw [List.length_cons]
      refine ⟨by omega, ?_⟩
      rw [show acc ++ v :: l = acc ++ [v] ++ l by simp, ← h2]
      omega
theorem getD_list (ns : List Int) : (List.range ns.length).map (fun i => ns.getD i 0) = ns := by
  apply List.ext_getElem?
  intro i
  rw [List.getElem?_map]
  by_cases h : i < ns.length
  · rw [List.getElem?_range h, List.getElem?_eq_getElem h]
    simp [List.getD_eq_getElem?_getD, h]
  · rw [List.getElem?_eq_none (by simpa using h), List.getElem?_eq_none (by omega)]; rfl
theorem metN_lt (ns : List Int) : decide ((metN ns : Int) < (ns.length : Int)) = !decide ns.Nodup := by
  unfold metN PyProof.Rows.firstMet
  rw [getD_list]
  obtain ⟨h1, h2⟩ := met_fold ns [] List.nodup_nil
  simp only [List.nil_append, List.length_nil, Nat.zero_add] at h1 h2
  by_cases h : ns.Nodup
  · have := h2.mpr h
    simp [h]; omega
  · have : ¬ (ns.foldl PyProof.Rows.step_dedup []).length = ns.length := fun e => h (h2.mp e)
    simp [h]; omega
end
end Dv

set_option maxRecDepth 100000
set_option maxHeartbeats 1000000
/-! Short words for the terms that gen.py prints. -/
namespace Dv
open PySem PySem.Spec L2
theorem bt_len : bootBuiltins "len" = some (.builtin "len") := by decide +kernel
theorem bt_max : bootBuiltins "max" = some (.builtin "max") := by decide +kernel
theorem bt_min : bootBuiltins "min" = some (.builtin "min") := by decide +kernel
theorem bt_sum : bootBuiltins "sum" = some (.builtin "sum") := by decide +kernel
theorem bt_all : bootBuiltins "all" = some (.builtin "all") := by decide +kernel
theorem bt_any : bootBuiltins "any" = some (.builtin "any") := by decide +kernel
theorem bt_abs : bootBuiltins "abs" = some (.builtin "abs") := by decide +kernel
theorem bt_isinstance : bootBuiltins "isinstance" = some (.builtin "isinstance") := by decide +kernel
theorem bt_sorted : bootBuiltins "sorted" = some (.builtin "sorted") := by decide +kernel
theorem bt_int : bootBuiltins "int" = some (.type "int") := by decide +kernel
theorem bt_list : bootBuiltins "list" = some (.type "list") := by decide +kernel
theorem bt_tuple : bootBuiltins "tuple" = some (.type "tuple") := by decide +kernel
theorem bt_dict : bootBuiltins "dict" = some (.type "dict") := by decide +kernel
theorem bt_str : bootBuiltins "str" = some (.type "str") := by decide +kernel
theorem bt_bool : bootBuiltins "bool" = some (.type "bool") := by decide +kernel
section
variable {X : Cx} {pos pos' : Pos}
theorem pg_nm (i : Nat) {x : Str} (hN : X.N.Nodup) (hi : X.N[i]? = some x := by rfl) (hx : Loc X.env.scope x := by first | exact Or.inl rfl | exact Or.inr rfl)
    (hf : X.fn x = true ∨ X.env.scope.names.lookup x = some .local := by first | exact .inl rfl | exact .inr rfl | assumption) : PG X (.Name x pos) (gName i) := pg_name hN hi hx hf
theorem ps_nm (i : Nat) {x : Str} {e : Expr} {te : TE} (hN : X.N.Nodup) (he : PE X e te) (hi : X.N[i]? = some x := by rfl) (hx : Loc X.env.scope x := by first | exact Or.inl rfl | exact Or.inr rfl)
    (hs : swapsWith e (some (.Name x pos')) pos.line X.env = pure false := by rfl) (hf : X.fn x = true ∨ X.env.scope.names.lookup x = some .local := by first | exact .inl rfl | exact .inr rfl | assumption) :
    PS X (.Assign [.Name x pos'] e pos) (tAsg te (gName i)) := ps_set hN hi hx he hs hf
theorem ps_au (i : Nat) {x : Str} {e : Expr} {te : TE} {op : Operator} {ti : TIp} (hN : X.N.Nodup) (he : PE X e te) (ho : PIp X op ti) (hi : X.N[i]? = some x := by rfl) (hx : Loc X.env.scope x := by first | exact Or.inl rfl | exact Or.inr rfl)
    (hf : X.fn x = true ∨ X.env.scope.names.lookup x = some .local := by first | exact .inl rfl | exact .inr rfl | assumption) : PS X (.AugAssign (.Name x pos') op e pos) (tAug i te ti) := ps_aug hN hi hx he ho hf
theorem pt_tru {e : Expr} {te : TE} (he : PE X e te) (hh : ∀ whole, isTrue e X.env whole = (do let v ← whole; standAt e.pos; holding [v] (truthy v)) := by intro _; rfl) : PT X e (tTruth X.K te) := pt_truth he hh
end
theorem kit_NoneType_list : kitB "NoneType" "list" = some false := by decide +kernel
theorem kit_NoneType_tuple : kitB "NoneType" "tuple" = some false := by decide +kernel
theorem kit_NoneType_bool : kitB "NoneType" "bool" = some false := by decide +kernel
theorem kit_NoneType_str : kitB "NoneType" "str" = some false := by decide +kernel
theorem kit_NoneType_int : kitB "NoneType" "int" = some false := by decide +kernel
theorem kit_NoneType_dict : kitB "NoneType" "dict" = some false := by decide +kernel
theorem kit_bool_list : kitB "bool" "list" = some false := by decide +kernel
theorem kit_bool_tuple : kitB "bool" "tuple" = some false := by decide +kernel
theorem kit_bool_bool : kitB "bool" "bool" = some true := by decide +kernel
theorem kit_bool_str : kitB "bool" "str" = some false := by decide +kernel
theorem kit_bool_int : kitB "bool" "int" = some true := by decide +kernel
theorem kit_bool_dict : kitB "bool" "dict" = some false := by decide +kernel
theorem kit_int_list : kitB "int" "list" = some false := by decide +kernel
theorem kit_int_tuple : kitB "int" "tuple" = some false := by decide +kernel
theorem kit_int_bool : kitB "int" "bool" = some false := by decide +kernel
theorem kit_int_str : kitB "int" "str" = some false := by decide +kernel
theorem kit_int_int : kitB "int" "int" = some true := by decide +kernel
theorem kit_int_dict : kitB "int" "dict" = some false := by decide +kernel
theorem kit_str_list : kitB "str" "list" = some false := by decide +kernel
theorem kit_str_tuple : kitB "str" "tuple" = some false := by decide +kernel
theorem kit_str_bool : kitB "str" "bool" = some false := by decide +kernel
theorem kit_str_str : kitB "str" "str" = some true := by decide +kernel
theorem kit_str_int : kitB "str" "int" = some false := by decide +kernel
theorem kit_str_dict : kitB "str" "dict" = some false := by decide +kernel
theorem kit_tuple_list : kitB "tuple" "list" = some false := by decide +kernel
theorem kit_tuple_tuple : kitB "tuple" "tuple" = some true := by decide +kernel
theorem kit_tuple_bool : kitB "tuple" "bool" = some false := by decide +kernel
theorem kit_tuple_str : kitB "tuple" "str" = some false := by decide +kernel
theorem kit_tuple_int : kitB "tuple" "int" = some false := by decide +kernel
theorem kit_tuple_dict : kitB "tuple" "dict" = some false := by decide +kernel
theorem kit_list_list : kitB "list" "list" = some true := by decide +kernel
theorem kit_list_tuple : kitB "list" "tuple" = some false := by decide +kernel
theorem kit_list_bool : kitB "list" "bool" = some false := by decide +kernel
theorem kit_list_str : kitB "list" "str" = some false := by decide +kernel
theorem kit_list_int : kitB "list" "int" = some false := by decide +kernel
theorem kit_list_dict : kitB "list" "dict" = some false := by decide +kernel
theorem kit_dict_list : kitB "dict" "list" = some false := by decide +kernel
theorem kit_dict_tuple : kitB "dict" "tuple" = some false := by decide +kernel
theorem kit_dict_bool : kitB "dict" "bool" = some false := by decide +kernel
theorem kit_dict_str : kitB "dict" "str" = some false := by decide +kernel
theorem kit_dict_int : kitB "dict" "int" = some false := by decide +kernel
theorem kit_dict_dict : kitB "dict" "dict" = some true := by decide +kernel
/-! the same with the written part K named (within a comprehension's block the context is another one) -/
section
variable {X : Cx} {pos pos' : Pos}
theorem pt_truK (K : PySem.W.Frag) {e : Expr} {te : TE} (he : PE X e te) (h : X.K = K := by rfl) (hh : ∀ whole, isTrue e X.env whole = (do let v ← whole; standAt e.pos; holding [v] (truthy v)) := by intro _; rfl) : PT X e (tTruth K te) := by
  subst h
  exact pt_truth he hh
theorem ix_seqK (K : PySem.W.Frag) (h : X.K = K := by rfl) : IxR X (rIx K) := by subst h; exact ix_seq
theorem op_addK (K : PySem.W.Frag) (h : X.K = K := by rfl) : OpR X (binaryOp .Add) (rAddU K) := by subst h; exact op_addU
theorem op_eqK (K : PySem.W.Frag) {n : Nat} (hr : Room n X.A) (h : X.K = K := by rfl) : OpR X (compareOp .Eq) (rEqU K) := by subst h; exact op_eqU hr
theorem op_neK (K : PySem.W.Frag) {n : Nat} (hr : Room n X.A) (h : X.K = K := by rfl) : OpR X (compareOp .NotEq) (rNeU K) := by subst h; exact op_neU hr
theorem op_inK (K : PySem.W.Frag) (h : X.K = K := by rfl) : OpR X (compareOp .In) (rInU K false) := by subst h; exact op_inU
theorem op_ninK (K : PySem.W.Frag) (h : X.K = K := by rfl) : OpR X (compareOp .NotIn) (rInU K true) := by subst h; exact op_ninU
theorem sl_K (K : PySem.W.Frag) (h : X.K = K := by rfl) : SlR X (rSlU K) := by subst h; exact sl_U
theorem call_lenK (K : PySem.W.Frag) (h : X.K = K := by rfl) : CallR X (.builtin "len") (rLenU K) := by subst h; exact call_lenU
theorem call_maxK (K : PySem.W.Frag) (h : X.K = K := by rfl) (hc : X.calm = true := by rfl) : CallR X (.builtin "max") (rMaxU K) := by subst h; exact call_maxU hc
theorem call_minK (K : PySem.W.Frag) (h : X.K = K := by rfl) (hc : X.calm = true := by rfl) : CallR X (.builtin "min") (rMinU K) := by subst h; exact call_minU hc
theorem call_sumK (K : PySem.W.Frag) (h : X.K = K := by rfl) (hc : X.calm = true := by rfl) : CallR X (.builtin "sum") (rSum K) := by subst h; exact cr_sum hc
theorem call_allK (K : PySem.W.Frag) (h : X.K = K := by rfl) (hc : X.calm = true := by rfl) : CallR X (.builtin "all") (rAll K) := by subst h; exact cr_all hc
theorem call_anyK (K : PySem.W.Frag) (h : X.K = K := by rfl) (hc : X.calm = true := by rfl) : CallR X (.builtin "any") (rAny K) := by subst h; exact cr_any hc
theorem call_isiK (K : PySem.W.Frag) (h : X.K = K := by rfl) : CallR X (.builtin "isinstance") (rIsiU K) := by subst h; exact call_isiU
theorem call_lstK (K : PySem.W.Frag) (h : X.K = K := by rfl) (hc : X.calm = true := by rfl) : CallR X (.type "list") (rLstU K) := by subst h; exact call_lstU hc
theorem call_tupK (K : PySem.W.Frag) (h : X.K = K := by rfl) : CallR X (.type "tuple") (rTupU K) := by subst h; exact call_tupU
theorem pi_seqK (K : PySem.W.Frag) {tg l : Expr} {tl : TE} (hl : PE X l tl) (h : X.K = K := by rfl) : PI X tg l (iSeq K tl) := by subst h; exact pi_seq hl
theorem pg_tupK (K : PySem.W.Frag) {es : List Expr} {k : Nat} {t : TGs} {n : Nat} (hp : PGs X es t) (h : X.K = K := by rfl) (hc : X.calm = true := by rfl)
    (hn : (assignEach es X.env).length = n := by rfl) (hst : (assignEach es X.env).findIdx? (·.1) = none := by rfl) : PG X (.Tuple es k pos) (gTup K n t) := by subst h; exact pg_tup hc hp hn hst
theorem pe_lenSetK (K : PySem.W.Frag) {a : Expr} {ta : TE} {p p2 q : Pos} (hm : X.mg "len" = none) (hm2 : X.mg "set" = none) (ha : PE X a ta) (h : X.K = K := by rfl) (hg : Gl X "len" := by rfl) (hg2 : Gl X "set" := by rfl) (hc : X.calm = true := by rfl)
    (na : starEach [a] X.env = (false, eval a X.env) :: starEach [] X.env := by rfl) : PE X (.Call (.Name "len" p) [.Call (.Name "set" p2) [a] [] q] [] pos) (tLenSet K ta) := by subst h; exact pe_lenSetN hm hm2 ha hg hg2 hc na
theorem pe_bmK (K : PySem.W.Frag) {T id : String} {name : Str} {o e : Expr} {es : List Expr} {apos cpos : Pos} {r : V → List V → Hp → VK → Prop} {to : TE} {t : TA} (pa : PlainAttrs T) (slot : Slot T name id) (hty : typeOf (.builtin id) = pure (.type "method_descriptor")) (hm : MtR X id r) (ho : PE X o to) (ha : PA X (e :: es) t) (h : X.K = K := by rfl)
    (hbase : attributeBase o name X.env (eval o X.env) = eval o X.env := by rfl)
    (hfew : ((backTo cpos (starEach (e :: es) X.env)).all (fun x => !x.1) && (backToKw cpos (keywordEach [] X.env)).all (fun x => x.1.isSome) && decide ((e :: es).length + ([] : List Keyword).length + (if ([] : List Keyword).isEmpty then 0 else 1) < 30)) = true := by rfl)
    (hline : (apos.endLine == cpos.line) = true := by rfl) (hs : starEach (e :: es) X.env = (false, eval e X.env) :: starEach es X.env := by rfl) (hplain : (backTo cpos (starEach es X.env)).any (·.1) = false := by rfl) :
    PE X (.Call (.Attribute o name apos) (e :: es) [] cpos) (tBM K T r to t) := by subst h; exact pe_bm pa slot hty hm ho ha hbase hfew hline hs hplain
theorem pe_bmK0 (K : PySem.W.Frag) {T id : String} {name : Str} {o : Expr} {apos cpos : Pos} {r : V → List V → Hp → VK → Prop} {to : TE} (pa : PlainAttrs T) (slot : Slot T name id) (hty : typeOf (.builtin id) = pure (.type "method_descriptor")) (hm : MtR X id r) (ho : PE X o to) (h : X.K = K := by rfl)
    (hbase : attributeBase o name X.env (eval o X.env) = eval o X.env := by rfl) (hline : (apos.endLine == cpos.line) = true := by rfl) :
    PE X (.Call (.Attribute o name apos) [] [] cpos) (tBM0 K T r to) := by subst h; exact pe_bm0 pa slot hty hm ho hbase hline
end
theorem nx_show {nx bk ct : EnvD → CH → Prop} {rt : D → CH → Prop} {E : EnvD} {C : CH} (h : nx E C) : (EndD.mk nx rt bk ct).nx E C := h
theorem rt_show {nx bk ct : EnvD → CH → Prop} {rt : D → CH → Prop} {d : D} {C : CH} (h : rt d C) : (EndD.mk nx rt bk ct).rt d C := h
theorem bk_show {nx bk ct : EnvD → CH → Prop} {rt : D → CH → Prop} {E : EnvD} {C : CH} (h : bk E C) : (EndD.mk nx rt bk ct).bk E C := h
theorem ct_show {nx bk ct : EnvD → CH → Prop} {rt : D → CH → Prop} {E : EnvD} {C : CH} (h : ct E C) : (EndD.mk nx rt bk ct).ct E C := h
/-- a comprehension within a comprehension's block -/
theorem blkOk_in {X : Cx} {own : List (Str × Nat)} {scope : Scope} (N : List Str) (hN : X.N = N := by exact rfl) (h : blkC N X.env.scope scope own = true := by with_unfolding_all exact rfl) : BlkOk X.N X.env.scope scope own := by
  rw [hN]
  exact blkOk_by h
theorem wsl_tupE {B0 : Gr} {C : CH} {P : D → CH → Prop} {K : PySem.W.Frag} {x : D} {ds : List D} {lo hi : Option Int} (e : x = .tup ds) (k : P (.tup (cutD ds lo hi)) C) : WSl B0 (rSlU K) x lo hi C P := by
  subst e
  exact wsl_tup k
theorem wsl_lstE {B0 : Gr} {C : CH} {P : D → CH → Prop} {K : PySem.W.Frag} {x : D} {ds : List D} {lo hi : Option Int} (e : x = .lst ds) (k : P (.lst (cutD ds lo hi)) C) : WSl B0 (rSlU K) x lo hi C P := by
  subst e
  exact wsl_lst .lst k
/-- what holds behind a test: both ways -/
theorem ite_two {b : Bool} {p q : Prop} (h1 : b = true → p) (h2 : b = false → q) : (b = true → p) ∧ (b = false → q) := ⟨h1, h2⟩
theorem ex_bl {b : Bool} {p : Bool → Prop} (h : p b) : ∃ c, D.bl b = .bl c ∧ p c := ⟨b, rfl, h⟩
theorem tru_bl {C : CH} {b : Bool} {p : Bool → Prop} (h : p b) : ∃ c, TruD C (.bl b) = some c ∧ p c := ⟨b, rfl, h⟩
end Dv

set_option maxRecDepth 100000
/-! Boxes as Lean data. -/
namespace Dv
open PySem L2
inductive Box where
  | block (n h : Int)
  | scroller (n h : Int) (ps : List Box)
mutual
def encB : Box → D
  | .block n h => .tup [.str "block", .int n, .int h]
  | .scroller n h ps => .tup [.str "scroller", .int n, .int h, .tup (encBs ps)]
def encBs : List Box → List D
  | [] => []
  | b :: r => encB b :: encBs r
end
theorem encBs_map : ∀ ps : List Box, encBs ps = ps.map encB
  | [] => rfl
  | b :: r => by rw [encBs, encBs_map r]; rfl
def Box.num : Box → Int
  | .block n _ => n
  | .scroller n _ _ => n
def Box.hgt : Box → Int
  | .block _ h => h
  | .scroller _ h _ => h
def Box.kind : Box → Str
  | .block _ _ => "block"
  | .scroller _ _ _ => "scroller"
section
variable {B0 : Gr} {C : CH} {P : D → CH → Prop} {K : PySem.W.Frag} {b : Box}
theorem wr_bn (k : P (.int b.num) C) : WR B0 (rIx K) (encB b) (.int 1) C P := by
  cases b with
  | block n h => exact wr_ix .tup rfl k
  | scroller n h ps => exact wr_ix .tup rfl k
theorem wr_bh (k : P (.int b.hgt) C) : WR B0 (rIx K) (encB b) (.int 2) C P := by
  cases b with
  | block n h => exact wr_ix .tup rfl k
  | scroller n h ps => exact wr_ix .tup rfl k
theorem wr_bk (k : P (.str b.kind) C) : WR B0 (rIx K) (encB b) (.int 0) C P := by
  cases b with
  | block n h => exact wr_ix .tup rfl k
  | scroller n h ps => exact wr_ix .tup rfl k
end
def encO : Option Box → D
  | none => .non
  | some b => encB b
def encOI : Option Int → D
  | none => .non
  | some i => .int i
def findB : List Box → Int → Option Box
  | [], _ => none
  | p :: r, i => if p.num = i then some p else findB r i
def Box.parts : Box → List Box
  | .block _ _ => []
  | .scroller _ _ ps => ps
def parentB : List Box → Int → Option Int
  | [], _ => none
  | p :: r, i => if i ∈ p.parts.map Box.num then some p.num else parentB r i
def Box.isS : Box → Bool
  | .block _ _ => false
  | .scroller _ _ _ => true
mutual
/-- levels of boxes -/
def Box.lev : Box → Nat
  | .block _ _ => 1
  | .scroller _ _ ps => levs ps + 1
def levs : List Box → Nat
  | [] => 0
  | b :: r => max b.lev (levs r)
end
mutual
def Box.all : Box → List Box
  | .block n h => [.block n h]
  | .scroller n h ps => .scroller n h ps :: alls ps
def alls : List Box → List Box
  | [] => []
  | b :: r => b.all ++ alls r
end
mutual
/-- scrollers within one another -/
def Box.deep : Box → Nat
  | .block _ _ => 0
  | .scroller _ _ ps => deeps ps + 1
def deeps : List Box → Nat
  | [] => 0
  | b :: r => max b.deep (deeps r)
end
theorem lev_le : ∀ {ps : List Box} {b : Box}, b ∈ ps → b.lev ≤ levs ps
  | p :: ps, b, h => by
    rw [levs]
    rcases List.mem_cons.mp h with rfl | h
    · omega
    · have := lev_le h; omega
theorem lev_parts {b p : Box} {n : Nat} (h : b.lev ≤ n + 1) (hp : p ∈ b.parts) : p.lev ≤ n := by
  cases b with
  | block _ _ => cases hp
  | scroller _ _ ps =>
    have := lev_le (show p ∈ ps from hp)
    rw [Box.lev] at h
    omega
theorem all_eq (b : Box) : b.all = b :: alls b.parts := by
  cases b with
  | block _ _ => rfl
  | scroller _ _ _ => rw [Box.all]; rfl
theorem encBs_cons {x : D} {xs : List D} {post : List Box} (h : x :: xs = encBs post) : ∃ p q, post = p :: q ∧ x = encB p ∧ xs = encBs q := by
  cases post with
  | nil => rw [encBs] at h; cases h
  | cons p q => rw [encBs] at h; injection h with h1 h2; exact ⟨p, q, rfl, h1, h2⟩
theorem encBs_nil {post : List Box} (h : [] = encBs post) : post = [] := by
  cases post with
  | nil => rfl
  | cons p q => rw [encBs] at h; cases h
theorem encBs_append (a b : List Box) : encBs (a ++ b) = encBs a ++ encBs b := by
  rw [encBs_map, encBs_map, encBs_map, List.map_append]
theorem encBs_length (a : List Box) : (encBs a).length = a.length := by rw [encBs_map, List.length_map]
theorem alls_append : ∀ a b : List Box, alls (a ++ b) = alls a ++ alls b
  | [], b => rfl
  | p :: r, b => by rw [List.cons_append, alls, alls, alls_append r b, List.append_assoc]
theorem all_len_part {b p : Box} {pre post : List Box} (h : b.parts = pre ++ p :: post) : (b :: alls pre).length + p.all.length ≤ b.all.length := by
  rw [all_eq b, h, alls_append, alls]
  simp
  omega
theorem alls_flat : ∀ ps : List Box, alls ps = ps.flatMap Box.all
  | [] => rfl
  | b :: r => by rw [alls, alls_flat r, List.flatMap_cons]
theorem alls_len_ge : ∀ ps : List Box, ps.length ≤ (alls ps).length
  | [] => Nat.le_refl _
  | p :: r => by
    have := alls_len_ge r
    rw [alls, all_eq p]
    simp
    omega
theorem all_len_sub {b p : Box} (hp : p ∈ b.parts) : p.all.length ≤ b.all.length := by
  obtain ⟨pre, post, e⟩ := List.append_of_mem hp
  have := all_len_part e
  omega
mutual
theorem parts_len : ∀ {b p : Box}, p ∈ b.all → p.parts.length ≤ b.all.length
  | .block n h, p, hp => by
    rw [Box.all] at hp
    rcases List.mem_cons.mp hp with rfl | hp
    · exact Nat.zero_le _
    · cases hp
  | .scroller n h ps, p, hp => by
    rw [Box.all] at hp ⊢
    rcases List.mem_cons.mp hp with rfl | hp
    · have := alls_len_ge ps
      simp [Box.parts]
      omega
    · have := partss_len hp
      simp
      omega
theorem partss_len : ∀ {ps : List Box} {p : Box}, p ∈ alls ps → p.parts.length ≤ (alls ps).length
  | [], p, hp => by rw [alls] at hp; cases hp
  | b :: r, p, hp => by
    rw [alls] at hp ⊢
    rw [List.length_append]
    rcases List.mem_append.mp hp with hp | hp
    · have := parts_len hp; omega
    · have := partss_len hp; omega
end
def isDoc (b : Box) : Bool := decide (b.isS = true ∧ b.all.length ≤ 40 ∧ b.deep ≤ 4 ∧ (b.all.map Box.num).Nodup ∧ (∀ p ∈ b.all, 1 ≤ p.num ∧ p.num ≤ 999) ∧ ∀ p ∈ b.all, 0 ≤ p.hgt ∧ p.hgt ≤ 1000)
theorem deeps_max : ∀ (ps : List Box) (m : Int), m ∈ (0 : Int) :: ps.map (fun p => (p.deep : Int)) → (∀ y, y ∈ (0 : Int) :: ps.map (fun p => (p.deep : Int)) → y ≤ m) → m = (deeps ps : Nat)
  | ps, m, h1, h2 => by
    have up : ∀ (qs : List Box) (q : Box), q ∈ qs → q.deep ≤ deeps qs := by
      intro qs
      induction qs with
      | nil => intro q h; cases h
      | cons a r ih =>
        intro q h
        rw [deeps]
        rcases List.mem_cons.mp h with rfl | h
        · omega
        · have := ih q h; omega
    have has : ∀ qs : List Box, deeps qs = 0 ∨ ∃ q ∈ qs, q.deep = deeps qs := by
      intro qs
      induction qs with
      | nil => exact .inl rfl
      | cons a r ih =>
        rw [deeps]
        by_cases h : deeps r ≤ a.deep
        · exact .inr ⟨a, by simp, by omega⟩
        · rcases ih with h0 | ⟨q, hq, e⟩
          · omega
          · exact .inr ⟨q, by simp [hq], by omega⟩
    have le : m ≤ (deeps ps : Nat) := by
      rcases List.mem_cons.mp h1 with e | h
      · omega
      · obtain ⟨q, hq, e⟩ := List.mem_map.mp h
        have := up ps q hq
        omega
    rcases has ps with h0 | ⟨q, hq, e⟩
    · have := h2 0 (by simp); omega
    · have := h2 (q.deep : Int) (List.mem_cons_of_mem _ (List.mem_map.mpr ⟨q, hq, rfl⟩))
      omega
end Dv

set_option maxRecDepth 100000
namespace Dv
open PySem L2
/-! ### documents as the law draws them -/
mutual
/-- a box drawn with k levels left: the last number ahead, the box, the last number behind -/
inductive DocB : Nat → Int → Box → Int → Prop
  | block {k : Nat} {z n h : Int} : z < n → n ≤ z + 3 → 0 ≤ h → h < 7 → DocB k z (.block n h) n
  | scroller {k : Nat} {z n h z' : Int} {ps : List Box} : z < n → n ≤ z + 3 → 0 ≤ h → h < 9 → ps.length ≤ 2 → DocBs k n ps z' → DocB (k + 1) z (.scroller n h ps) z'
inductive DocBs : Nat → Int → List Box → Int → Prop
  | nil {k : Nat} {z : Int} : DocBs k z [] z
  | cons {k : Nat} {z z1 z2 : Int} {b : Box} {ps : List Box} : DocB k z b z1 → DocBs k z1 ps z2 → DocBs k z (b :: ps) z2
end
theorem DocBs.snoc {k : Nat} : ∀ {ps : List Box} {z z1 z2 : Int} {b : Box}, DocBs k z ps z1 → DocB k z1 b z2 → DocBs k z (ps ++ [b]) z2
  | [], _, _, _, _, .nil, h => .cons h .nil
  | _ :: _, _, _, _, _, .cons a r, h => .cons a (DocBs.snoc r h)
theorem DocBs.app {k : Nat} : ∀ {ps qs : List Box} {z z1 z2 : Int}, DocBs k z ps z1 → DocBs k z1 qs z2 → DocBs k z (ps ++ qs) z2
  | [], _, _, _, _, .nil, h => h
  | _ :: _, _, _, _, _, .cons a r, h => .cons a (DocBs.app r h)
mutual
theorem DocB.mono {k : Nat} : ∀ {b : Box} {z z' : Int}, DocB k z b z' → DocB (k + 1) z b z'
  | _, _, _, .block a b c d => .block a b c d
  | _, _, _, .scroller a b c d e f => .scroller a b c d e (DocBs.mono f)
theorem DocBs.mono {k : Nat} : ∀ {ps : List Box} {z z' : Int}, DocBs k z ps z' → DocBs (k + 1) z ps z'
  | _, _, _, .nil => .nil
  | _, _, _, .cons a r => .cons (DocB.mono a) (DocBs.mono r)
end
/-- a document as the law draws it -/
def DocR (b : Box) : Prop := ∃ (n h : Int) (ps : List Box) (z : Int), b = .scroller n h ps ∧ 1 ≤ n ∧ n ≤ 5 ∧ 0 ≤ h ∧ h ≤ 20 ∧ ps.length ≤ 4 ∧ DocBs 2 n ps z

/-! ### what such documents are like -/
def szB : Nat → Nat
  | 0 => 1
  | k + 1 => 1 + 2 * szB k
structure InB (k : Nat) (z : Int) (l : List Box) (z' : Int) : Prop where
  le : z ≤ z'
  rg : ∀ p ∈ l, z < p.num ∧ p.num ≤ z'
  up : (l.map Box.num).Pairwise (· < ·)
  hg : ∀ p ∈ l, 0 ≤ p.hgt ∧ p.hgt ≤ 20
  st : z' ≤ z + 3 * (l.length : Int)
theorem InB.app {k : Nat} {z z1 z2 : Int} {l m : List Box} (a : InB k z l z1) (b : InB k z1 m z2) : InB k z (l ++ m) z2 where
  le := Int.le_trans a.le b.le
  rg := fun p hp => by
    have := a.le
    have := b.le
    rcases List.mem_append.mp hp with h | h
    · have := a.rg p h; omega
    · have := b.rg p h; omega
  up := by
    rw [List.map_append, List.pairwise_append]
    refine ⟨a.up, b.up, fun x hx y hy => ?_⟩
    obtain ⟨p, hp, rfl⟩ := List.mem_map.mp hx
    obtain ⟨q, hq, rfl⟩ := List.mem_map.mp hy
    have := a.rg p hp
    have := b.rg q hq
    omega
  hg := fun p hp => (List.mem_append.mp hp).elim (a.hg p) (b.hg p)
  st := by
    have := a.st
    have := b.st
    rw [List.length_append]
    omega
theorem InB.head {k : Nat} {z z' n : Int} {b : Box} {l : List Box} (e : b.num = n) (h1 : z < n) (h2 : n ≤ z + 3) (h3 : 0 ≤ b.hgt ∧ b.hgt ≤ 20) (a : InB k n l z') : InB k z (b :: l) z' where
  le := by have := a.le; omega
  rg := fun p hp => by
    have := a.le
    rcases List.mem_cons.mp hp with rfl | h
    · omega
    · have := a.rg p h; omega
  up := by
    rw [List.map_cons, List.pairwise_cons]
    refine ⟨fun x hx => ?_, a.up⟩
    obtain ⟨p, hp, rfl⟩ := List.mem_map.mp hx
    have := a.rg p hp
    omega
  hg := fun p hp => by
    rcases List.mem_cons.mp hp with rfl | h
    · exact h3
    · exact a.hg p h
  st := by
    have := a.st
    rw [List.length_cons]
    omega
theorem InB.none {k : Nat} {z : Int} : InB k z [] z := ⟨Int.le_refl _, (fun p hp => by cases hp), List.Pairwise.nil, (fun p hp => by cases hp), by simp⟩
mutual
theorem docB_in {k : Nat} : ∀ {b : Box} {z z' : Int}, DocB k z b z' → InB k z b.all z'
  | .block n h, z, _, .block a b c d => InB.head rfl a b ⟨c, by show h ≤ 20; omega⟩ .none
  | .scroller n h ps, z, _, .scroller a b c d e f => by
    rw [Box.all]
    have r := docBs_in f
    exact InB.head rfl a b ⟨c, by show h ≤ 20; omega⟩ ⟨r.le, r.rg, r.up, r.hg, r.st⟩
theorem docBs_in {k : Nat} : ∀ {ps : List Box} {z z' : Int}, DocBs k z ps z' → InB k z (alls ps) z'
  | [], _, _, .nil => .none
  | b :: r, _, _, .cons a c => by
    rw [alls]
    exact (docB_in a).app (docBs_in c)
end
mutual
theorem docB_sz {k : Nat} : ∀ {b : Box} {z z' : Int}, DocB k z b z' → b.all.length ≤ szB k ∧ b.deep ≤ k ∧ b.lev ≤ k + 1
  | .block n h, z, _, .block _ _ _ _ => by
    have : 1 ≤ szB k := by cases k <;> simp [szB]
    simp [Box.all, Box.deep, Box.lev]
    omega
  | .scroller n h ps, z, _, @DocB.scroller k _ _ _ _ _ a b c d e f => by
    obtain ⟨s1, s2, s3⟩ := docBs_sz f
    have : ps.length * szB k ≤ 2 * szB k := Nat.mul_le_mul_right _ e
    simp only [Box.all, Box.deep, Box.lev, szB, List.length_cons]
    omega
theorem docBs_sz {k : Nat} : ∀ {ps : List Box} {z z' : Int}, DocBs k z ps z' → (alls ps).length ≤ ps.length * szB k ∧ deeps ps ≤ k ∧ levs ps ≤ k + 1
  | [], _, _, .nil => by simp [alls, deeps, levs]
  | b :: r, _, _, .cons a c => by
    obtain ⟨s1, s2, s3⟩ := docB_sz a
    obtain ⟨t1, t2, t3⟩ := docBs_sz c
    simp only [alls, deeps, levs, List.length_append, List.length_cons]
    rw [Nat.add_mul]
    omega
end
theorem nodup_of_up : ∀ {l : List Int}, l.Pairwise (· < ·) → l.Nodup
  | l, h => h.imp fun {a b} h => by omega
structure DocOk (b : Box) : Prop where
  isS : b.isS = true
  len : b.all.length ≤ 29
  deep : b.deep ≤ 3
  lev : b.lev ≤ 4
  up : (b.all.map Box.num).Pairwise (· < ·)
  rg : ∀ p ∈ b.all, 1 ≤ p.num ∧ p.num ≤ 200
  hg : ∀ p ∈ b.all, 0 ≤ p.hgt ∧ p.hgt ≤ 20
  parts : b.parts.length ≤ 4
theorem docR_ok {b : Box} (h : DocR b) : DocOk b := by
  obtain ⟨n, h, ps, z, rfl, n1, n5, h0, h20, hl, hd⟩ := h
  obtain ⟨s1, s2, s3⟩ := docBs_sz hd
  have r := docBs_in hd
  have : ps.length * szB 2 ≤ 4 * szB 2 := Nat.mul_le_mul_right _ hl
  have e : szB 2 = 7 := rfl
  have hst := r.st
  refine ⟨rfl, by simp only [Box.all, List.length_cons]; omega, by simp only [Box.deep]; omega, by simp only [Box.lev]; omega, ?_, ?_, ?_, hl⟩
  · rw [Box.all, List.map_cons, List.pairwise_cons]
    refine ⟨fun x hx => ?_, r.up⟩
    obtain ⟨p, hp, rfl⟩ := List.mem_map.mp hx
    exact (r.rg p hp).1
  · intro p hp
    rw [Box.all] at hp
    rcases List.mem_cons.mp hp with rfl | hp
    · exact ⟨n1, by show n ≤ 200; omega⟩
    · have := r.rg p hp
      omega
  · intro p hp
    rw [Box.all] at hp
    rcases List.mem_cons.mp hp with rfl | hp
    · exact ⟨h0, h20⟩
    · exact r.hg p hp
theorem isDoc_of {b : Box} (h : DocOk b) : isDoc b = true := by
  unfold isDoc
  refine decide_eq_true ⟨h.isS, by have := h.len; omega, by have := h.deep; omega, nodup_of_up h.up, fun p hp => ?_, fun p hp => ?_⟩
  · have := h.rg p hp; omega
  · have := h.hg p hp; omega
end Dv

set_option maxRecDepth 100000
set_option maxHeartbeats 1000000
/-! Walks over a dict (locked meanwhile), sorted, displays of dicts. -/
namespace Dv
open PySem L2
/-- no dict within -/
inductive NoDic : D → Prop
  | non : NoDic .non
  | bl {b : Bool} : NoDic (.bl b)
  | int {i : Int} : NoDic (.int i)
  | str {x : Str} : NoDic (.str x)
  | ref {a : Addr} : NoDic (.ref a)
  | ty {n : String} : NoDic (.ty n)
  | tup {l : List D} : (∀ x ∈ l, NoDic x) → NoDic (.tup l)
  | lst {l : List D} : (∀ x ∈ l, NoDic x) → NoDic (.lst l)
/-- the heaps agree but at a, which has no list, no tuple in B -/
def ButA (a : Addr) (B B' : Hp) : Prop := ∀ b o, b ≠ a → B b = some o → B' b = some o
mutual
theorem rep_but {B B' : Hp} {a : Addr} {u : HO} (e : ButA a B B') (ha : B a = some u) (h1 : ∀ vs, u ≠ .tup vs) (h2 : ∀ vs, u ≠ .lst vs) : ∀ {v : V} {d : D}, Rep B v d → NoDic d → Rep B' v d
  | _, _, .non, _ => .non
  | _, _, .bl, _ => .bl
  | _, _, .int, _ => .int
  | _, _, .str, _ => .str
  | _, _, .ref, _ => .ref
  | _, _, .ty, _ => .ty
  | _, .tup l, .tup (a := b) (vs := vs) h r, n => .tup (e b _ (fun z => by rw [z, ha] at h; exact h1 vs (Option.some.inj h)) h) (reps_but e ha h1 h2 r (by cases n with | tup k => exact k))
  | _, .lst l, .lst (a := b) (vs := vs) h r, n => .lst (e b _ (fun z => by rw [z, ha] at h; exact h2 vs (Option.some.inj h)) h) (reps_but e ha h1 h2 r (by cases n with | lst k => exact k))
  | _, _, .dic _ _, n => by cases n
  | _, _, .dicR _ _, n => by cases n
  | _, _, .dicL _ _, n => by cases n
  | _, _, .fn _ _, n => by cases n
theorem reps_but {B B' : Hp} {a : Addr} {u : HO} (e : ButA a B B') (ha : B a = some u) (h1 : ∀ vs, u ≠ .tup vs) (h2 : ∀ vs, u ≠ .lst vs) : ∀ {vs : List V} {ds : List D}, Reps B vs ds → (∀ x ∈ ds, NoDic x) → Reps B' vs ds
  | _, _, .nil, _ => .nil
  | _, d :: ds, .cons h r, n => .cons (rep_but e ha h1 h2 h (n d (by simp))) (reps_but e ha h1 h2 r fun x hx => n x (by simp [hx]))
end
theorem repK_but {B B' : Hp} {a : Addr} {u : HO} (e : ButA a B B') (ha : B a = some u) (h1 : ∀ vs, u ≠ .tup vs) (h2 : ∀ vs, u ≠ .lst vs) {vs : List (Key × V)} {ks : List (Int × D)} (r : RepK B vs ks) (n : ∀ p ∈ ks, NoDic p.2) : RepK B' vs ks := by
  induction vs generalizing ks with
  | nil => cases r; exact .nil
  | cons p vs ih =>
    cases r with
    | @cons k v d vs ds h r => exact .cons (rep_but e ha h1 h2 h (n (k, d) (by simp))) (ih r fun p hp => n p (by simp [hp]))
/-- what is told of a slot while a dict is locked -/
inductive LockR : D → D → Prop
  | same {d : D} : NoDic d → LockR d d
  | dic {ks : List (Int × D)} : (∀ p ∈ ks, NoDic p.2) → LockR (.dic ks) (.dicR ks)
section
variable {B0 : Gr} {C : CH} {P : D → CH → Prop} {K : PySem.W.Frag} {E : EnvD} {ks : List (Int × D)}
theorem w_lock {te : TE} {i : Nat} (E' : Obj → EnvD) (he : E[i]? = some (some (.dic ks))) (hk : ∀ p ∈ ks, NoDic p.2) (hl : ∀ od, (E' od).length = E.length)
    (hE : ∀ (od : Obj) (j : Nat) (d : D), (E' od)[j]? = some (some d) → (j = i ∧ d = .dicL od ks) ∨ ∃ d0, E[j]? = some (some d0) ∧ LockR d0 d)
    (h : ∀ B1 od, W B1 te (E' od) (fun _ => none) fun d _ => NoDic d ∧ P d C) : W B0 (tLockE te) E C P := fun B F σ H sb rl re Q q => by
  obtain ⟨v, hv, rv⟩ := re.get i _ he
  cases rv with
  | @dic a vs _ ha r =>
  refine ⟨a, .dK vs, rl.ex _ _ ha, trivial, fun od => ?_⟩
  have hFa : F a = none := by
    cases e : F a with
    | none => rfl
    | some o => have := rl.bf a o e; rw [ha] at this; cases this
  have hCa : C a = none := by
    cases e : C a with
    | none => rfl
    | some o => have := rl.bc a o e; rw [ha] at this; cases this
  have but : ButA a B (upd B a (.frz od (.dK vs))) := fun b o n e => by rw [upd_ne n]; exact e
  have rl2 : Rel (upd B a (.frz od (.dK vs))) (fun _ => none) (fun b => if (C b).isSome then H b else F b) (upd H a (.frz od (.dK vs))) := by
    refine ⟨fun b o e => ?_, fun b o e => ?_, fun b o e => ?_, fun _ _ _ => rfl, (fun b c e => by cases e), (fun b c e => by cases e)⟩
    · by_cases n : b = a
      · subst n; rw [upd_same] at e ⊢; exact e
      · rw [upd_ne n] at e ⊢; exact rl.ex b o e
    · have e : (if (C b).isSome then H b else F b) = some o := e
      have n : b ≠ a := fun z => by subst z; rw [hCa, hFa] at e; simp at e
      rw [upd_ne n]
      split at e
      · exact e
      · exact rl.fr b o e
    · have e : (if (C b).isSome then H b else F b) = some o := e
      have n : b ≠ a := fun z => by subst z; rw [hCa, hFa] at e; simp at e
      rw [upd_ne n]
      split at e
      · rename_i hs
        cases ec : C b with
        | none => rw [ec] at hs; simp at hs
        | some c => exact rl.bc b c ec
      · exact rl.bf b o e
  have re2 : RelE (upd B a (.frz od (.dK vs))) σ (E' od) := by
    refine ⟨by rw [re.len, hl], fun j d e => ?_⟩
    rcases hE od j d e with ⟨rfl, rfl⟩ | ⟨d0, e0, lr⟩
    · exact ⟨_, hv, .dicL upd_same (repK_but but ha (by intro _ z; cases z) (by intro _ z; cases z) r hk)⟩
    · obtain ⟨x, hx, rx⟩ := re.get j d0 e0
      refine ⟨x, hx, ?_⟩
      cases lr with
      | same n => exact rep_but but ha (by intro _ z; cases z) (by intro _ z; cases z) rx n
      | dic n =>
        cases rx with
        | @dic b ws _ hb rb =>
          refine .dicR ?_ (repK_but but ha (by intro _ z; cases z) (by intro _ z; cases z) rb n)
          by_cases z : b = a
          · subst z
            rw [ha] at hb
            cases hb
            exact .inr ⟨od, upd_same⟩
          · exact .inl (by rw [upd_ne z]; exact hb)
  refine h ⟨upd B a (.frz od (.dK vs)), _⟩ od _ _ σ _ (Sb.refl _ _) rl2 re2 _ fun v' d' B' C' H' s rl' rp' ⟨nd, p⟩ => ?_
  have hB'a : B' a = some (.frz od (.dK vs)) := s a _ upd_same
  refine ⟨rl'.ex _ _ hB'a, ?_⟩
  have keepB : Same B (upd B' a (.dK vs)) := fun b o e => by
    by_cases n : b = a
    · subst n; rw [upd_same, ← ha]; exact e
    · rw [upd_ne n]; exact s b o (by rw [upd_ne n]; exact e)
  have keepF : ∀ b o, F b = some o → b ≠ a ∧ H' b = some o ∧ B' b = none := fun b o e => by
    have n : b ≠ a := fun z => by subst z; rw [hFa] at e; cases e
    have cn := rl.cf b o e
    have fe : (if (C b).isSome then H b else F b) = some o := by rw [cn]; simpa using e
    exact ⟨n, rl'.fr b o fe, rl'.bf b o fe⟩
  have keepC : ∀ b c, C b = some c → b ≠ a ∧ B' b = none ∧ ∃ o, H' b = some o ∧ RepO B o c := fun b c e => by
    have n : b ≠ a := fun z => by subst z; rw [hCa] at e; cases e
    obtain ⟨o, g1, g2⟩ := rl.own b c e
    have fe : (if (C b).isSome then H b else F b) = some o := by rw [e]; simpa using g1
    exact ⟨n, rl'.bf b o fe, o, rl'.fr b o fe, g2⟩
  refine q v' d' (upd B' a (.dK vs)) C (upd H' a (.dK vs)) keepB ⟨fun b o e => ?_, fun b o e => ?_, fun b o e => ?_, rl.cf, fun b c e => ?_, fun b c e => ?_⟩ ?_ p
  · by_cases n : b = a
    · subst n; rw [upd_same] at e ⊢; exact e
    · rw [upd_ne n] at e ⊢; exact rl'.ex b o e
  · obtain ⟨n, g, _⟩ := keepF b o e
    rw [upd_ne n]; exact g
  · obtain ⟨n, _, g⟩ := keepF b o e
    rw [upd_ne n]; exact g
  · obtain ⟨n, g, _⟩ := keepC b c e
    rw [upd_ne n]; exact g
  · obtain ⟨n, _, o, g1, g2⟩ := keepC b c e
    exact ⟨o, by rw [upd_ne n]; exact g1, g2.mono keepB⟩
  · exact rep_but (fun b o n e => by rw [upd_ne n]; exact e) hB'a (by intro _ z; cases z) (by intro _ z; cases z) rp' nd
/-- the keys of a locked dict -/
theorem wi_keys {td : TE} {PI' : List D → CH → Prop} (h : W B0 td E C fun d C1 => ∃ o ks, d = .dicL o ks ∧ PI' ((ks.map (·.1)).map D.int) C1) : WI B0 (iKeys td) E C PI' := fun B F σ H sb rl re R q =>
  h B F σ H sb rl re _ fun v d B1 C1 H1 e1 rl1 rp ⟨o, ks, hd, p⟩ => by
    subst hd
    cases rp with
    | @dicL a _ vs _ ha r =>
    refine ⟨a, o, rfl, .inl ⟨vs, rl1.ex _ _ ha, q _ _ B1 C1 H1 e1 rl1 ⟨?_, ?_, ?_⟩ p⟩⟩
    · intro i B' F' H' C' s rl' hi
      exact ⟨rl'.ex _ _ (s _ _ ha), by rw [repK_len r]; simpa using hi⟩
    · intro B' F' H' C' s rl'
      exact ⟨rl'.ex _ _ (s _ _ ha), by rw [repK_len r]; simp⟩
    · intro i x B' F' H' H2 C' s rl' hi y
      obtain ⟨e, k, z, hk, hx⟩ := y
      subst e hx
      have em := repK_keys r
      have g : (vs.map fun kv => kV kv.1)[i]? = some (kV k) := by rw [List.getElem?_map, hk]; rfl
      rw [em, List.getElem?_map] at g
      cases gi : (ks.map (·.1))[i]? with
      | none => rw [gi] at g; cases g
      | some n =>
        rw [gi] at g
        have ek : kV k = .int n := (Option.some.inj g).symm
        refine ⟨.int n, B', by rw [List.getElem?_map, gi]; rfl, Same.refl _, rl', ?_⟩
        rw [ek]
        exact .int
theorem w_dgetR {td ty : TE} (h : W B0 td E C fun x C1 => W B0 ty E C1 fun y C2 => ∃ ks k d, (x = .dicR ks ∨ ∃ o, x = .dicL o ks) ∧ y = .int k ∧ lookD ks k = some d ∧ P d C2) : W B0 (tDGet td ty) E C P := fun B F σ H sb rl re Q q =>
  h B F σ H sb rl re _ fun v1 d1 B1 C1 H1 e1 rl1 rp1 h1 => h1 B1 F σ H1 (sb.trans e1) rl1 (re.mono e1) _ fun v2 d2 B2 C2 H2 e2 rl2 rp2 ⟨ks, k, d, hd, hk, hl, p⟩ => by
    subst hk
    cases rp2
    have key : ∃ a vs, v1 = .ref a ∧ Rd H2 a (.dK vs) ∧ RepK B2 vs ks := by
      rcases hd with rfl | ⟨o, rfl⟩
      · cases rp1 with
        | dicR h r => exact ⟨_, _, rfl, h.elim (fun z => .inl (rl2.ex _ _ (e2 _ _ z))) fun ⟨o, z⟩ => .inr ⟨o, rl2.ex _ _ (e2 _ _ z)⟩, r.mono e2⟩
      · cases rp1 with
        | dicL h r => exact ⟨_, _, rfl, .inr ⟨_, rl2.ex _ _ (e2 _ _ h)⟩, r.mono e2⟩
    obtain ⟨a, vs, rfl, ha, r⟩ := key
    obtain ⟨v, g1, g2⟩ := (repK_look r k).2 d hl
    exact ⟨a, v, rfl, .inl ⟨vs, Sum.inl k, ha, rfl, g1.symm⟩, q v d B2 C2 H2 (e1.trans e2) rl2 g2 p⟩
/-- sorted(..) of ints -/
theorem call_sortedK {X : Cx} (K : PySem.W.Frag) (h : X.K = K := by rfl) : CallR X (.builtin "sorted") (rSortedI K) := by subst h; exact cr_sortedI
theorem wc_sorted {x : D} {ns : List Int} (h : LstD C x (ns.map D.int)) (k : ∀ ns' : List Int, ns'.Perm ns → ns'.Pairwise (· ≤ ·) → P (.lst (ns'.map D.int)) C) : WC B0 (rSortedI K) [x] C P := fun B F H vs _ rl r Q q => by
  cases r with
  | cons r1 r =>
    cases r
    obtain ⟨a, vs, rfl, hs, rr⟩ := lstD_rd rl r1 h
    have e := rr.ints
    subst e
    refine ⟨a, ns, rfl, SqL.of hs, fun ns' p hp hw hn => ?_⟩
    have e := same_upd (o := .lst (ns'.map V.int)) (rl.noB hn)
    exact q _ _ _ C _ e (rl.new hn) (.lst upd_same (Reps.ofInts ns')) (k ns' hp hw)
theorem sorted_same {a b : List Int} (hp : a.Perm b) (ha : a.Pairwise (· ≤ ·)) (hb : b.Pairwise (· ≤ ·)) : a = b := by
  first
    | exact hp.eq_of_pairwise (fun x y _ _ h1 h2 => Int.le_antisymm h1 h2) ha hb
    | exact List.Perm.eq_of_pairwise (fun x y _ _ h1 h2 => Int.le_antisymm h1 h2) ha hb hp
end

inductive NoDicC : Cell → Prop
  | lst {l : List D} : (∀ x ∈ l, NoDic x) → NoDicC (.lst l)
  | dic {l : List (Int × D)} : (∀ p ∈ l, NoDic p.2) → NoDicC (.dic l)
  | ins {c : Addr} {fs : List (Str × D)} : (∀ p ∈ fs, NoDic p.2) → NoDicC (.ins c fs)
theorem repF_but {B B' : Hp} {a : Addr} {u : HO} (e : ButA a B B') (ha : B a = some u) (h1 : ∀ vs, u ≠ .tup vs) (h2 : ∀ vs, u ≠ .lst vs) {vs : List (Str × V)} {ks : List (Str × D)} (r : RepF B vs ks) (n : ∀ p ∈ ks, NoDic p.2) : RepF B' vs ks := by
  induction r with
  | nil => exact .nil
  | @cons k v d vs ds h r ih => exact .cons (rep_but e ha h1 h2 h (n (k, d) (by simp))) (ih fun p hp => n p (by simp [hp]))
theorem repO_but {B B' : Hp} {a : Addr} {u : HO} (e : ButA a B B') (ha : B a = some u) (h1 : ∀ vs, u ≠ .tup vs) (h2 : ∀ vs, u ≠ .lst vs) {o : HO} {c : Cell} (r : RepO B o c) (n : NoDicC c) : RepO B' o c := by
  cases n with
  | lst n => cases r with | lst r => exact .lst (reps_but e ha h1 h2 r n)
  | dic n => cases r with | dic r => exact .dic (repK_but e ha h1 h2 r n)
  | ins n => cases r with | ins r => exact .ins (repF_but e ha h1 h2 r n)
section
variable {B0 : Gr} {C : CH} {K : PySem.W.Frag} {E : EnvD} {ks : List (Int × D)} {D1 : EndD}
theorem ws_lock {t : TS} {i : Nat} (E' : Obj → EnvD) (he : E[i]? = some (some (.dic ks))) (hk : ∀ p ∈ ks, NoDic p.2) (hl : ∀ od, (E' od).length = E.length)
    (hE : ∀ (od : Obj) (j : Nat) (d : D), (E' od)[j]? = some (some d) → (j = i ∧ d = .dicL od ks) ∨ ∃ d0, E[j]? = some (some d0) ∧ LockR d0 d) (hC : ∀ a c, C a = some c → NoDicC c)
    (h : ∀ B1 od, WS B1 t (E' od) C ⟨fun E1 C1 => (∀ a c, C1 a = some c → NoDicC c) ∧ ∃ E2 : EnvD, E2.length = E1.length ∧ (∀ (j : Nat) (d : D), E2[j]? = some (some d) → E1[j]? = some (some d) ∧ NoDic d) ∧ D1.nx E2 C1,
      fun d C1 => (∀ a c, C1 a = some c → NoDicC c) ∧ NoDic d ∧ D1.rt d C1, fun _ _ => False, fun _ _ => False⟩) : WS B0 (tLock t) E C D1 := fun B F σ H sb rl re Dn ok => by
  obtain ⟨v, hv, rv⟩ := re.get i _ he
  cases rv with
  | @dic a vs _ ha r =>
  refine ⟨a, .dK vs, rl.ex _ _ ha, trivial, fun od => ?_⟩
  have nt : ∀ ws : List V, (HO.dK vs) ≠ .tup ws := by intro _ z; cases z
  have nl : ∀ ws : List V, (HO.dK vs) ≠ .lst ws := by intro _ z; cases z
  have nt2 : ∀ ws : List V, (HO.frz od (.dK vs)) ≠ .tup ws := by intro _ z; cases z
  have nl2 : ∀ ws : List V, (HO.frz od (.dK vs)) ≠ .lst ws := by intro _ z; cases z
  have but : ButA a B (upd B a (.frz od (.dK vs))) := fun b o n e => by rw [upd_ne n]; exact e
  have nF : ∀ b o, F b = some o → b ≠ a := fun b o e z => by subst z; rw [rl.bf _ o e] at ha; cases ha
  have nC : ∀ b c, C b = some c → b ≠ a := fun b o e z => by subst z; rw [rl.bc _ o e] at ha; cases ha
  have rl2 : Rel (upd B a (.frz od (.dK vs))) C F (upd H a (.frz od (.dK vs))) := by
    refine ⟨fun b o e => ?_, fun b o e => ?_, fun b o e => ?_, rl.cf, fun b c e => ?_, fun b c e => ?_⟩
    · by_cases n : b = a
      · subst n; rw [upd_same] at e ⊢; exact e
      · rw [upd_ne n] at e ⊢; exact rl.ex b o e
    · rw [upd_ne (nF b o e)]; exact rl.fr b o e
    · rw [upd_ne (nF b o e)]; exact rl.bf b o e
    · rw [upd_ne (nC b c e)]; exact rl.bc b c e
    · obtain ⟨o, g1, g2⟩ := rl.own b c e
      exact ⟨o, by rw [upd_ne (nC b c e)]; exact g1, repO_but but ha nt nl g2 (hC b c e)⟩
  have re2 : RelE (upd B a (.frz od (.dK vs))) σ (E' od) := by
    refine ⟨by rw [re.len, hl], fun j d e => ?_⟩
    rcases hE od j d e with ⟨rfl, rfl⟩ | ⟨d0, e0, lr⟩
    · exact ⟨_, hv, .dicL upd_same (repK_but but ha nt nl r hk)⟩
    · obtain ⟨x, hx, rx⟩ := re.get j d0 e0
      refine ⟨x, hx, ?_⟩
      cases lr with
      | same n => exact rep_but but ha nt nl rx n
      | dic n =>
        cases rx with
        | @dic b ws _ hb rb =>
          refine .dicR ?_ (repK_but but ha nt nl rb n)
          by_cases z : b = a
          · subst z
            rw [ha] at hb
            cases hb
            exact .inr ⟨od, upd_same⟩
          · exact .inl (by rw [upd_ne z]; exact hb)
  have back : ∀ (B' : Hp) (C' : CH) (H' : Hp), Same (upd B a (.frz od (.dK vs))) B' → Rel B' C' F H' → (∀ a c, C' a = some c → NoDicC c) →
      H' a = some (.frz od (.dK vs)) ∧ Same B (upd B' a (.dK vs)) ∧ Rel (upd B' a (.dK vs)) C' F (upd H' a (.dK vs)) ∧ ∀ v d, Rep B' v d → NoDic d → Rep (upd B' a (.dK vs)) v d := by
    intro B' C' H' s rl' hn
    have hB'a : B' a = some (.frz od (.dK vs)) := s a _ upd_same
    have but2 : ButA a B' (upd B' a (.dK vs)) := fun b o n e => by rw [upd_ne n]; exact e
    have nF : ∀ b o, F b = some o → b ≠ a := fun b o e z => by subst z; rw [rl'.bf _ o e] at hB'a; cases hB'a
    have nC : ∀ b c, C' b = some c → b ≠ a := fun b o e z => by subst z; rw [rl'.bc _ o e] at hB'a; cases hB'a
    refine ⟨rl'.ex _ _ hB'a, fun b o e => ?_, ⟨fun b o e => ?_, fun b o e => ?_, fun b o e => ?_, rl'.cf, fun b c e => ?_, fun b c e => ?_⟩, fun v d r n => rep_but but2 hB'a nt2 nl2 r n⟩
    · by_cases n : b = a
      · subst n; rw [upd_same, ← ha]; exact e
      · rw [upd_ne n]; exact s b o (by rw [upd_ne n]; exact e)
    · by_cases n : b = a
      · subst n; rw [upd_same] at e ⊢; exact e
      · rw [upd_ne n] at e ⊢; exact rl'.ex b o e
    · rw [upd_ne (nF b o e)]; exact rl'.fr b o e
    · rw [upd_ne (nF b o e)]; exact rl'.bf b o e
    · rw [upd_ne (nC b c e)]; exact rl'.bc b c e
    · obtain ⟨o, g1, g2⟩ := rl'.own b c e
      exact ⟨o, by rw [upd_ne (nC b c e)]; exact g1, repO_but but2 hB'a nt2 nl2 g2 (hn b c e)⟩
  refine h ⟨upd B a (.frz od (.dK vs)), F⟩ od _ F σ _ (Sb.refl _ _) rl2 re2 _ ⟨fun σ' E1 B' C' H' s rl' re' ⟨hn, E2, l2, h2, k⟩ => ?_, fun v' d B' C' H' s rl' rp ⟨hn, nd, k⟩ => ?_, fun _ _ _ _ _ _ _ _ z => z.elim, fun _ _ _ _ _ _ _ _ z => z.elim⟩
  · obtain ⟨b1, b2, b3, b4⟩ := back B' C' H' s rl' hn
    refine ⟨b1, ok.nx σ' E2 _ C' _ b2 b3 ⟨by rw [re'.len, l2], fun j d e => ?_⟩ k⟩
    obtain ⟨g1, g2⟩ := h2 j d e
    obtain ⟨x, hx, rx⟩ := re'.get j d g1
    exact ⟨x, hx, b4 x d rx g2⟩
  · obtain ⟨b1, b2, b3, b4⟩ := back B' C' H' s rl' hn
    exact ⟨b1, ok.rt v' d _ C' _ b2 b3 (b4 v' d rp nd) k⟩
end
/-! ### a def that touches no cell of its caller's -/
section
variable {P : Program} {w : World} {K : PySem.W.Frag} {mg : Str → Option Value} {base : Heap}
abbrev SpP := List D → (D → Prop) → Prop
def pureD (g : SpP) : SpD := fun ds C P => g ds fun d => P d C
theorem has_ofP {x : Str} {st : Stmt} {N ps : List Str} {k : Nat} {g : SpP} (Df : DefAt K mg x st ps) (S : FnScope N ps (defScope st)) (len : ∀ ds P, g ds P → ds.length = ps.length)
    (hbody : ∀ (f : Addr) (cdv : Value) (A : Around) (outer : List PySem.Env) (s : Shared) (H : Hp) (E : XK), Room k (A.deeper (PyProof.Rows.envOfC x (defScope st) s.heap.objs.size f cdv)) →
      ∃ t, PSs (cxOf CX0 P w K mg base N x (defScope st) f cdv A outer s H E).nox (defBody st) t ∧ ∀ (B : Gr) ds PD, g ds PD → WS B t (startD N.length ds) (fun _ => none) { nx := fun _ _ => PD .non, rt := fun d _ => PD d }) :
    Has P w K mg base (k + 1) x ps (spD (pureD g)) := by
  refine has_of Df S (fun ds C P h => len ds _ h) fun f cdv A outer s H E hr => ?_
  obtain ⟨t, h1, h2⟩ := hbody f cdv A outer s H E hr
  refine ⟨t, h1, fun B0 ds C PD hg => ?_⟩
  intro B F σ H sb rl re Dn ok
  have rl2 : Rel B (fun _ => none) (fun b => if (C b).isSome then H b else F b) H := by
    refine ⟨rl.ex, fun b o e => ?_, fun b o e => ?_, fun _ _ _ => rfl, (fun b c e => by cases e), (fun b c e => by cases e)⟩
    · have e : (if (C b).isSome then H b else F b) = some o := e
      split at e
      · exact e
      · exact rl.fr b o e
    · have e : (if (C b).isSome then H b else F b) = some o := e
      split at e
      · rename_i hs
        cases ec : C b with
        | none => rw [ec] at hs; simp at hs
        | some c => exact rl.bc b c ec
      · exact rl.bf b o e
  have back : ∀ (B' : Hp) (C' : CH) (H' : Hp), Same B B' → Rel B' C' (fun b => if (C b).isSome then H b else F b) H' → Rel B' C F H' := by
    intro B' C' H' s rl'
    have keepF : ∀ b o, F b = some o → H' b = some o ∧ B' b = none := fun b o e => by
      have cn := rl.cf b o e
      have fe : (if (C b).isSome then H b else F b) = some o := by rw [cn]; simpa using e
      exact ⟨rl'.fr b o fe, rl'.bf b o fe⟩
    have keepC : ∀ b c, C b = some c → B' b = none ∧ ∃ o, H' b = some o ∧ RepO B o c := fun b c e => by
      obtain ⟨o, g1, g2⟩ := rl.own b c e
      have fe : (if (C b).isSome then H b else F b) = some o := by rw [e]; simpa using g1
      exact ⟨rl'.bf b o fe, o, rl'.fr b o fe, g2⟩
    refine ⟨rl'.ex, fun b o e => (keepF b o e).1, fun b o e => (keepF b o e).2, rl.cf, fun b c e => (keepC b c e).1, fun b c e => ?_⟩
    obtain ⟨_, o, g1, g2⟩ := keepC b c e
    exact ⟨o, g1, g2.mono s⟩
  refine h2 B0 ds _ hg B _ σ H (sb.grow fun b o e => show (if (C b).isSome then H b else F b) = some o by rw [rl.cf b o e]; simpa using e) rl2 re Dn ⟨?_, ?_, ?_, ?_⟩
  · exact fun σ' E' B' C' H' s rl' re' k => ok.nx σ' E' B' C H' s (back B' C' H' s rl') re' k
  · exact fun v d B' C' H' s rl' rp k => ok.rt v d B' C H' s (back B' C' H' s rl') rp k
  · exact fun _ _ _ _ _ _ _ _ z => z.elim
  · exact fun _ _ _ _ _ _ _ _ z => z.elim
end
end Dv

set_option maxRecDepth 100000
set_option maxHeartbeats 1000000
/-! Dicts of integers, displays of dicts, == of dicts and of lists of integers. -/
namespace Dv
open PySem L2
/-! ### dicts of integers -/
def encI (l : List (Int × Int)) : List (Int × D) := l.map fun p => (p.1, D.int p.2)
def getI (l : List (Int × Int)) (k : Int) : Option Int := (l.find? fun p => decide (p.1 = k)).map (·.2)
def putI (l : List (Int × Int)) (k v : Int) : List (Int × Int) :=
  if l.any fun p => decide (p.1 = k) then l.map fun p => if p.1 = k then (p.1, v) else p else l ++ [(k, v)]
def keysI (l : List (Int × Int)) : List Int := l.map (·.1)
theorem encI_nil : encI [] = [] := rfl
theorem encI_keys (l : List (Int × Int)) : (encI l).map (·.1) = keysI l := by simp [encI, keysI, List.map_map, Function.comp_def]
theorem encI_len (l : List (Int × Int)) : (encI l).length = l.length := by simp [encI]
theorem lookD_encI (l : List (Int × Int)) (k : Int) : lookD (encI l) k = (getI l k).map D.int := by
  unfold lookD encI getI
  rw [List.find?_map, Option.map_map, Option.map_map]
  rfl
theorem putD_encI (l : List (Int × Int)) (k v : Int) : putD (encI l) k (.int v) = encI (putI l k v) := by
  unfold putD encI putI
  rw [List.any_map]
  have e : ((fun p : Int × D => decide (p.1 = k)) ∘ fun p : Int × Int => (p.1, D.int p.2)) = fun p : Int × Int => decide (p.1 = k) := rfl
  rw [e]
  split
  · rw [List.map_map, List.map_map]
    apply List.map_congr_left
    intro p _
    simp only [Function.comp_def]
    split <;> rfl
  · rw [List.map_append]; rfl
theorem getD_encI (l : List (Int × Int)) (k z : Int) : getD' (encI l) k (.int z) = .int ((getI l k).getD z) := by
  unfold getD'
  rw [lookD_encI]
  cases getI l k <;> rfl
theorem getI_nil (k : Int) : getI [] k = none := rfl
theorem getI_cons (p : Int × Int) (l : List (Int × Int)) (k : Int) : getI (p :: l) k = if p.1 = k then some p.2 else getI l k := by
  unfold getI
  rw [List.find?_cons]
  by_cases h : p.1 = k <;> simp [h]
theorem getI_none {l : List (Int × Int)} {k : Int} : getI l k = none ↔ k ∉ keysI l := by
  induction l with
  | nil => simp [getI, keysI]
  | cons p l ih =>
    rw [getI_cons]
    by_cases h : p.1 = k
    · simp [h, keysI]
    · rw [if_neg h, ih]
      simp [keysI, Ne.symm h]
theorem any_keys (l : List (Int × Int)) (k : Int) : (l.any fun p => decide (p.1 = k)) = true ↔ k ∈ keysI l := by
  simp [keysI]
theorem getI_append (l m : List (Int × Int)) (k : Int) : getI (l ++ m) k = (getI l k).or (getI m k) := by
  induction l with
  | nil => rfl
  | cons p l ih =>
    rw [List.cons_append, getI_cons, getI_cons, ih]
    split <;> rfl
theorem getI_put (l : List (Int × Int)) (k v j : Int) : getI (putI l k v) j = if j = k then some v else getI l j := by
  unfold putI
  split
  · rename_i h
    rw [any_keys] at h
    induction l with
    | nil => simp [keysI] at h
    | cons p l ih =>
      rw [List.map_cons, getI_cons, getI_cons]
      by_cases e : p.1 = k
      · rw [if_pos e]
        by_cases ej : j = k
        · subst ej; simp [e]
        · have : ¬ p.1 = j := fun z => ej (z ▸ e)
          rw [if_neg ej, if_neg this, if_neg this]
          by_cases hk : k ∈ keysI l
          · rw [ih hk, if_neg ej]
          · have : (l.map fun p => if p.1 = k then (p.1, v) else p) = l := by
              conv => rhs; rw [← List.map_id l]
              apply List.map_congr_left
              intro q hq
              have : ¬ q.1 = k := fun z => hk (by rw [← z]; exact List.mem_map.mpr ⟨q, hq, rfl⟩)
              simp [this]
            rw [this]
      · rw [if_neg e]
        have hk : k ∈ keysI l := by
          simp only [keysI, List.map_cons, List.mem_cons] at h
          rcases h with h | h
          · exact absurd h.symm e
          · exact h
        rw [ih hk]
        by_cases ej : j = k
        · subst ej; rw [if_pos rfl, if_neg e, if_pos rfl]
        · rw [if_neg ej, if_neg ej]
  · rename_i h
    rw [any_keys] at h
    rw [getI_append]
    by_cases ej : j = k
    · subst ej
      rw [getI_none.mpr h, if_pos rfl, getI_cons]
      simp
    · rw [if_neg ej, getI_cons, if_neg (Ne.symm ej), getI_nil]
      cases getI l j <;> rfl
theorem keys_put (l : List (Int × Int)) (k v : Int) : keysI (putI l k v) = if k ∈ keysI l then keysI l else keysI l ++ [k] := by
  unfold putI
  by_cases h : k ∈ keysI l
  · rw [if_pos ((any_keys l k).mpr h), if_pos h]
    unfold keysI
    rw [List.map_map]
    apply List.map_congr_left
    intro p _
    simp only [Function.comp_def]
    split <;> rfl
  · rw [if_neg (fun z => h ((any_keys l k).mp z)), if_neg h]
    simp [keysI]
theorem put_new {l : List (Int × Int)} {k v : Int} (h : k ∉ keysI l) : putI l k v = l ++ [(k, v)] := by
  unfold putI
  rw [if_neg (fun z => h ((any_keys l k).mp z))]
theorem nodup_put {l : List (Int × Int)} {k v : Int} (h : (keysI l).Nodup) : (keysI (putI l k v)).Nodup := by
  rw [keys_put]
  split
  · exact h
  · rename_i n
    rw [List.nodup_append]
    refine ⟨h, by simp, fun a ha b hb => ?_⟩
    simp at hb
    subst hb
    exact fun z => n (z ▸ ha)
theorem len_put (l : List (Int × Int)) (k v : Int) : (putI l k v).length ≤ l.length + 1 := by
  unfold putI
  split
  · simp
  · simp
theorem repK_encI {B : Hp} : ∀ {vs : List (Key × V)} {l : List (Int × Int)}, RepK B vs (encI l) → vs = l.map fun p => ((Sum.inl p.1 : Key), V.int p.2)
  | _, [], .nil => rfl
  | _, p :: l, .cons h r => by
    cases h
    rw [repK_encI r]
    rfl
theorem valV_encI : ∀ {l : List (Int × Int)} {p : Int × Int}, (keysI l).Nodup → p ∈ l → valV (l.map fun p => ((Sum.inl p.1 : Key), V.int p.2)) (Sum.inl p.1) = some (.int p.2)
  | q :: l, p, hn, hp => by
    simp only [keysI, List.map_cons, List.nodup_cons] at hn
    rcases List.mem_cons.mp hp with rfl | hp
    · exact valV_pos rfl
    · rw [List.map_cons, valV_neg (fun z => hn.1 (by rw [show q.1 = p.1 from Sum.inl.inj z]; exact List.mem_map.mpr ⟨p, hp, rfl⟩))]
      exact valV_encI hn.2 hp
section
variable {B0 : Gr} {C : CH} {P : D → CH → Prop} {K : PySem.W.Frag} {E : EnvD} {x y : D} {l : List (Int × Int)} {ns : List Int}
theorem wr_neDicI (hx : DicD C x (encI l)) (hy : DicD C y (encI l)) (hn : (keysI l).Nodup) (k : P (.bl false) C) : WR B0 (rNeU K) x y C P := fun B F H vx vy _ rl h1 h2 Q q => by
  obtain ⟨a, vs, rfl, ha, r1⟩ := dicD_rd rl h1 hx
  obtain ⟨b, ws, rfl, hb, r2⟩ := dicD_rd rl h2 hy
  have e1 := repK_encI r1
  have e2 := repK_encI r2
  subst e1 e2
  refine .inr (.inr ⟨a, b, _, _, rfl, rfl, ha, hb, rfl, fun p hp => ?_, q _ _ B C H (Same.refl B) rl .bl k⟩)
  obtain ⟨z, hz, rfl⟩ := List.mem_map.mp hp
  exact ⟨valV_encI hn hz, rfl⟩
theorem wr_eqDicI (hx : DicD C x (encI l)) (hy : DicD C y (encI l)) (hn : (keysI l).Nodup) (k : P (.bl true) C) : WR B0 (rEqU K) x y C P := fun B F H vx vy _ rl h1 h2 Q q => by
  obtain ⟨a, vs, rfl, ha, r1⟩ := dicD_rd rl h1 hx
  obtain ⟨b, ws, rfl, hb, r2⟩ := dicD_rd rl h2 hy
  have e1 := repK_encI r1
  have e2 := repK_encI r2
  subst e1 e2
  refine .inr (.inr ⟨a, b, _, _, rfl, rfl, ha, hb, rfl, fun p hp => ?_, q _ _ B C H (Same.refl B) rl .bl k⟩)
  obtain ⟨z, hz, rfl⟩ := List.mem_map.mp hp
  exact ⟨valV_encI hn hz, rfl⟩
theorem toPys_ints : ∀ ns : List Int, toPys (ns.map D.int) = some (ns.map PyData.int)
  | [] => rfl
  | n :: r => by
    have h := toPys_ints r
    show (toPy (.int n)).bind (fun a => (toPys (r.map D.int)).map fun b => a :: b) = _
    rw [h]
    rfl
theorem toPy_ints (ns : List Int) : toPy (.lst (ns.map D.int)) = some (.list (ns.map PyData.int)) := by
  show (toPys (ns.map D.int)).map PyData.list = _
  rw [toPys_ints]
  rfl
theorem eqvAll_ints : ∀ ns ms : List Int, PyData.eqvAll (ns.map PyData.int) (ms.map PyData.int) = decide (ns = ms)
  | [], [] => by simp [PyData.eqvAll]
  | [], _ :: _ => by simp [PyData.eqvAll]
  | _ :: _, [] => by simp [PyData.eqvAll]
  | a :: r, b :: t => by
    simp only [List.map_cons, PyData.eqvAll, PyData.eqv, eqvAll_ints r t]
    by_cases h : a = b <;> by_cases h' : r = t <;> simp [h, h']
theorem wr_neInts {ms : List Int} (k : P (.bl (!decide (ns = ms))) C) : WR B0 (rNeU K) (.lst (ns.map D.int)) (.lst (ms.map D.int)) C P :=
  wr_neP (toPy_ints ns) (toPy_ints ms) (PySem.W.ke_shaped_ints ns) (PySem.W.ke_shaped_ints ms) (by rw [PyData.eqv, eqvAll_ints]; exact k)
theorem wr_eqInts {ms : List Int} (k : P (.bl (decide (ns = ms))) C) : WR B0 (rEqU K) (.lst (ns.map D.int)) (.lst (ms.map D.int)) C P :=
  wr_eqP (toPy_ints ns) (toPy_ints ms) (PySem.W.ke_shaped_ints ns) (PySem.W.ke_shaped_ints ms) (by rw [PyData.eqv, eqvAll_ints]; exact k)
theorem wr_ip {i j : Int} {g : Int → Int → Int} (k : P (.int (g i j)) C) : WR B0 (fun a b H Q => ipI g a b H Q) (.int i) (.int j) C P := fun B F H vx vy _ rl hx hy Q q => by
  cases hx
  cases hy
  exact ⟨i, j, rfl, rfl, q _ _ B C H (Same.refl B) rl .int k⟩
/-! ### a cell that is to change no more -/
theorem w_frzD {te : TE} (h : W B0 te E C fun d C1 => ∃ a ks, d = .ref a ∧ C1 a = some (.dic ks) ∧ P (.dic ks) (delC C1 a)) : W B0 te E C P := fun B F σ H sb rl re Q q =>
  h B F σ H sb rl re _ fun v d B1 C1 H1 e1 rl1 rp ⟨a, ks, hd, hc, p⟩ => by
    subst hd
    cases rp
    obtain ⟨o, h1, h2⟩ := rl1.own _ _ hc
    cases h2 with
    | @dic vs _ r =>
    have s := same_upd (o := .dK vs) (rl1.bc a _ hc)
    exact q _ _ _ _ H1 (e1.trans s) (rl1.freeze hc h1) (.dic upd_same (r.mono s)) p
theorem w_frzL {te : TE} (h : W B0 te E C fun d C1 => ∃ a ks, d = .ref a ∧ C1 a = some (.lst ks) ∧ P (.lst ks) (delC C1 a)) : W B0 te E C P := fun B F σ H sb rl re Q q =>
  h B F σ H sb rl re _ fun v d B1 C1 H1 e1 rl1 rp ⟨a, ks, hd, hc, p⟩ => by
    subst hd
    cases rp
    obtain ⟨o, h1, h2⟩ := rl1.own _ _ hc
    cases h2 with
    | @lst vs _ r =>
    have s := same_upd (o := .lst vs) (rl1.bc a _ hc)
    exact q _ _ _ _ H1 (e1.trans s) (rl1.freeze hc h1) (.lst upd_same (r.mono s)) p
/-! ### displays -/
def WPs (B0 : Gr) (t : List (TE × TE)) (E : EnvD) (C : CH) (P : List (Int × D) → CH → Prop) : Prop :=
  ∀ (B F : Hp) (σ : St) (H : Hp), Sb B0 B F → Rel B C F H → RelE B σ E → ∀ Q : List (V × V) → Hp → Prop,
    (∀ kvs ds B' C' H', Same B B' → Rel B' C' F H' → RepK B' kvs ds → P ds C' → Q (kvs.map fun kv => (kV kv.1, kv.2)) H') → tPairs t σ H Q
theorem wps_nil {PL : List (Int × D) → CH → Prop} (k : PL [] C) : WPs B0 [] E C PL := fun B F σ H _ rl _ Q q => q [] [] B C H (Same.refl B) rl .nil k
theorem wps_cons {PL : List (Int × D) → CH → Prop} {tk tv : TE} {r : List (TE × TE)} (h : W B0 tk E C fun x C1 => ∃ k, x = .int k ∧ W B0 tv E C1 fun y C2 => WPs B0 r E C2 fun ps C3 => PL ((k, y) :: ps) C3) : WPs B0 ((tk, tv) :: r) E C PL := fun B F σ H sb rl re Q q =>
  h B F σ H sb rl re _ fun v1 d1 B1 C1 H1 e1 rl1 rp1 ⟨k, hd, h1⟩ => by
    subst hd
    cases rp1
    exact h1 B1 F σ H1 (sb.trans e1) rl1 (re.mono e1) _ fun v2 d2 B2 C2 H2 e2 rl2 rp2 h2 =>
      h2 B2 F σ H2 ((sb.trans e1).trans e2) rl2 ((re.mono e1).mono e2) _ fun kvs ds B3 C3 H3 e3 rl3 rp3 p => q ((Sum.inl k, v2) :: kvs) _ B3 C3 H3 ((e1.trans e2).trans e3) rl3 (.cons (rp2.mono e3) rp3) p
def mergeD (l acc : List (Int × D)) : List (Int × D) := l.foldl (fun acc p => putD acc p.1 p.2) acc
theorem repK_merge {B : Hp} : ∀ {kvs : List (Key × V)} {ds : List (Int × D)} {acc : List (Key × V)} {ac : List (Int × D)}, RepK B kvs ds → RepK B acc ac → RepK B (mergeK acc kvs) (mergeD ds ac)
  | _, _, _, _, .nil, r => r
  | (Sum.inl k, v) :: kvs, (_, d) :: ds, acc, ac, .cons h r, r0 => by
    show RepK B (mergeK (putK acc (Sum.inl k) v) kvs) (mergeD ds (putD ac k d))
    exact repK_merge r (repK_put r0 k h)
theorem w_dispC {trs : List (TE × TE)} (h : ∀ a, C a = none → WPs B0 trs E (updC C a (.dic [])) fun ps C1 => C1 a = some (.dic []) ∧ ps.length ≤ 15 ∧ P (.ref a) (updC C1 a (.dic (mergeD ps [])))) : W B0 (tDisp trs) E C P := fun B F σ H sb rl re Q q a ha =>
  h a (rl.noC ha) B F σ _ sb (rl.newC ha (.dic .nil)) re _ fun kvs ds B1 C1 H1 e1 rl1 rp ⟨hc, hl, p⟩ => by
    obtain ⟨o, h1, h2⟩ := rl1.own _ _ hc
    cases h2 with
    | @dic vs _ r =>
    cases r
    refine ⟨h1, kvs, rfl, by rw [repK_len rp]; exact hl, ?_⟩
    exact q _ _ B1 _ _ e1 (rl1.write hc (.dic (repK_merge rp .nil))) .ref p
/-- what holds behind a statement, named -/
theorem ws_cut {t : TS} {D1 : EndD} (I : EnvD → CH → Prop) (h : WS B0 t E C { D1 with nx := I }) (k : ∀ E1 C1, I E1 C1 → D1.nx E1 C1) : WS B0 t E C D1 := fun B F σ H sb rl re Dn ok =>
  h B F σ H sb rl re Dn ⟨fun σ' E1 B' C' H' s rl' re' p => ok.nx σ' E1 B' C' H' s rl' re' (k E1 C' p), ok.rt, ok.bk, ok.ct⟩
end
end Dv

set_option maxRecDepth 100000
/-! Lengths, ranges, places, fitted offsets. -/
namespace Dv
open PySem L2
def lenB (b : Box) : Int := (b.parts.map Box.hgt).sum
def rangeB (b : Box) : Int := max 0 (lenB b - b.hgt)
def placesL : Int → List Box → List Int
  | _, [] => []
  | z, p :: r => z :: placesL (z + p.hgt) r
def scrsB (b : Box) : List Box := b.all.filter Box.isS
theorem scrsB_nil : ([] : List Box).filter Box.isS = [] := rfl
def fitL (o : List (Int × Int)) (l : List Box) (acc : List (Int × Int)) : List (Int × Int) :=
  l.foldl (fun acc s => putI acc s.num (min (max ((getI o s.num).getD 0) 0) (rangeB s))) acc
def fitB (o : List (Int × Int)) (b : Box) : List (Int × Int) := fitL o (scrsB b) []
theorem placesL_len : ∀ (z : Int) (l : List Box), (placesL z l).length = l.length
  | _, [] => rfl
  | z, p :: r => by rw [placesL, List.length_cons, placesL_len, List.length_cons]
theorem placesL_snoc : ∀ (z : Int) (l : List Box) (p : Box), placesL z (l ++ [p]) = placesL z l ++ [z + (l.map Box.hgt).sum]
  | z, [], p => by simp [placesL]
  | z, q :: r, p => by
    rw [List.cons_append, placesL, placesL_snoc (z + q.hgt) r p, placesL, List.cons_append, List.map_cons, List.sum_cons, Int.add_assoc]
theorem placesL_take : ∀ (l : List Box) (z : Int), placesL z l = (List.range l.length).map fun k => z + ((l.take k).map Box.hgt).sum
  | [], _ => rfl
  | p :: r, z => by
    rw [placesL, placesL_take r, List.length_cons, List.range_succ_eq_map, List.map_cons, List.map_map]
    congr 1
    · simp
    · apply List.map_congr_left
      intro k _
      simp [Function.comp_def, Int.add_assoc]
theorem fitL_app (o : List (Int × Int)) (l m : List Box) (acc : List (Int × Int)) : fitL o (l ++ m) acc = fitL o m (fitL o l acc) := by
  unfold fitL
  rw [List.foldl_append]
theorem fitL_len (o : List (Int × Int)) : ∀ (l : List Box) (acc : List (Int × Int)), (fitL o l acc).length ≤ acc.length + l.length
  | [], acc => Nat.le_refl _
  | p :: r, acc => by
    have h := fitL_len o r (putI acc p.num (min (max ((getI o p.num).getD 0) 0) (rangeB p)))
    have h2 := len_put acc p.num (min (max ((getI o p.num).getD 0) 0) (rangeB p))
    have e : fitL o (p :: r) acc = fitL o r (putI acc p.num (min (max ((getI o p.num).getD 0) 0) (rangeB p))) := rfl
    rw [e, List.length_cons]
    omega
/-- the map of heights, of numbers, as the program reads boxes -/
def hgtD : D → D := fun x => match x with | .tup (_ :: _ :: h :: _) => h | _ => .non
def numD : D → D := fun x => match x with | .tup (_ :: n :: _) => n | _ => .non
theorem hgtD_enc (l : List Box) : (encBs l).map hgtD = (l.map Box.hgt).map D.int := by
  rw [encBs_map, List.map_map, List.map_map]
  apply List.map_congr_left
  intro z _
  cases z <;> rfl
theorem numD_enc (l : List Box) : (encBs l).map numD = (l.map Box.num).map D.int := by
  rw [encBs_map, List.map_map, List.map_map]
  apply List.map_congr_left
  intro z _
  cases z <;> rfl
theorem hgtD_b (b : Box) : D.int b.hgt = hgtD (encB b) := by cases b <;> rfl
theorem numD_b (b : Box) : D.int b.num = numD (encB b) := by cases b <;> rfl
theorem encBs_mem {l : List Box} {x : D} (h : x ∈ encBs l) : ∃ b ∈ l, x = encB b := by
  rw [encBs_map] at h
  obtain ⟨z, hz, rfl⟩ := List.mem_map.mp h
  exact ⟨z, hz, rfl⟩
def isSD : D → Bool := fun x => match x with | .tup (.str k :: _) => decide (k = "scroller") | _ => false
theorem encBs_filter (l : List Box) : (encBs l).filter isSD = encBs (l.filter Box.isS) := by
  rw [encBs_map, encBs_map, List.filter_map]
  congr 1
  apply List.filter_congr
  intro b _
  cases b <;> rfl
theorem rangeB_nonneg (b : Box) : 0 ≤ rangeB b := by unfold rangeB; omega
theorem fitL_congr {o o' : List (Int × Int)} : ∀ {l : List Box} {acc : List (Int × Int)}, (∀ s ∈ l, getI o s.num = getI o' s.num) → fitL o l acc = fitL o' l acc
  | [], _, _ => rfl
  | p :: r, acc, h => by
    have e : ∀ o : List (Int × Int), fitL o (p :: r) acc = fitL o r (putI acc p.num (min (max ((getI o p.num).getD 0) 0) (rangeB p))) := fun _ => rfl
    rw [e, e, h p (by simp)]
    exact fitL_congr fun s hs => h s (by simp [hs])
theorem fitL_map (o : List (Int × Int)) : ∀ (l : List Box) (acc : List (Int × Int)), (l.map Box.num).Nodup → (∀ s ∈ l, s.num ∉ keysI acc) →
    fitL o l acc = acc ++ l.map fun s => (s.num, min (max ((getI o s.num).getD 0) 0) (rangeB s))
  | [], acc, _, _ => by simp [fitL]
  | p :: r, acc, hn, ha => by
    have e : fitL o (p :: r) acc = fitL o r (putI acc p.num (min (max ((getI o p.num).getD 0) 0) (rangeB p))) := rfl
    rw [List.map_cons, List.nodup_cons] at hn
    rw [e, put_new (ha p (by simp)), fitL_map o r _ hn.2, List.map_cons, List.append_assoc]
    · rfl
    · intro s hs
      simp only [keysI, List.map_append, List.map_cons, List.map_nil, List.mem_append, List.mem_singleton, not_or]
      refine ⟨ha s (by simp [hs]), fun z => hn.1 ?_⟩
      rw [← z]
      exact List.mem_map.mpr ⟨s, hs, rfl⟩
theorem nodup_scrs {b : Box} (h : (b.all.map Box.num).Nodup) : ((scrsB b).map Box.num).Nodup := h.sublist (List.Sublist.map _ List.filter_sublist)
theorem fitB_map {b : Box} (o : List (Int × Int)) (h : (b.all.map Box.num).Nodup) : fitB o b = (scrsB b).map fun s => (s.num, min (max ((getI o s.num).getD 0) 0) (rangeB s)) := by
  unfold fitB
  rw [fitL_map o _ _ (nodup_scrs h) (by intro s _ z; cases z), List.nil_append]
theorem fitB_keys {b : Box} (o : List (Int × Int)) (h : (b.all.map Box.num).Nodup) : keysI (fitB o b) = (scrsB b).map Box.num := by
  rw [fitB_map o h]
  simp [keysI, List.map_map, Function.comp_def]
theorem fitB_nil {b : Box} (o : List (Int × Int)) (h : (b.all.map Box.num).Nodup) : fitB [] b = (fitB o b).map fun p => (p.1, 0) := by
  rw [fitB_map o h, fitB_map [] h, List.map_map]
  apply List.map_congr_left
  intro s _
  have := rangeB_nonneg s
  simp only [Function.comp_def, getI_nil]
  congr 1
  simp
  omega
theorem cutD_take {ds : List D} {k : Nat} : cutD ds none (some (k : Int)) = ds.take k := by
  unfold cutD
  rw [HT.sIx_none, HT.sIx_nat, Nat.sub_zero, List.drop_zero]
  rw [List.take_eq_take_iff]
  omega
theorem cutBs {l : List Box} {i : Nat} : cutD (encBs l) none (some (0 + (i : Int))) = encBs (l.take i) := by
  rw [Int.zero_add, cutD_take, encBs_map, encBs_map, List.map_take]
def sumsF (ps : List Box) : D → D := fun x => match x with | .int k => .int (((ps.take k.toNat).map Box.hgt).sum) | _ => .non
theorem sumsF_map (ps : List Box) : (rngD 0 ps.length).map (sumsF ps) = (placesL 0 ps).map D.int := by
  rw [placesL_take, rngD, List.map_map, List.map_map]
  apply List.map_congr_left
  intro i _
  simp [Function.comp_def, sumsF]
/-- contracts of the length and the range of a scroller -/
def fLen : SpD := fun ds C P => ∃ b : Box, b.isS = true ∧ b.parts.length ≤ 100000 ∧ ds = [encB b] ∧ P (.int (lenB b)) C
def fRange : SpD := fun ds C P => ∃ b : Box, b.isS = true ∧ b.parts.length ≤ 100000 ∧ ds = [encB b] ∧ P (.int (rangeB b)) C
def fDepth (n : Nat) : SpD := fun ds C P => ∃ b : Box, b.lev ≤ n ∧ b.all.length ≤ 100000 ∧ ds = [encB b] ∧ P (.int (b.deep : Nat)) C
def fIsDoc (n : Nat) : SpD := fun ds C P => ∃ b : Box, b.lev ≤ n ∧ b.all.length ≤ 4000 ∧ ds = [encB b] ∧ P (.bl (isDoc b)) C
theorem atI_last {α : Type} {l : List α} {z : α} : atI (l ++ [z]) (-1) = some z := by
  unfold atI ixN
  simp
  have h : (-1 + ((l.length : Int) + 1)).toNat = l.length := by omega
  rw [if_pos (by omega), h]
  simp
end Dv

set_option maxRecDepth 100000
set_option maxHeartbeats 1000000
/-! Dict comprehensions. -/
namespace Dv
open PySem L2
abbrev BlkE (X : Cx) (scope : Scope) (e : Expr) (t : TE) : Prop := ∀ (s : Shared) (H : Hp) (C : Addr) (cl : List (Str × Addr)) (fp : List Addr), PE (X.blk s H scope (compEnvC scope cl C X.env) fp) e t
/-- name = {..} on one line -/
theorem ps_setDc {X : Cx} {i : Nat} {y : Str} {py pos spos : Pos} {kx vx tg iter : Expr} {ifs : List Expr} {scope : Scope} {own : List (Str × Nat)} {wi : TI} {g : TG} {tt : TT} {tk tv : TE} (hc : X.calm = true) (hN : X.N.Nodup)
    (hy : X.N[i]? = some y) (hyl : X.env.scope.names.lookup y = some .local) (hsw : swapsWith (.DictComp kx vx [⟨tg, iter, ifs, 0⟩] scope pos) (some (.Name y py)) spos.line X.env = pure true) (hi : PI X tg iter wi)
    (ok : BlkOk X.N X.env.scope scope own) (hg : ∀ (s : Shared) (H : Hp) (C : Addr) (cl : List (Str × Addr)) (fp : List Addr), PG (X.blk s H scope (compEnvC scope cl C X.env) fp) tg g)
    (ht : ∀ (s : Shared) (H : Hp) (C : Addr) (cl : List (Str × Addr)) (fp : List Addr), PTs (X.blk s H scope (compEnvC scope cl C X.env) fp) ifs tt) (hk : BlkE X scope kx tk) (he : BlkE X scope vx tv)
    (hs : ∀ x, foldedSetIterable iter X.env x = pure x := by intro _; rfl) : PS X (.Assign [.Name y py] (.DictComp kx vx [⟨tg, iter, ifs, 0⟩] scope pos) spos) (tAsg (tDc wi g tt tk tv (own.map (·.2))) (gName i)) := by
  constructor
  intro pins s σ H D I h
  rw [exec_Assign_Name_used _ _ _ _ hsw]
  refine wpAny_bind (wpAny_standAt (wpAny_bind ?_))
  have h1 : tDc wi g tt tk tv (own.map (·.2)) σ H (fun x H1 => gName i x σ H1 D.nx) := h
  show wpAny _ X.A (do let _ ← comprehension (.DictComp kx vx [⟨tg, iter, ifs, 0⟩] scope pos) scope X.env (firstIterPos [⟨tg, iter, ifs, 0⟩] pos) newDict false (eval iter X.env) (some (assign (.Name y py) X.env))) _ _ s
  refine wpAny_bind (thn (dc_core (Qf := fun _ s' => SP X pins D .next s') hc hN I hi ok hg ht hk he hs h1 fun L C s' m H' I' q hn f => ?_) fun _ s' hq => wpAny_pure (wpAny_pure hq))
  obtain ⟨f0, f1, f2, f3, f4, f5⟩ := f
  show wpAny _ _ (assign (.Name y py) X.env (.ref L)) _ _ _
  refine wpAny_assign_Name (store_ok2 (v := V.ref L) I' hN hy (.inl hyl) rfl (fun s2 I2 ⟨a, sb, ha⟩ => ?_) (.inr hyl))
  have haC : C ≠ a := ha.elim (fun z => by rw [z]; exact f1) fun z e => f4 y a z e.symm
  exact ⟨m, hn.sameBut sb haC, fun h3 sb3 => ⟨_, H', I2.turned (t' := s2.toks) (fun b o hb e => (sb3.2 b hb).trans e) f0 f1 f3 f4 f5, q⟩⟩
section
variable {B0 : Gr} {C : CH} {P : D → CH → Prop} {K : PySem.W.Frag} {E : EnvD} {wi : TI} {g : TG} {tt : TT} {tk tv : TE} {vs : List Nat}
theorem putD_len (l : List (Int × D)) (k : Int) (d : D) : (putD l k d).length ≤ l.length + 1 := by
  unfold putD
  split <;> simp
theorem w_dcC (L : List D → List (Int × D) → CH → Prop) (st : Sets g vs) (h : WI B0 wi E C fun ds C1 => ds.length ≤ 1000000 ∧ L ds [] C1)
    (hn : ∀ acc C1, L [] acc C1 → ∀ a, C1 a = none → P (.ref a) (updC C1 a (.dic acc)))
    (hs : ∀ x xs acc C1, L (x :: xs) acc C1 → WG B0 g x (wipeE E vs) C1 fun E2 C2 => WT B0 tt E2 C2 fun b C3 =>
      (b = true → W B0 tk E2 C3 fun y C4 => ∃ n, y = .int n ∧ W B0 tv E2 C4 fun z C5 => L xs (putD acc n z) C5) ∧ (b = false → L xs acc C3)) : W B0 (tDc wi g tt tk tv vs) E C P := fun B F σ H sb rl re Q q =>
  h B F σ H sb rl re _ fun J ds B1 C1 H1 e1 rl1 jd ⟨hlen, l0⟩ Dl hD => by
    have hF := rl1.noF hD
    refine ⟨fun i m H' => m = ds.length - i ∧ i ≤ ds.length ∧ ∃ B' C' vacc acc, Same B1 B' ∧ Rel B' C' (upd F Dl (.dK vacc)) H' ∧ RepK B' vacc acc ∧ acc.length ≤ i ∧ L (ds.drop i) acc C',
      ⟨ds.length, by simp, Nat.zero_le _, B1, C1, [], [], Same.refl _, rl1.newF hD, .nil, Nat.le_refl _, by simpa using l0⟩, ?_⟩
    rintro i m H' ⟨rfl, hi, B', C', vacc, acc, s', rl', ra, hal, l⟩
    by_cases hlt : i < ds.length
    · refine .inr ⟨jd.go i B' _ H' C' s' rl' hlt, fun H2 => ∃ B' C' vacc acc, Same B1 B' ∧ Rel B' C' (upd F Dl (.dK vacc)) H2 ∧ RepK B' vacc acc ∧ acc.length ≤ i + 1 ∧ L (ds.drop (i + 1)) acc C',
        fun H2 n => ⟨ds.length - (i + 1), by omega, rfl, hlt, n⟩, fun x H2 y => ?_⟩
      obtain ⟨d, B2, hd, s2, rl2, rp2⟩ := jd.yld i x B' _ H' H2 C' s' rl' hlt y
      have e : ds.drop i = d :: ds.drop (i + 1) := by
        rw [List.drop_eq_getElem_cons hlt]
        rw [List.getElem?_eq_getElem hlt] at hd
        rw [Option.some.inj hd]
      rw [e] at l
      have sb2 : Same B B2 := (e1.trans s').trans s2
      replace sb : Sb B0 B (upd F Dl (.dK vacc)) := sb.grow (same_upd hF)
      have z := hs d _ acc C' l B2 _ (wipe σ vs) H2 x (sb.trans sb2) rl2 (relE_wipe (re.mono sb2) vs) rp2 (fun σ3 H3 => tt σ3 H3 fun b H3 =>
        if b = true then tk σ3 H3 fun y H4 => tv σ3 H4 fun z H5 => ∃ kvs k, y = kV k ∧ H5 Dl = some (.dK kvs) ∧ kvs.length < sizeLine ∧ ∃ B' C' vacc' acc', Same B1 B' ∧ Rel B' C' (upd F Dl (.dK vacc')) (upd H5 Dl (.dK (putK kvs k z))) ∧ RepK B' vacc' acc' ∧ acc'.length ≤ i + 1 ∧ L (ds.drop (i + 1)) acc' C'
        else ∃ B' C' vacc acc, Same B1 B' ∧ Rel B' C' (upd F Dl (.dK vacc)) H3 ∧ RepK B' vacc acc ∧ acc.length ≤ i + 1 ∧ L (ds.drop (i + 1)) acc C') fun σ3 E3 B3 C3 H3 s3 rl3 re3 w => ?_
      · have z2 := st _ _ _ _ z
        rw [wipe_wipe] at z2
        refine cast ?_ z2
        congr 1
        funext σ2 H2
        exact propext ⟨fun ⟨a, b⟩ => ⟨b, a⟩, fun ⟨a, b⟩ => ⟨b, a⟩⟩
      · refine w B3 _ σ3 H3 (sb.trans (sb2.trans s3)) rl3 re3 _ fun b B4 C4 H4 s4 rl4 p => ?_
        cases b with
        | false =>
          refine ⟨B4, C4, vacc, acc, ((s'.trans s2).trans s3).trans s4, rl4, ra.mono ((s2.trans s3).trans s4), by omega, p.2 rfl⟩
        | true =>
          refine p.1 rfl B4 _ σ3 H4 (sb.trans ((sb2.trans s3).trans s4)) rl4 (re3.mono s4) _ fun v y B5 C5 H5 s5 rl5 rp5 ⟨n, hy, w5⟩ => ?_
          subst hy
          cases rp5
          refine w5 B5 _ σ3 H5 (sb.trans (((sb2.trans s3).trans s4).trans s5)) rl5 ((re3.mono s4).mono s5) _ fun v2 y2 B6 C6 H6 s6 rl6 rp6 l6 => ?_
          have hl6 : H6 Dl = some (.dK vacc) := rl6.fr _ _ upd_same
          have rlen := repK_len ra
          have pl := putD_len acc n y2
          refine ⟨vacc, Sum.inl n, rfl, hl6, Nat.lt_of_le_of_lt (by omega : vacc.length ≤ 1000000) (by decide), B6, C6, putK vacc (Sum.inl n) v2, putD acc n y2, ((((s'.trans s2).trans s3).trans s4).trans s5).trans s6, rl6.writeF,
            repK_put (ra.mono ((((s2.trans s3).trans s4).trans s5).trans s6)) n rp6, by omega, l6⟩
    · have e : i = ds.length := by omega
      subst e
      rw [List.drop_length] at l
      have k := hn _ _ l
      refine .inl ⟨jd.stop B' _ H' C' s' rl', ?_⟩
      exact q _ _ B' _ _ (e1.trans s') (rl'.cellF hF (.dic ra)) .ref (k Dl (rl'.cf Dl _ upd_same))
end
theorem sw_trueD {kx vx : Expr} {gs : List Comprehension} {scope : Scope} {pos py : Pos} {y : Str} {l : Nat} {env : Env} (h1 : env.scope.kind = .function) (h2 : env.scope.names.lookup y = some .local) (h3 : (py.line == pos.line) = true)
    (h4 : (scope.names.any fun (n, k) => n == y && (k == .local || k == .cell)) = false) : swapsWith (.DictComp kx vx gs scope pos) (some (.Name y py)) l env = pure true := by
  have e1 : env.kindOf y = some .local := h2
  have e2 : env.blockKind = .function := by
    unfold Env.blockKind
    rw [h1]
    rfl
  unfold swapsWith
  simp only [e2, e1, h4, Expr.pos, h3]
  rfl
end Dv

set_option maxRecDepth 100000
/-! Scrolling: a scroll at once is a scroll row by row. -/
namespace Dv
open PySem L2
def gI (O : List (Int × Int)) (n : Int) : Int := (getI O n).getD 0
def clampI (n most : Int) : Int := min (max n 0) most
theorem gI_put (O : List (Int × Int)) (n v m : Int) : gI (putI O n v) m = if m = n then v else gI O m := by
  unfold gI
  rw [getI_put]
  split <;> rfl
theorem getI_mem : ∀ {l : List (Int × Int)} {p : Int × Int}, (keysI l).Nodup → p ∈ l → getI l p.1 = some p.2
  | q :: l, p, hn, hp => by
    simp only [keysI, List.map_cons, List.nodup_cons] at hn
    rw [getI_cons]
    rcases List.mem_cons.mp hp with rfl | hp
    · rw [if_pos rfl]
    · rw [if_neg (fun z => hn.1 (by rw [z]; exact List.mem_map.mpr ⟨p, hp, rfl⟩))]
      exact getI_mem hn.2 hp
theorem getI_key {l : List (Int × Int)} {k : Int} (h : k ∈ keysI l) : getI l k = some (gI l k) := by
  unfold gI
  cases e : getI l k with
  | none => exact absurd h (getI_none.mp e)
  | some v => rfl
theorem put_self {O : List (Int × Int)} {n : Int} (hn : (keysI O).Nodup) (h : n ∈ keysI O) : putI O n (gI O n) = O := by
  unfold putI
  rw [if_pos ((any_keys O n).mpr h)]
  conv => rhs; rw [← List.map_id O]
  apply List.map_congr_left
  intro p hp
  by_cases e : p.1 = n
  · have g := getI_mem hn hp
    rw [if_pos e]
    unfold gI
    rw [← e, g]
    rfl
  · rw [if_neg e]; rfl
theorem put_put {O : List (Int × Int)} {n x y : Int} (h : n ∈ keysI O) : putI (putI O n x) n y = putI O n y := by
  have h2 : n ∈ keysI (putI O n x) := by rw [keys_put, if_pos h]; exact h
  have e1 : ∀ (l : List (Int × Int)) (v : Int), n ∈ keysI l → putI l n v = l.map fun p => if p.1 = n then (p.1, v) else p := fun l v hl => by
    unfold putI
    rw [if_pos ((any_keys l n).mpr hl)]
  rw [e1 _ y h2, e1 O x h, e1 O y h, List.map_map]
  apply List.map_congr_left
  intro p _
  by_cases e : p.1 = n <;> simp [e]
theorem keys_put_mem {O : List (Int × Int)} {n v : Int} (h : n ∈ keysI O) : keysI (putI O n v) = keysI O := by rw [keys_put, if_pos h]
/-- at once -/
def scrollL (rg : Int → Int) : List Int → List (Int × Int) → Int → List (Int × Int) × List (Int × Int)
  | [], O, _ => (O, [])
  | n :: r, O, am =>
    if clampI (gI O n + am) (rg n) = gI O n then scrollL rg r O am
    else ((scrollL rg r (putI O n (clampI (gI O n + am) (rg n))) (am - (clampI (gI O n + am) (rg n) - gI O n))).1, (n, clampI (gI O n + am) (rg n) - gI O n) :: (scrollL rg r (putI O n (clampI (gI O n + am) (rg n))) (am - (clampI (gI O n + am) (rg n) - gI O n))).2)
/-- row by row -/
def rowStep (rg : Int → Int) (s : Int) : List Int → List (Int × Int) → List (Int × Int)
  | [], O => O
  | n :: r, O => if 0 ≤ gI O n + s ∧ gI O n + s ≤ rg n then putI O n (gI O n + s) else rowStep rg s r O
def rowsN (rg : Int → Int) (s : Int) (path : List Int) : List (Int × Int) → Nat → List (Int × Int)
  | O, 0 => O
  | O, A + 1 => rowsN rg s path (rowStep rg s path O) A
variable {rg : Int → Int} {s : Int}
theorem rowsN_add {path : List Int} : ∀ (A B : Nat) (O : List (Int × Int)), rowsN rg s path O (A + B) = rowsN rg s path (rowsN rg s path O A) B
  | 0, B, O => by rw [Nat.zero_add]; rfl
  | A + 1, B, O => by rw [Nat.succ_add]; exact rowsN_add A B _
theorem rowStep_other : ∀ {path : List Int} {O : List (Int × Int)} {m : Int}, m ∉ path → gI (rowStep rg s path O) m = gI O m
  | [], _, _, _ => rfl
  | n :: r, O, m, h => by
    rw [rowStep]
    split
    · rw [gI_put, if_neg (fun e => h (by simp [e]))]
    · exact rowStep_other fun z => h (by simp [z])
theorem rowsN_nil : ∀ (A : Nat) (O : List (Int × Int)), rowsN rg s [] O A = O
  | 0, _ => rfl
  | A + 1, O => rowsN_nil A O
theorem rows_stuck {n : Int} {r : List Int} (hr : n ∉ r) : ∀ (A : Nat) (O : List (Int × Int)), ¬ (0 ≤ gI O n + s ∧ gI O n + s ≤ rg n) → rowsN rg s (n :: r) O A = rowsN rg s r O A
  | 0, _, _ => rfl
  | A + 1, O, h => by
    rw [rowsN, rowsN, rowStep, if_neg h]
    exact rows_stuck hr A _ (by rw [rowStep_other hr]; exact h)
theorem rows_fill {n : Int} {r : List Int} (hs : s = 1 ∨ s = -1) : ∀ (k : Nat) (O : List (Int × Int)), (keysI O).Nodup → n ∈ keysI O → 0 ≤ gI O n → gI O n ≤ rg n → 0 ≤ gI O n + s * k → gI O n + s * k ≤ rg n →
    rowsN rg s (n :: r) O k = putI O n (gI O n + s * k)
  | 0, O, hn, hk, _, _, _, _ => by
    rw [rowsN]
    have e : gI O n + s * ((0 : Nat) : Int) = gI O n := by simp
    rw [e, put_self hn hk]
  | k + 1, O, hn, hk, h0, h1, h2, h3 => by
    have hb : 0 ≤ gI O n + s ∧ gI O n + s ≤ rg n := by
      rcases hs with rfl | rfl
      · omega
      · omega
    rw [rowsN, rowStep, if_pos hb]
    have g : gI (putI O n (gI O n + s)) n = gI O n + s := by rw [gI_put, if_pos rfl]
    have e : gI O n + s + s * (k : Int) = gI O n + s * ((k + 1 : Nat) : Int) := by
      rcases hs with rfl | rfl
      · omega
      · omega
    rw [rows_fill hs k _ (by rw [keys_put_mem hk]; exact hn) (by rw [keys_put_mem hk]; exact hk) (by rw [g]; exact hb.1) (by rw [g]; exact hb.2) (by rw [g, e]; exact h2) (by rw [g, e]; exact h3), g, e, put_put hk]
theorem scroll_rows (hs : s = 1 ∨ s = -1) : ∀ (path : List Int) (O : List (Int × Int)) (A : Nat), path.Nodup → (keysI O).Nodup → (∀ n ∈ path, n ∈ keysI O ∧ 0 ≤ gI O n ∧ gI O n ≤ rg n) →
    (scrollL rg path O (s * A)).1 = rowsN rg s path O A
  | [], O, A, _, _, _ => by rw [rowsN_nil]; rfl
  | n :: r, O, A, hp, hn, h => by
    obtain ⟨hk, h0, h1⟩ := h n (by simp)
    rw [List.nodup_cons] at hp
    have key : ∃ k : Nat, k ≤ A ∧ clampI (gI O n + s * A) (rg n) = gI O n + s * k ∧ 0 ≤ gI O n + s * k ∧ gI O n + s * k ≤ rg n ∧ (k < A → ¬ (0 ≤ gI O n + s * k + s ∧ gI O n + s * k + s ≤ rg n)) := by
      unfold clampI
      rcases hs with rfl | rfl
      · refine ⟨(min (A : Int) (rg n - gI O n)).toNat, by omega, by omega, by omega, by omega, by omega⟩
      · refine ⟨(min (A : Int) (gI O n)).toNat, by omega, by omega, by omega, by omega, by omega⟩
    obtain ⟨k, kA, ek, k0, k1, kst⟩ := key
    have ea : rowsN rg s (n :: r) O A = rowsN rg s r (putI O n (gI O n + s * k)) (A - k) := by
      have e : A = k + (A - k) := by omega
      conv => lhs; rw [e]
      rw [rowsN_add, rows_fill hs k O hn hk h0 h1 k0 k1]
      by_cases z : k < A
      · refine rows_stuck hp.1 _ _ ?_
        rw [gI_put, if_pos rfl]
        exact kst z
      · have e2 : A - k = 0 := by omega
        rw [e2]
        rfl
    rw [ea, scrollL, ek]
    by_cases z : gI O n + s * k = gI O n
    · rw [if_pos z]
      have k0' : k = 0 := by rcases hs with rfl | rfl <;> omega
      subst k0'
      rw [z, put_self hn hk]
      exact scroll_rows hs r O A hp.2 hn fun m hm => h m (by simp [hm])
    · rw [if_neg z]
      have e3 : s * (A : Int) - (gI O n + s * k - gI O n) = s * ((A - k : Nat) : Int) := by
        rcases hs with rfl | rfl <;> omega
      show (scrollL rg r (putI O n (gI O n + s * k)) (s * A - (gI O n + s * k - gI O n))).1 = _
      rw [e3]
      refine scroll_rows hs r _ (A - k) hp.2 (by rw [keys_put_mem hk]; exact hn) fun m hm => ?_
      have nm : ¬ m = n := fun e => hp.1 (e ▸ hm)
      rw [keys_put_mem hk, gI_put, if_neg nm]
      exact h m (by simp [hm])
theorem scroll_other : ∀ {path : List Int} {O : List (Int × Int)} {am m : Int}, m ∉ path → gI (scrollL rg path O am).1 m = gI O m
  | [], _, _, _, _ => rfl
  | n :: r, O, am, m, h => by
    have h2 : m ∉ r := fun z => h (by simp [z])
    rw [scrollL]
    split
    · exact scroll_other h2
    · show gI (scrollL rg r _ _).1 m = _
      rw [scroll_other h2, gI_put, if_neg (fun e => h (by simp [e]))]
theorem scroll_moves : ∀ (path : List Int) (O : List (Int × Int)) (am : Int), path.Nodup →
    (scrollL rg path O am).2 = (path.filter fun n => decide (gI (scrollL rg path O am).1 n ≠ gI O n)).map fun n => (n, gI (scrollL rg path O am).1 n - gI O n)
  | [], _, _, _ => rfl
  | n :: r, O, am, hp => by
    rw [List.nodup_cons] at hp
    rw [scrollL]
    by_cases z : clampI (gI O n + am) (rg n) = gI O n
    · rw [if_pos z, List.filter_cons, if_neg (by simp [scroll_other hp.1])]
      exact scroll_moves r O am hp.2
    · rw [if_neg z]
      have ih := scroll_moves r (putI O n (clampI (gI O n + am) (rg n))) (am - (clampI (gI O n + am) (rg n) - gI O n)) hp.2
      generalize hF : scrollL rg r (putI O n (clampI (gI O n + am) (rg n))) (am - (clampI (gI O n + am) (rg n) - gI O n)) = F at ih ⊢
      have gn : gI F.1 n = clampI (gI O n + am) (rg n) := by rw [← hF, scroll_other hp.1, gI_put, if_pos rfl]
      have gm : ∀ m ∈ r, gI (putI O n (clampI (gI O n + am) (rg n))) m = gI O m := fun m hm => by
        have nm : ¬ m = n := fun e => hp.1 (e ▸ hm)
        rw [gI_put, if_neg nm]
      show (n, _) :: F.2 = _
      rw [List.filter_cons, if_pos (by simp [gn, z]), List.map_cons, ih, gn]
      congr 1
      have ef : (r.filter fun m => decide (gI F.1 m ≠ gI (putI O n (clampI (gI O n + am) (rg n))) m)) = r.filter fun m => decide (gI F.1 m ≠ gI O m) := List.filter_congr fun m hm => by rw [gm m hm]
      rw [ef]
      apply List.map_congr_left
      intro m hm
      rw [gm m (List.mem_filter.mp hm).1]
theorem scroll_keys : ∀ {path : List Int} {O : List (Int × Int)} {am : Int}, (∀ n ∈ path, n ∈ keysI O) → keysI (scrollL rg path O am).1 = keysI O
  | [], _, _, _ => rfl
  | n :: r, O, am, h => by
    rw [scrollL]
    split
    · exact scroll_keys fun m hm => h m (by simp [hm])
    · show keysI (scrollL rg r _ _).1 = _
      rw [scroll_keys fun m hm => by rw [keys_put_mem (h n (by simp))]; exact h m (by simp [hm]), keys_put_mem (h n (by simp))]
/-! ### ranges by number -/
def rangesB (b : Box) : List (Int × Int) := (scrsB b).map fun s => (s.num, rangeB s)
def pairD (p : Int × Int) : D := .tup [.int p.1, .int p.2]
theorem rangesB_keys (b : Box) : keysI (rangesB b) = (scrsB b).map Box.num := by simp [rangesB, keysI, List.map_map, Function.comp_def]
theorem findB_of : ∀ {l : List Box} {p : Box}, (l.map Box.num).Nodup → p ∈ l → findB l p.num = some p
  | q :: l, p, hn, hp => by
    rw [List.map_cons, List.nodup_cons] at hn
    rw [findB]
    rcases List.mem_cons.mp hp with rfl | hp
    · rw [if_pos rfl]
    · rw [if_neg (fun z => hn.1 (by rw [z]; exact List.mem_map.mpr ⟨p, hp, rfl⟩))]
      exact findB_of hn.2 hp
theorem find_range {b : Box} {n : Int} (hn : (b.all.map Box.num).Nodup) (h : n ∈ keysI (rangesB b)) : ∃ s, s ∈ b.all ∧ s.isS = true ∧ s.num = n ∧ findB b.all n = some s ∧ gI (rangesB b) n = rangeB s := by
  rw [rangesB_keys] at h
  obtain ⟨s, hs, rfl⟩ := List.mem_map.mp h
  obtain ⟨h1, h2⟩ := List.mem_filter.mp hs
  refine ⟨s, h1, h2, rfl, findB_of hn h1, ?_⟩
  have g := getI_mem (l := rangesB b) (p := (s.num, rangeB s)) (by rw [rangesB_keys]; exact nodup_scrs hn) (List.mem_map.mpr ⟨s, hs, rfl⟩)
  unfold gI
  rw [g]
  rfl
theorem look_key {l : List (Int × Int)} {k : Int} (h : k ∈ keysI l) : lookD (encI l) k = some (.int (gI l k)) := by
  rw [lookD_encI, getI_key h]
  rfl
theorem look_some (l : List (Int × Int)) (k : Int) : (lookD (encI l) k).isSome = decide (k ∈ keysI l) := by
  rw [lookD_encI, Option.isSome_map]
  cases e : getI l k with
  | none => simp [getI_none.mp e]
  | some v =>
    by_cases h : k ∈ keysI l
    · simp [h]
    · rw [getI_none.mpr h] at e; cases e
def movedL (R : List (Int × Int)) : List (Int × Int) → List (Int × Int) → List (Int × Int)
  | [], O => O
  | p :: r, O => movedL R r (if p.1 ∈ keysI R then putI O p.1 (clampI (gI O p.1 + p.2) (gI R p.1)) else O)
theorem moved_keys {R : List (Int × Int)} : ∀ (m O : List (Int × Int)), (∀ n ∈ keysI R, n ∈ keysI O) → keysI (movedL R m O) = keysI O
  | [], O, _ => rfl
  | p :: r, O, h => by
    rw [movedL]
    by_cases z : p.1 ∈ keysI R
    · rw [if_pos z, moved_keys r _ (by rw [keys_put_mem (h _ z)]; exact h), keys_put_mem (h _ z)]
    · rw [if_neg z]
      exact moved_keys r O h
theorem parts_mem : ∀ (n : Nat) {b s p : Box}, b.lev ≤ n → s ∈ b.all → p ∈ s.parts → p ∈ b.all
  | 0, b, _, _, h, _, _ => by cases b <;> simp [Box.lev] at h
  | n + 1, b, s, p, h, hs, hp => by
    rw [all_eq] at hs ⊢
    rw [alls_flat] at hs ⊢
    rcases List.mem_cons.mp hs with rfl | hs
    · exact List.mem_cons_of_mem _ (List.mem_flatMap.mpr ⟨p, hp, by rw [all_eq]; simp⟩)
    · obtain ⟨q, hq, hs⟩ := List.mem_flatMap.mp hs
      exact List.mem_cons_of_mem _ (List.mem_flatMap.mpr ⟨q, hq, parts_mem n (lev_parts h hq) hs hp⟩)
theorem sum_le : ∀ {l : List Int} {m : Int}, (∀ x ∈ l, 0 ≤ x ∧ x ≤ m) → 0 ≤ l.sum ∧ l.sum ≤ m * l.length
  | [], m, _ => by simp
  | x :: l, m, h => by
    obtain ⟨h1, h2⟩ := h x (by simp)
    obtain ⟨h3, h4⟩ := sum_le (l := l) (m := m) fun y hy => h y (by simp [hy])
    rw [List.sum_cons, List.length_cons]
    have e : m * ((l.length + 1 : Nat) : Int) = m * l.length + m := by
      rw [Int.natCast_add, Int.mul_add]
      simp
    rw [e]
    omega
theorem range_le {b s : Box} (ok : DocOk b) (hs : s ∈ b.all) : 0 ≤ lenB s ∧ lenB s ≤ 580 ∧ rangeB s ≤ 580 := by
  have hl := parts_len hs
  have := ok.len
  obtain ⟨h1, h2⟩ := sum_le (l := s.parts.map Box.hgt) (m := 20) fun x hx => by
    obtain ⟨p, hp, rfl⟩ := List.mem_map.mp hx
    exact ok.hg p (parts_mem 4 ok.lev hs hp)
  have := ok.hg s hs
  rw [List.length_map] at h2
  unfold rangeB lenB
  omega
theorem rangesB_at {b s : Box} (hn : (b.all.map Box.num).Nodup) (hs : s ∈ scrsB b) : gI (rangesB b) s.num = rangeB s := by
  have g := getI_mem (l := rangesB b) (p := (s.num, rangeB s)) (by rw [rangesB_keys]; exact nodup_scrs hn) (List.mem_map.mpr ⟨s, hs, rfl⟩)
  unfold gI
  rw [g]
  rfl
theorem filter_snocS (pre : List Box) (p : Box) (h : p.isS = true) : (pre ++ [p]).filter Box.isS = pre.filter Box.isS ++ [p] := by
  rw [List.filter_append, List.filter_cons, if_pos h]
  rfl
theorem filter_snocB (pre : List Box) (p : Box) (h : p.isS = false) : (pre ++ [p]).filter Box.isS = pre.filter Box.isS := by
  rw [List.filter_append, List.filter_cons, if_neg (by simp [h])]
  simp
theorem rowStep_keys : ∀ {path : List Int} {O : List (Int × Int)} {rg : Int → Int} {s : Int}, (∀ n ∈ path, n ∈ keysI O) → keysI (rowStep rg s path O) = keysI O
  | [], _, _, _, _ => rfl
  | n :: r, O, rg, s, h => by
    rw [rowStep]
    split
    · exact keys_put_mem (h n (by simp))
    · exact rowStep_keys fun m hm => h m (by simp [hm])
theorem rows_one {rg : Int → Int} {s : Int} {n : Int} {O : List (Int × Int)} {A : Nat} (hs : s = 1 ∨ s = -1) (hn : (keysI O).Nodup) (h : n ∈ keysI O) (h0 : 0 ≤ gI O n) (h1 : gI O n ≤ rg n) :
    rowsN rg s [n] O A = putI O n (clampI (gI O n + s * A) (rg n)) := by
  rw [← scroll_rows hs [n] O A (by simp) hn (fun m hm => by simp at hm; subst hm; exact ⟨h, h0, h1⟩), scrollL]
  split
  · rename_i e
    rw [e, put_self hn h]
    rfl
  · rfl
theorem cutD_drop {ds : List D} {k : Nat} : cutD ds (some (k : Int)) none = ds.drop k := by
  unfold cutD
  rw [HT.sIx_none, HT.sIx_nat, List.take_of_length_le (by rw [List.length_drop]; omega)]
  by_cases h : k ≤ ds.length
  · rw [Nat.min_eq_left h]
  · rw [Nat.min_eq_right (by omega), List.drop_length, List.drop_eq_nil_of_le (by omega)]
theorem put_in (p : List Int) (m : Nat) (n : Int) : (p.take m ++ [n] ++ p.drop m).Perm (n :: p) := by
  rw [List.append_assoc]
  have h := List.perm_middle (a := n) (l₁ := p.take m) (l₂ := p.drop m)
  rw [List.take_append_drop] at h
  exact h
end Dv

set_option maxRecDepth 100000
set_option maxHeartbeats 1000000
/-! zip of a list and a tuple. -/
namespace Zm
open PySem
open PySem.Sem (wp)
/-- the zip's own record c, its two iterators u (of the list l), v (of the tuple t), its pairs p, o; all apart -/
structure Mix (h : Heap) (c p o u v l t : Addr) (f : Value) (m n : Nat) (xs ys : Array Value) (a b : Value) : Prop where
  rec_ : IsZip h c p o f
  its : IsPair h p (.ref u) (.ref v)
  out : IsPair h o a b
  hu : h.IsListIter u l m
  hv : h.IsTupleIter v t n
  hl : h.IsList l xs
  ht : h.IsTuple t ys
section
variable {prog : Program} {w : World} {A : Around} {E : Value → Shared → Prop} {s : Shared} {c p o u v l t : Addr} {m n : Nat} {xs ys : Array Value} {x y a b : Value}
theorem step_rec {f : Value} {h h' : Heap} (M : Mix h c p o u v l t f m n xs ys a b) (D : ZipApart c p o u v l t) (r : IsZip h' c p o .ellipsis) (k : Heap.SameBut c h h') : Mix h' c p o u v l t .ellipsis m n xs ys a b where
  rec_ := r
  its := k.extBut _ _ D.TIz M.its
  out := k.extBut _ _ D.TOz M.out
  hu := M.hu.at fun q e => k.extBut _ q D.i1z e
  hv := M.hv.extBut k.extBut D.i2z
  hl := M.hl.extBut k.extBut D.l1z
  ht := M.ht.extBut k.extBut D.l2z
theorem step_u {f : Value} {h h' : Heap} (M : Mix h c p o u v l t f m n xs ys a b) (D : ZipApart c p o u v l t) (r : h'.IsListIter u l (m + 1)) (k : Heap.SameBut u h h') : Mix h' c p o u v l t f (m + 1) n xs ys a b where
  rec_ := k.extBut _ _ D.i1z.symm M.rec_
  its := k.extBut _ _ D.TIi1 M.its
  out := k.extBut _ _ D.TOi1 M.out
  hu := r
  hv := M.hv.extBut k.extBut D.i12.symm
  hl := M.hl.extBut k.extBut D.l1i1
  ht := M.ht.extBut k.extBut D.l2i1
theorem step_v {f : Value} {h h' : Heap} (M : Mix h c p o u v l t f m n xs ys a b) (D : ZipApart c p o u v l t) (r : h'.IsTupleIter v t (n + 1)) (k : Heap.SameBut v h h') : Mix h' c p o u v l t f m (n + 1) xs ys a b where
  rec_ := k.extBut _ _ D.i2z.symm M.rec_
  its := k.extBut _ _ D.TIi2 M.its
  out := k.extBut _ _ D.TOi2 M.out
  hu := M.hu.extBut k.extBut D.i12
  hv := r
  hl := M.hl.extBut k.extBut D.l1i2
  ht := M.ht.extBut k.extBut D.l2i2
theorem step_o {f a' b' : Value} {h h' : Heap} (M : Mix h c p o u v l t f m n xs ys a b) (D : ZipApart c p o u v l t) (r : IsPair h' o a' b') (k : Heap.SameBut o h h') : Mix h' c p o u v l t f m n xs ys a' b' where
  rec_ := k.extBut _ _ D.TOz.symm M.rec_
  its := k.extBut _ _ D.TITO M.its
  out := r
  hu := M.hu.extBut k.extBut D.TOi1.symm
  hv := M.hv.extBut k.extBut D.TOi2.symm
  hl := M.hl.extBut k.extBut D.l1TO
  ht := M.ht.extBut k.extBut D.l2TO
/-- what a turn may change -/
def Kept (c o u v : Addr) (h h' : Heap) : Prop := ∀ d q, d ≠ c → d ≠ o → d ≠ u → d ≠ v → h.get? d = some q → h'.get? d = some q
theorem mix_item {Q : Value → Shared → Prop} (D : ZipApart c p o u v l t) (M : Mix s.heap c p o u v l t .none m n xs ys a b) (gx : xs[m]? = some x) (gy : ys[n]? = some y)
    (k : ∀ h', Mix h' c p o u v l t (rawInt s.heap.objs.size) (m + 1) (n + 1) xs ys x y → IsPair h' s.heap.objs.size x y → h'.objs.size = s.heap.objs.size + 1 → Kept c o u v s.heap h' → Q (.ref s.heap.objs.size) { s with heap := h' }) :
    wpAny (model prog w) A (Builtin.«zip.__next__» ⟨[.ref c], []⟩) (fun fin s' => ∃ r, fin = .done (.ret r) ∧ Q r s') E s := by
  show wpAny _ _ (field (.ref c) 2 >>= _) _ _ _
  refine wpAny_bind (wpAny_field M.rec_ rfl (x := .bool false) rfl ?_)
  show wpAny _ _ (field (.ref c) 3 >>= _) _ _ _
  refine wpAny_bind (wpAny_field M.rec_ rfl (x := .ref p) rfl (wpAny_bind (wpAny_seqItems M.its rfl ?_)))
  show wpAny _ _ (Builtin.SmallTypes.ownedTupleIsFree (.ref c) >>= _) _ _ _
  refine wpAny_bind ?_
  (unfold Builtin.SmallTypes.ownedTupleIsFree; refine wpAny_bind (wpAny_field M.rec_ rfl (x := .none) rfl (wpAny_pure ?_)); simp only [if_true])
  refine wpAny_bind (wpAny_rule (wpAny_bind (wpAny_field M.rec_ rfl (x := .ref o) rfl (wpAny_bind (wpAny_setField_rec M.rec_ (by simp) fun ha ra ka => ?_)))))
  have Ma := step_rec M D (show IsZip ha c p o .ellipsis from ra) ka
  refine wpAny_bind ?_
  (simp only [List.zipIdx_cons, List.zipIdx_nil, List.forIn_cons, List.forIn_nil]; refine wpAny_bind (wpAny_bind (wpAny_onRaise ?_)))
  show wpAny _ _ (Builtin.SmallTypes.nextOf (.ref u) >>= _) _ _ _
  refine wpAny_bind (wpAny_nextOf_list_item Ma.hu Ma.hl gx fun hb rb kb => wpAny_pure ?_)
  have Mb := step_u Ma D rb kb
  refine wpAny_bind (wpAny_seqItems Mb.out rfl (wpAny_bind (wpAny_updateSeq_pair Mb.out fun hd rd kd => ?_)))
  have Md := step_o Mb D (show IsPair hd o x b from rd) kd
  refine wpAny_bind (wpAny_letGo (wpAny_pure (wpAny_bind (wpAny_bind (wpAny_onRaise ?_)))))
  show wpAny _ _ (Builtin.SmallTypes.nextOf (.ref v) >>= _) _ _ _
  refine wpAny_bind (RZ.nextOf_tuple_item Md.hv Md.ht gy fun he re ke => wpAny_pure ?_)
  have Me := step_v Md D re ke
  refine wpAny_bind (wpAny_seqItems Me.out rfl (wpAny_bind (wpAny_updateSeq_pair Me.out fun hf rf kf => ?_)))
  have Mf := step_o Me D (show IsPair hf o x y from rf) kf
  refine wpAny_bind (wpAny_letGo (wpAny_pure (wpAny_pure (wpAny_bind (wpAny_seqItems Mf.out rfl (wpAny_bind (wpAny_newTuple ?_)))))))
  have sz : hf.objs.size = s.heap.objs.size := by rw [kf.1, ke.1, kd.1, kb.1, ka.1]
  have kept : Kept c o u v s.heap hf := fun d q d1 d2 d3 d4 e => kf.extBut _ _ d2 (ke.extBut _ _ d4 (kd.extBut _ _ d2 (kb.extBut _ _ d3 (ka.extBut _ _ d1 e))))
  have clt : c < hf.objs.size := Heap.lt_size Mf.rec_
  show wpAny _ _ (Builtin.SmallTypes.ownedTupleHandOut (.ref c) (.ref hf.objs.size) >>= _) _ _ _
  refine wpAny_bind ?_
  unfold Builtin.SmallTypes.ownedTupleHandOut
  have rg : IsZip (hf.push { cls := .type "tuple", data := .seq #[x, y] }) c p o .ellipsis := Heap.get?_push_of_some _ Mf.rec_
  refine wpAny_bind (wpAny_setField_rec rg (by simp) fun hg2 rg2 kg2 => ?_)
  replace rg2 : IsZip hg2 c p o (rawInt hf.objs.size) := rg2
  refine wpAny_setField_rec rg2 (by simp) fun hi ri ki => ?_
  replace ri : IsZip hi c p o (rawInt hf.objs.size) := ri
  have up : ∀ d q, d ≠ c → hf.get? d = some q → hi.get? d = some q := fun d q d1 e => ki.extBut _ _ d1 (kg2.extBut _ _ d1 (Heap.get?_push_of_some _ e))
  have new : IsPair hi hf.objs.size x y := ki.extBut _ _ (Nat.ne_of_gt clt) (kg2.extBut _ _ (Nat.ne_of_gt clt) (Heap.get?_push_size _ rfl))
  have siz : hi.objs.size = hf.objs.size + 1 := by rw [ki.1, kg2.1, Heap.size_push]
  rw [sz] at ri new siz
  refine wpAny_pure ⟨_, rfl, ?_⟩
  show Q (.ref hf.objs.size) _
  rw [sz]
  refine k hi ⟨ri, up _ _ D.TIz Mf.its, up _ _ D.TOz Mf.out, Mf.hu.at fun q e => up _ q D.i1z e, Mf.hv.at fun q e => up _ q D.i2z e, Mf.hl.at fun q e => up _ q D.l1z e, ?_⟩ new siz fun d q d1 d2 d3 d4 e => up d q d1 (kept d q d1 d2 d3 d4 e)
  exact Mf.ht.at fun q e => up _ q D.l2z e
theorem mix_end {Q : Fin → Shared → Prop} (hh : A.handled = none) (D : ZipApart c p o u v l t) (M : Mix s.heap c p o u v l t .none m n xs ys a b) (gend : xs[m]? = none ∨ ys[n]? = none)
    (k : ∀ h' e, Kept c o u v s.heap h' → (∃ q, h'.get? e = some q ∧ q.cls = .type "StopIteration") → E (.ref e) { s with heap := h' }) : wpAny (model prog w) A (Builtin.«zip.__next__» ⟨[.ref c], []⟩) Q E s := by
  show wpAny _ _ (field (.ref c) 2 >>= _) _ _ _
  refine wpAny_bind (wpAny_field M.rec_ rfl (x := .bool false) rfl ?_)
  show wpAny _ _ (field (.ref c) 3 >>= _) _ _ _
  refine wpAny_bind (wpAny_field M.rec_ rfl (x := .ref p) rfl (wpAny_bind (wpAny_seqItems M.its rfl ?_)))
  show wpAny _ _ (Builtin.SmallTypes.ownedTupleIsFree (.ref c) >>= _) _ _ _
  refine wpAny_bind ?_
  (unfold Builtin.SmallTypes.ownedTupleIsFree; refine wpAny_bind (wpAny_field M.rec_ rfl (x := .none) rfl (wpAny_pure ?_)); simp only [if_true])
  refine wpAny_bind (wpAny_rule (wpAny_bind (wpAny_field M.rec_ rfl (x := .ref o) rfl (wpAny_bind (wpAny_setField_rec M.rec_ (by simp) fun ha ra ka => ?_)))))
  have Ma := step_rec M D (show IsZip ha c p o .ellipsis from ra) ka
  refine wpAny_bind ?_
  (simp only [List.zipIdx_cons, List.zipIdx_nil, List.forIn_cons, List.forIn_nil]; refine wpAny_bind (wpAny_bind (wpAny_onRaise ?_)))
  show wpAny _ _ (Builtin.SmallTypes.nextOf (.ref u) >>= _) _ _ _
  cases gx : xs[m]? with
  | none =>
    refine wpAny_bind (wpAny_nextOf_list_end hh Ma.hu Ma.hl gx fun hb e kb hs => ?_)
    obtain ⟨q, q1, q2⟩ := hs
    have rb : IsZip hb c p o .ellipsis := kb _ _ D.i1z.symm Ma.rec_
    have ec : e ≠ c := fun z => by subst z; rw [rb] at q1; cases q1; simp at q2
    refine wpAny_setField_rec rb (by simp) fun hd _ kd => ?_
    exact k hd e (fun d r d1 _ d3 _ z => kd.extBut _ _ d1 (kb _ _ d3 (ka.extBut _ _ d1 z))) ⟨q, kd.extBut _ _ ec q1, q2⟩
  | some x =>
    have gy : ys[n]? = none := gend.elim (fun z => by rw [gx] at z; cases z) id
    refine wpAny_bind (wpAny_nextOf_list_item Ma.hu Ma.hl gx fun hb rb kb => wpAny_pure ?_)
    have Mb := step_u Ma D rb kb
    refine wpAny_bind (wpAny_seqItems Mb.out rfl (wpAny_bind (wpAny_updateSeq_pair Mb.out fun hd rd kd => ?_)))
    have Md := step_o Mb D (show IsPair hd o x b from rd) kd
    refine wpAny_bind (wpAny_letGo (wpAny_pure (wpAny_bind (wpAny_bind (wpAny_onRaise ?_)))))
    show wpAny _ _ (Builtin.SmallTypes.nextOf (.ref v) >>= _) _ _ _
    refine wpAny_bind (RZ.nextOf_tuple_end hh Md.hv Md.ht gy fun he e ke hs => ?_)
    obtain ⟨q, q1, q2⟩ := hs
    have re : IsZip he c p o .ellipsis := ke _ _ D.i2z.symm Md.rec_
    have ec : e ≠ c := fun z => by subst z; rw [re] at q1; cases q1; simp at q2
    refine wpAny_setField_rec re (by simp) fun hf _ kf => ?_
    exact k hf e (fun d r d1 d2 d3 d4 z => kf.extBut _ _ d1 (ke _ _ d4 (kd.extBut _ _ d2 (kb.extBut _ _ d3 (ka.extBut _ _ d1 z))))) ⟨q, kf.extBut _ _ ec q1, q2⟩
theorem mix_next {Q : Option Value → Shared → Prop} (D : ZipApart c p o u v l t) (M : Mix s.heap c p o u v l t .none m n xs ys a b) (gx : xs[m]? = some x) (gy : ys[n]? = some y)
    (k : ∀ h', Mix h' c p o u v l t (rawInt s.heap.objs.size) (m + 1) (n + 1) xs ys x y → IsPair h' s.heap.objs.size x y → h'.objs.size = s.heap.objs.size + 1 → Kept c o u v s.heap h' → Q (some (.ref s.heap.objs.size)) { s with heap := h' }) :
    wpAny (model prog w) A (pyNext (.ref c)) Q E s := by
  have ty : s.TypeIs (.ref c) "zip" := ⟨_, M.rec_, rfl⟩
  unfold pyNext
  refine wpAny_bind (wpAny_attempt (wpAny_callSpecial?_slot (name := Str.ofString "__next__") ty F.slot_zip_next (wpAny_call_entry F.slot_zip_next ty F.entry_zip_next ?_ (F.args_zip_next_1 _))))
  exact mix_item D M gx gy fun h' b1 b2 b3 b4 => wpAny_pure (k h' b1 b2 b3 b4)
theorem mix_stop {Q : Option Value → Shared → Prop} (hh : A.handled = none) (D : ZipApart c p o u v l t) (M : Mix s.heap c p o u v l t .none m n xs ys a b) (gend : xs[m]? = none ∨ ys[n]? = none)
    (k : ∀ h', Kept c o u v s.heap h' → Q none { s with heap := h' }) : wpAny (model prog w) A (pyNext (.ref c)) Q E s := by
  have ty : s.TypeIs (.ref c) "zip" := ⟨_, M.rec_, rfl⟩
  unfold pyNext
  refine wpAny_bind (wpAny_attempt (wpAny_callSpecial?_slot (name := Str.ofString "__next__") ty F.slot_zip_next (wpAny_call_entry F.slot_zip_next ty F.entry_zip_next (mix_end hh D M gend fun h' e kk hs => ?_) (F.args_zip_next_1 _))))
  obtain ⟨q, q1, q2⟩ := hs
  exact wpAny_bind (wpAny_isInstance (T := "StopIteration") (b := true) ⟨q, q1, q2⟩ isSubtype_stop (wpAny_pure (k _ kk)))
end
abbrev mh1 (h : Heap) (l : Addr) : Heap := h.push { cls := .type "list_iterator", data := .fields #[.ref l, .int 0 0] }
abbrev mh2 (h : Heap) (l t : Addr) : Heap := (mh1 h l).push { cls := .type "tuple_iterator", data := .fields #[.ref t, .int 0 0] }
abbrev mh3 (h : Heap) (l t : Addr) : Heap := (mh2 h l t).push { cls := .type "tuple", data := .seq #[.ref h.objs.size, .ref (mh1 h l).objs.size] }
abbrev mh4 (h : Heap) (l t : Addr) : Heap := (mh3 h l t).push { cls := .type "tuple", data := .seq #[.none, .none] }
abbrev mh5 (h : Heap) (l t : Addr) : Heap := (mh4 h l t).push { cls := .type "zip", data := .fields #[.none, .bool false, .bool false, .ref (mh2 h l t).objs.size, .ref (mh3 h l t).objs.size] }
theorem meets_mix (l t : Addr) (xs ys : Array Value) :
    Meets (Builtin.«zip.__new__» ⟨[.type "zip", .ref l, .ref t], []⟩) (fun _ R s => s.heap.IsList l xs ∧ s.heap.IsTuple t ys ∧ R (.ok (.ret (.ref (mh4 s.heap l t).objs.size))) { s with heap := mh5 s.heap l t }) :=
  .of_wp fun prog w A R s h => by
    obtain ⟨hp, g, d, tk, os⟩ := s
    obtain ⟨gl, gt, h⟩ := h
    have hsub := sub_zip
    have el : Heap.IsList (Shared.heap ⟨hp, g, d, tk, os⟩) l xs := gl
    have et : Heap.IsTuple (Shared.heap ⟨hp.push { cls := .type "list_iterator", data := .fields #[.ref l, .int 0 0] }, g, d, tk, os⟩) t ys := Heap.IsTuple.push gt _
    wp_walk using wpAny_pyIter_list el, wpAny_pyIter_tuple et
    exact ⟨_, rfl, h⟩
section
variable {prog : Program} {w : World} {A : Around} {E : Value → Shared → Prop} {s : Shared}
theorem call_mix {l t : Addr} {xs ys : Array Value} {Q : Value → Shared → Prop} (gl : s.heap.IsList l xs) (gt : s.heap.IsTuple t ys)
    (k : ∀ h', Mix h' (s.heap.objs.size + 4) (s.heap.objs.size + 2) (s.heap.objs.size + 3) s.heap.objs.size (s.heap.objs.size + 1) l t .none 0 0 xs ys .none .none → h'.objs.size = s.heap.objs.size + 5 →
      (∀ d q, s.heap.get? d = some q → h'.get? d = some q) → Q (.ref (s.heap.objs.size + 4)) { s with heap := h' }) : wpAny (model prog w) A (call (.type "zip") [.ref l, .ref t]) Q E s := by
  refine callType_new F.called_zip (by decide) (F.typeCall_zip_2 _ _) (F.newCall_zip_2 _ _) (fun obj => F.args_object_init_3 obj _ _) F.entry_zip_new (meets_mix l t xs ys) ⟨gl, gt, ?_⟩
  have y1 : (mh1 s.heap l).objs.size = s.heap.objs.size + 1 := Heap.size_push ..
  have y2 : (mh2 s.heap l t).objs.size = s.heap.objs.size + 2 := by rw [Heap.size_push, y1]
  have y3 : (mh3 s.heap l t).objs.size = s.heap.objs.size + 3 := by rw [Heap.size_push, y2]
  have y4 : (mh4 s.heap l t).objs.size = s.heap.objs.size + 4 := by rw [Heap.size_push, y3]
  have y5 : (mh5 s.heap l t).objs.size = s.heap.objs.size + 5 := by rw [Heap.size_push, y4]
  have old : ∀ {d : Addr} {q : Obj}, (mh3 s.heap l t).get? d = some q → (mh5 s.heap l t).get? d = some q := fun e => Heap.get?_push_of_some _ (Heap.get?_push_of_some _ e)
  have f5 : (mh5 s.heap l t).get? (mh4 s.heap l t).objs.size = some _ := Heap.get?_push_size _ rfl
  have f4 : (mh5 s.heap l t).get? (mh3 s.heap l t).objs.size = some _ := Heap.get?_push_of_some _ (Heap.get?_push_size _ rfl)
  have f3 : (mh5 s.heap l t).get? (mh2 s.heap l t).objs.size = some _ := old (Heap.get?_push_size _ rfl)
  have f2 : (mh5 s.heap l t).get? (mh1 s.heap l).objs.size = some _ := old (Heap.get?_push_of_some _ (Heap.get?_push_size _ rfl))
  have f1 : (mh5 s.heap l t).get? s.heap.objs.size = some _ := old (Heap.get?_push_of_some _ (Heap.get?_push_of_some _ (Heap.get?_push_size _ rfl)))
  have f0 : ∀ d q, s.heap.get? d = some q → (mh5 s.heap l t).get? d = some q := fun d q e => old (Heap.get?_push_of_some _ (Heap.get?_push_of_some _ (Heap.get?_push_of_some _ e)))
  show _ ∧ _
  rw [y2, y3, y4] at f5
  rw [y1, y2] at f3
  (rw [y3] at f4; rw [y1] at f2; rw [y4])
  exact ⟨⟨_, f5, rfl⟩, k _ ⟨f5, f3, f4, ⟨_, f1, rfl, rfl⟩, ⟨_, f2, rfl, rfl⟩, gl.at fun q e => f0 _ q e, gt.at fun q e => f0 _ q e⟩ y5 f0⟩
end
open PySem.Spec PyProof.Rows L2
/-- the list at a and the tuple at b as they stand at each turn, the items in new pairs -/
def ItM (K : PySem.W.Frag) (a b : Addr) : It :=
  ⟨fun i H => ∃ (xs ys : List V) (x y : V), (SqL K H a xs ∧ SqT K H b ys) ∧ xs[i]? = some x ∧ ys[i]? = some y,
    fun i H v H' => ∃ T x y, (v = .ref T ∧ H T = none ∧ H' = upd H T (.tup [x, y])) ∧ (∀ xs, SqL K H a xs → xs[i]? = some x) ∧ ∀ ys, SqT K H b ys → ys[i]? = some y,
    fun i H => ∃ xs ys : List V, (SqL K H a xs ∧ SqT K H b ys) ∧ (xs.length ≤ i ∨ ys.length ≤ i)⟩
theorem of5 {c p o u v d : Addr} (h : d ∈ [c, p, o, u, v]) : d = c ∨ d = p ∨ d = o ∨ d = u ∨ d = v := by simpa using h
theorem turn_mix {P : Program} {w : World} {K : PySem.W.Frag} {elts : List Expr} {kk : Nat} {tpos : Pos} {l t c p o u v : Addr} (D : ZipApart c p o u v l t) :
    Turn P w K (.Tuple elts kk tpos) (ItM K l t) [c, p, o, u, v] c (fun i h => IsZip h c p o .none ∧ IsPair h p (.ref u) (.ref v) ∧ (∃ x y, IsPair h o x y) ∧ h.IsListIter u l i ∧ h.IsTupleIter v t i) where
  mem := by simp
  obj := fun i h ⟨g1, g2, ⟨x, y, g3⟩, ⟨o1, g4, _, d1⟩, ⟨o2, g5, _, d2⟩⟩ d hd => by
    rcases of5 hd with rfl | rfl | rfl | rfl | rfl
    · exact ⟨_, g1, fun _ q => nomatch q⟩
    · exact ⟨_, g2, fun _ q => nomatch q⟩
    · exact ⟨_, g3, fun _ q => nomatch q⟩
    · exact ⟨o1, g4, fun _ q => by rw [d1] at q; cases q⟩
    · exact ⟨o2, g5, fun _ q => by rw [d2] at q; cases q⟩
  keep := fun i h h' ⟨g1, g2, ⟨x, y, g3⟩, g4, g5⟩ k => ⟨k c (by simp) _ g1, k p (by simp) _ g2, ⟨x, y, k o (by simp) _ g3⟩, g4.at fun q e => k u (by simp) q e, g5.at fun q e => k v (by simp) q e⟩
  item := by
    intro X hP hw hK hc i pins s σ H E I hf ⟨g1, g2, ⟨x0, y0, g3⟩, g4, g5⟩ ⟨xs, ys, x, y, ⟨qx, qy⟩, ex, ey⟩
    subst hP hw hK
    obtain ⟨is1, rv, p1, _⟩ := I.list qx
    obtain ⟨is2, rv2, p2, _⟩ := I.tuple qy
    obtain ⟨z, hz, rz⟩ := rv.get ex
    obtain ⟨z2, hz2, rz2⟩ := rv2.get ey
    have M : Mix s.heap c p o u v l t .none i i is1.toArray is2.toArray x0 y0 := ⟨g1, g2, g3, g4, g5, p1.isList, p2⟩
    have clt : c < s.heap.objs.size := Heap.lt_size g1
    refine mix_next D M (x := z) (y := z2) (by simpa using hz) (by simpa using hz2) fun h1 M1 n1 sz1 k1 => ⟨_, rfl, wpAny_letOwnedTupleGo_zip (s := { s with heap := h1 }) M1.rec_ fun h2 r2 sb => ?_⟩
    have n2 : h2.get? s.heap.objs.size = some { cls := .type "tuple", data := .seq #[z, z2] } := (sb.2 _ (Nat.ne_of_gt clt)).trans n1
    have obj : ObjOk X.prog X.w (upd H s.heap.objs.size (.tup [x, y])) h2 s.heap.objs.size (.tup [x, y]) := ⟨by show 2 ≤ sizeLine; decide, [z, z2], .cons rz (.cons rz2 .nil), ⟨_, n2, rfl, _, rfl⟩⟩
    have I2 : Inv X pins σ (upd H s.heap.objs.size (.tup [x, y])) { s with heap := h2 } := by
      refine I.turnedNew (t' := s.toks) (ch := [c, p, o, u, v]) (fun d q hb e => ?_) hf (Nat.le_refl _) obj
      simp only [List.mem_cons, List.not_mem_nil, or_false, not_or] at hb
      exact (sb.2 d hb.1).trans (k1 d q hb.1 hb.2.2.1 hb.2.2.2.1 hb.2.2.2.2 e)
    refine ⟨.ref s.heap.objs.size, _, I2, rfl, ⟨_, x, y, ⟨rfl, I.hok.fresh (Nat.le_refl _), rfl⟩, fun ws hs => by rw [I.list_inj hs qx]; exact ex, fun ws hs => by rw [I.tuple_inj hs qy]; exact ey⟩, ⟨r2, (sb.2 _ D.TIz).trans M1.its, ⟨z, z2, (sb.2 _ D.TOz).trans M1.out⟩, M1.hu.at fun q e => (sb.2 _ D.i1z).trans e, M1.hv.at fun q e => (sb.2 _ D.i2z).trans e⟩, fun d hd => ?_⟩
    have dlt : d < s.heap.objs.size := by
      rcases of5 hd with rfl | rfl | rfl | rfl | rfl
      · exact clt
      · exact Heap.lt_size g2
      · exact Heap.lt_size g3
      · exact let ⟨_, e, _⟩ := g4; Heap.lt_size e
      · exact let ⟨_, e, _⟩ := g5; Heap.lt_size e
    rw [upd_ne (Nat.ne_of_lt dlt)]
    exact (hf d hd).1
  done := by
    intro X hP hw hK hc i pins s σ H E I hf ⟨g1, g2, ⟨x0, y0, g3⟩, g4, g5⟩ ⟨xs, ys, ⟨qx, qy⟩, ge⟩
    subst hP hw hK
    obtain ⟨is1, rv, p1, _⟩ := I.list qx
    obtain ⟨is2, rv2, p2, _⟩ := I.tuple qy
    have M : Mix s.heap c p o u v l t .none i i is1.toArray is2.toArray x0 y0 := ⟨g1, g2, g3, g4, g5, p1.isList, p2⟩
    have n1 := rv.length
    have n2 := rv2.length
    refine mix_stop (I.ok.hd hc) D M (ge.imp (fun z => by simp; omega) fun z => by simp; omega) fun h' k => ⟨rfl, I.turnedL (t' := s.toks) (ch := [c, p, o, u, v]) (fun d q hb e => ?_) hf⟩
    simp only [List.mem_cons, List.not_mem_nil, or_false, not_or] at hb
    exact k d q hb.1 hb.2.2.1 hb.2.2.2.1 hb.2.2.2.2 e
  self := fun A i s Q E st h => wpAny_pyIter_zip st.1 h
def iZipM (K : PySem.W.Frag) (ta : TA) : TI := fun σ H R => ta σ H fun vs H1 => ∃ a b xs ys, vs = [.ref a, .ref b] ∧ SqL K H1 a xs ∧ SqT K H1 b ys ∧ R (ItM K a b) H1
theorem pi_zipM {X : Cx} {e e2 : Expr} {ta : TA} {p pos tpos : Pos} {elts : List Expr} {kk : Nat} (gz : Gl X "zip") (mz : X.mg "zip" = none) (ha : PA X [e, e2] ta)
    (st : starEach [e, e2] X.env = (false, eval e X.env) :: starEach [e2] X.env := by rfl) (pl : (backTo pos (starEach [e2] X.env)).any (·.1) = false := by rfl) :
    PI X (.Tuple elts kk tpos) (.Call (.Name "zip" p) [e, e2] [] pos) (iZipM X.K ta) := by
  constructor
  intro pins s σ H R I h
  refine Call_ (ld_blt I gz mz PyProof.Rows.boot_zip (PyProof.Rows.callWith_type1 (thn (ha.run pos pins s σ H _ I h) fun us s1 ⟨vs, H1, I1, r1, a, b, xs, ys, ex, qx, qy, q⟩ => ?_) st pl))
  subst ex
  obtain ⟨ua, rest, rfl, ra, rr⟩ : ∃ ua rest, us = ua :: rest ∧ RelV (.ref a) ua ∧ Paired RelV [V.ref b] rest := by cases r1 with | cons r rr => exact ⟨_, _, rfl, r, rr⟩
  obtain ⟨ub, rfl, rb⟩ : ∃ ub, rest = [ub] ∧ RelV (.ref b) ub := by cases rr with | cons r rr => cases rr; exact ⟨_, rfl, r⟩
  obtain rfl : ua = Value.ref a := ra
  obtain rfl : ub = Value.ref b := rb
  have fresh : ∀ d, d ∈ [s1.heap.objs.size + 4, s1.heap.objs.size + 2, s1.heap.objs.size + 3, s1.heap.objs.size, s1.heap.objs.size + 1] → FpOk X pins H1 d := fun d hd => by
    have le : s1.heap.objs.size ≤ d := by rcases of5 hd with rfl | rfl | rfl | rfl | rfl <;> first | exact Nat.le_refl _ | exact Nat.le_add_right _ _
    exact I1.fpOk le (I1.hok.fresh le)
  obtain ⟨is1, rv, p1, _⟩ := I1.list qx
  obtain ⟨is2, rv2, p2, _⟩ := I1.tuple qy
  obtain ⟨o2, ho2, _⟩ := id p2
  refine call_mix p1.isList (show s1.heap.IsTuple b is2.toArray from p2) fun h' M sz k => wpAny_pyIter_zip M.rec_ ?_
  have I2 : Inv X pins σ H1 { s1 with heap := h' } := I1.kept (t' := s1.toks) k
  exact ⟨_, _, _, _, H1, rfl, I2, turn_mix (PySem.W.ktu_apart s1.heap.objs.size a b p1.lt (Heap.lt_size ho2)), ⟨M.rec_, M.its, ⟨_, _, M.out⟩, M.hu, M.hv⟩, fresh, q⟩
end Zm

set_option maxRecDepth 100000
set_option maxHeartbeats 1000000
/-! while; stars in displays; zip of a list and a tuple. -/
namespace Dv
open PySem L2
section
variable {B0 : Gr} {C : CH} {E : EnvD} {D1 : EndD} {tc : TT} {tb : TS}
/-- L: what holds ahead of the test, by a measure -/
theorem ws_while (L : Nat → EnvD → CH → Prop) (m0 : Nat) (h0 : L m0 E C)
    (hs : ∀ m E1 C1, L m E1 C1 → WT B0 tc E1 C1 fun b C2 => (b = true → WS B0 tb E1 C2 { D1 with nx := fun E3 C3 => ∃ m', m' < m ∧ L m' E3 C3, ct := fun E3 C3 => ∃ m', m' < m ∧ L m' E3 C3, bk := D1.nx }) ∧ (b = false → D1.nx E1 C2)) :
    WS B0 (tWhile tc tb) E C D1 := fun B F σ H sb rl re Dn ok => by
  refine ⟨fun m σ' H' => ∃ B' C' E', Same B B' ∧ Rel B' C' F H' ∧ RelE B' σ' E' ∧ L m E' C', ⟨m0, B, C, E, Same.refl _, rl, re, h0⟩, ?_⟩
  rintro m σ' H' ⟨B', C', E', s', rl', re', l⟩
  refine hs m E' C' l B' F σ' H' (sb.trans s') rl' re' _ fun b B2 C2 H2 s2 rl2 p => ?_
  cases b with
  | false => exact ok.nx σ' E' B2 C2 H2 (s'.trans s2) rl2 (re'.mono s2) (p.2 rfl)
  | true =>
    have turn : ∀ σ4 E4 B4 C4 H4, Same B2 B4 → Rel B4 C4 F H4 → RelE B4 σ4 E4 → (∃ m', m' < m ∧ L m' E4 C4) → ∃ m', m' < m ∧ ∃ B' C' E', Same B B' ∧ Rel B' C' F H4 ∧ RelE B' σ4 E' ∧ L m' E' C' :=
      fun σ4 E4 B4 C4 H4 s4 rl4 re4 ⟨m', hm, l4⟩ => ⟨m', hm, B4, C4, E4, (s'.trans s2).trans s4, rl4, re4, l4⟩
    refine ⟨fun σ4 H4 => ∃ m', m' < m ∧ ∃ B' C' E', Same B B' ∧ Rel B' C' F H4 ∧ RelE B' σ4 E' ∧ L m' E' C', fun σ4 H4 z => z, ?_⟩
    exact p.1 rfl B2 F σ' H2 (sb.trans (s'.trans s2)) rl2 (re'.mono s2) _ ⟨turn, fun v d B4 C4 H4 s4 rl4 rp4 k => ok.rt v d B4 C4 H4 ((s'.trans s2).trans s4) rl4 rp4 k,
      fun σ4 E4 B4 C4 H4 s4 rl4 re4 k => ok.nx σ4 E4 B4 C4 H4 ((s'.trans s2).trans s4) rl4 re4 k, turn⟩
end
section
variable {B0 : Gr} {C : CH} {K : PySem.W.Frag} {E : EnvD} {PA' : List D → CH → Prop} {te : TE} {ta : TA}
theorem reps_app {B : Hp} {vs ws : List V} {ds es : List D} (a : Reps B vs ds) (b : Reps B ws es) : Reps B (vs ++ ws) (ds ++ es) := a.append b
/-- *e in a display or a call -/
theorem wa_star (h : W B0 te E C fun x C1 => ∃ xs, SeqF x xs ∧ WA B0 ta E C1 fun ys C2 => PA' (xs ++ ys) C2) : WA B0 (StX.tStar K te ta) E C PA' := fun B F σ H sb rl re Q q =>
  h B F σ H sb rl re _ fun v d B1 C1 H1 e1 rl1 rp ⟨xs, hd, h1⟩ => by
    have rd : ∃ a vs, v = .ref a ∧ (SqT K H1 a vs ∨ SqL K H1 a vs) ∧ Reps B1 vs xs := by
      cases hd with
      | lst => cases rp with | lst ha r => exact ⟨_, _, rfl, .inr (SqL.of (rl1.ex _ _ ha)), r⟩
      | tup => cases rp with | tup ha r => exact ⟨_, _, rfl, .inl (SqT.of (rl1.ex _ _ ha)), r⟩
    obtain ⟨a, vs, rfl, ha, r⟩ := rd
    refine ⟨a, vs, rfl, ha, h1 B1 F σ H1 (sb.trans e1) rl1 (re.mono e1) _ fun ws es B2 C2 H2 e2 rl2 rp2 p => ?_⟩
    exact q _ _ B2 C2 H2 (e1.trans e2) rl2 (reps_app (r.mono e2) rp2) p
theorem pa_starK {X : Cx} (K : PySem.W.Frag) {e : Expr} {es : List Expr} {p : Pos} {te : TE} {t : TA} (he : PE X e te) (hr : PA X es t) (h : X.K = K := by rfl)
    (hs : starEach (.Starred e p :: es) X.env = (true, eval e X.env) :: starEach es X.env := by rfl) : PA X (.Starred e p :: es) (StX.tStar K te t) := by
  subst h
  exact StX.pa_star he hr hs
theorem pi_zipK {X : Cx} (K : PySem.W.Frag) {e e2 : Expr} {ta : TA} {p pos tpos : Pos} {elts : List Expr} {kk : Nat} (hm : X.mg "zip" = none) (ha : PA X [e, e2] ta) (h : X.K = K := by rfl) (hg : Gl X "zip" := by rfl)
    (st : starEach [e, e2] X.env = (false, eval e X.env) :: starEach [e2] X.env := by rfl) (pl : (backTo pos (starEach [e2] X.env)).any (·.1) = false := by rfl) :
    PI X (.Tuple elts kk tpos) (.Call (.Name "zip" p) [e, e2] [] pos) (Zm.iZipM K ta) := by
  subst h
  exact Zm.pi_zipM hg hm ha st pl
def zipD : List D → List D → List D := List.zipWith fun x y => .tup [x, y]
theorem jd_zipM {B : Hp} {a b : Addr} {vs ws : List V} {ds es : List D} (h1 : B a = some (.lst vs)) (r1 : Reps B vs ds) (h2 : B b = some (.tup ws)) (r2 : Reps B ws es) : JD (Zm.ItM K a b) B (zipD ds es) := by
  have len : (zipD ds es).length = min vs.length ws.length := by rw [r1.length, r2.length]; exact List.length_zipWith
  refine ⟨fun i B' F H C s rl hi => ?_, fun B' F H C s rl => ?_, fun i x B' F H H' C s rl hi y => ?_⟩
  · have i1 : i < vs.length := by omega
    have i2 : i < ws.length := by omega
    exact ⟨vs, ws, vs[i], ws[i], ⟨SqL.of (rl.ex _ _ (s _ _ h1)), SqT.of (rl.ex _ _ (s _ _ h2))⟩, by simp [i1], by simp [i2]⟩
  · exact ⟨vs, ws, ⟨SqL.of (rl.ex _ _ (s _ _ h1)), SqT.of (rl.ex _ _ (s _ _ h2))⟩, by omega⟩
  · obtain ⟨T, u, v, ⟨rfl, hT, rfl⟩, y1, y2⟩ := y
    obtain ⟨d, d1, d2⟩ := r1.getV (y1 vs (SqL.of (rl.ex _ _ (s _ _ h1))))
    obtain ⟨e, e1, e2⟩ := r2.getV (y2 ws (SqT.of (rl.ex _ _ (s _ _ h2))))
    have sm := same_upd (o := .tup [u, v]) (rl.noB hT)
    refine ⟨.tup [d, e], _, ?_, sm, rl.new hT, .tup upd_same (.cons ((d2.mono s).mono sm) (.cons ((e2.mono s).mono sm) .nil))⟩
    unfold zipD
    rw [List.getElem?_zipWith, d1, e1]
theorem wi_zipM {PI' : List D → CH → Prop} (h : WA B0 ta E C fun ds C1 => ∃ xs ys, ds = [.lst xs, .tup ys] ∧ PI' (zipD xs ys) C1) : WI B0 (Zm.iZipM K ta) E C PI' := fun B F σ H sb rl re R q =>
  h B F σ H sb rl re _ fun vs ds B1 C1 H1 e1 rl1 rp ⟨xs, ys, hd, p⟩ => by
    subst hd
    cases rp with
    | cons ra rr =>
      cases rr with
      | cons rb rr =>
        cases rr
        cases ra with
        | lst ha r1 =>
          cases rb with
          | tup hb r2 => exact ⟨_, _, _, _, rfl, SqL.of (rl1.ex _ _ ha), SqT.of (rl1.ex _ _ hb), q _ _ B1 C1 H1 e1 rl1 (jd_zipM ha r1 hb r2) p⟩
theorem reps_rev {B : Hp} : ∀ {vs : List V} {ds : List D}, Reps B vs ds → Reps B vs.reverse ds.reverse
  | _, _, .nil => .nil
  | _, _, .cons h r => by
    rw [List.reverse_cons, List.reverse_cons]
    exact (reps_rev r).append (.one h)
theorem w_revL {P : D → CH → Prop} (h : W B0 te E C fun x C1 => ∃ ds, LstD C1 x ds ∧ P (.lst ds.reverse) C1) : W B0 (tRevL K te) E C P := fun B F σ H sb rl re Q q =>
  h B F σ H sb rl re _ fun v d B1 C1 H1 e1 rl1 rp ⟨ds, hd, p⟩ => by
    obtain ⟨a, vs, rfl, ha, r⟩ := lstD_rd rl1 rp hd
    refine ⟨a, vs, rfl, SqL.of ha, fun l hl => ?_⟩
    have s := same_upd (o := .lst vs.reverse) (rl1.noB hl)
    exact q _ _ _ C1 _ (e1.trans s) (rl1.new hl) (.lst upd_same ((reps_rev r).mono s)) p
theorem pe_revK {X : Cx} (K : PySem.W.Frag) {e : Expr} {te : TE} {k : Nat} {p1 p2 p3 pos : Pos} (he : PE X e te) (h : X.K = K := by rfl) : PE X (.Subscript e (.Slice none none (some (.UnaryOp .USub (.Constant (.int 1) k p1) p2)) p3) pos) (tRevL K te) := by
  subst h
  exact pe_revL he
end
end Dv

set_option maxRecDepth 100000
/-! Windows of boxes. -/
namespace Dv
open PySem L2
def tri (t f e : Int) : D := .tup [.int t, .int f, .int e]
mutual
/-- a box whose top and window are told: its entry, then those of its parts -/
def winB (O : List (Int × Int)) : Box → Int → Int → Int → List (Int × D) → List (Int × D)
  | .block n _, t, f, e, acc => putD acc n (tri t f e)
  | .scroller n _ ps, t, f, e, acc => winPs O ps (t - gI O n) f e (putD acc n (tri t f e))
/-- the parts of a scroller from the row z on, its window told -/
def winPs (O : List (Int × Int)) : List Box → Int → Int → Int → List (Int × D) → List (Int × D)
  | [], _, _, _, acc => acc
  | p :: r, z, f, e, acc => winPs O r (z + p.hgt) f e (winB O p z (max z f) (min (z + p.hgt) e) acc)
end
theorem winPs_app (O : List (Int × Int)) : ∀ (l m : List Box) (z f e : Int) (acc : List (Int × D)), winPs O (l ++ m) z f e acc = winPs O m (z + (l.map Box.hgt).sum) f e (winPs O l z f e acc)
  | [], m, z, f, e, acc => by simp [winPs]
  | p :: r, m, z, f, e, acc => by
    rw [List.cons_append, winPs, winPs_app O r m, winPs, List.map_cons, List.sum_cons, Int.add_assoc]
theorem putD_any (l : List (Int × D)) (k j : Int) (d : D) : lookD (putD l k d) j = if j = k then some d else lookD l j := by
  unfold putD lookD
  split
  · rename_i h
    induction l with
    | nil => simp at h
    | cons p l ih =>
      rw [List.map_cons, List.find?_cons, List.find?_cons]
      by_cases e : p.1 = k
      · rw [if_pos e]
        by_cases ej : j = k
        · subst ej; simp [e]
        · have n : ¬ p.1 = j := fun z => ej (z ▸ e)
          simp only [n, decide_false, if_neg ej]
          by_cases hk : (l.any fun p => decide (p.1 = k)) = true
          · have := ih hk
            rw [if_neg ej] at this
            exact this
          · congr 1
            have e2 : (l.map fun p => if p.1 = k then (p.1, d) else p) = l := by
              conv => rhs; rw [← List.map_id l]
              apply List.map_congr_left
              intro q hq
              have : ¬ q.1 = k := fun z => hk (List.any_eq_true.mpr ⟨q, hq, by simpa using z⟩)
              simp [this]
            rw [e2]
      · rw [if_neg e]
        have hk : (l.any fun p => decide (p.1 = k)) = true := by simpa [e] using h
        by_cases ep : p.1 = j
        · have ej : ¬ j = k := fun z => e (ep.trans z)
          simp [ep, ej]
        · simp only [ep, decide_false]
          exact ih hk
  · rename_i h
    rw [List.find?_append]
    by_cases ej : j = k
    · subst ej
      have : l.find? (fun p => decide (p.1 = j)) = none := by
        rw [List.find?_eq_none]
        intro p hp z
        exact h (List.any_eq_true.mpr ⟨p, hp, z⟩)
      rw [this]
      simp
    · have n : ¬ k = j := Ne.symm ej
      simp [ej, n]
mutual
theorem winB_len (O : List (Int × Int)) : ∀ (b : Box) (t f e : Int) (acc : List (Int × D)), (winB O b t f e acc).length ≤ acc.length + b.all.length
  | .block n h, t, f, e, acc => by
    have := putD_len acc n (tri t f e)
    rw [winB, Box.all]
    simpa using this
  | .scroller n h ps, t, f, e, acc => by
    have h1 := putD_len acc n (tri t f e)
    have h2 := winPs_len O ps (t - gI O n) f e (putD acc n (tri t f e))
    rw [winB, Box.all, List.length_cons]
    omega
theorem winPs_len (O : List (Int × Int)) : ∀ (ps : List Box) (z f e : Int) (acc : List (Int × D)), (winPs O ps z f e acc).length ≤ acc.length + (alls ps).length
  | [], z, f, e, acc => by simp [winPs]
  | p :: r, z, f, e, acc => by
    have h1 := winB_len O p z (max z f) (min (z + p.hgt) e) acc
    have h2 := winPs_len O r (z + p.hgt) f e (winB O p z (max z f) (min (z + p.hgt) e) acc)
    rw [winPs, alls, List.length_append]
    omega
end
mutual
/-- what was told of a number that is not there stays -/
theorem winB_other (O : List (Int × Int)) : ∀ (b : Box) (t f e : Int) (acc : List (Int × D)) (j : Int), j ∉ b.all.map Box.num → lookD (winB O b t f e acc) j = lookD acc j
  | .block n h, t, f, e, acc, j, hj => by
    have : ¬ j = n := by simpa [Box.all, Box.num] using hj
    rw [winB, putD_any, if_neg this]
  | .scroller n h ps, t, f, e, acc, j, hj => by
    rw [Box.all, List.map_cons, List.mem_cons, not_or] at hj
    rw [winB, winPs_other O ps _ _ _ _ _ hj.2, putD_any, if_neg (show ¬ j = n from hj.1)]
theorem winPs_other (O : List (Int × Int)) : ∀ (ps : List Box) (z f e : Int) (acc : List (Int × D)) (j : Int), j ∉ (alls ps).map Box.num → lookD (winPs O ps z f e acc) j = lookD acc j
  | [], _, _, _, _, _, _ => by rw [winPs]
  | p :: r, z, f, e, acc, j, hj => by
    rw [alls, List.map_append, List.mem_append, not_or] at hj
    rw [winPs, winPs_other O r _ _ _ _ _ hj.2, winB_other O p _ _ _ _ _ hj.1]
end
def IsTri (acc : List (Int × D)) (j : Int) : Prop := ∃ t f e, lookD acc j = some (tri t f e)
theorem putD_tri {acc : List (Int × D)} {n j t f e : Int} (h : j = n ∨ IsTri acc j) : IsTri (putD acc n (tri t f e)) j := by
  unfold IsTri
  rw [putD_any]
  by_cases z : j = n
  · exact ⟨t, f, e, by rw [if_pos z]⟩
  · rw [if_neg z]
    exact h.resolve_left z
mutual
theorem winB_tri (O : List (Int × Int)) : ∀ (b : Box) (t f e : Int) (acc : List (Int × D)) (j : Int), j ∈ b.all.map Box.num ∨ IsTri acc j → IsTri (winB O b t f e acc) j
  | .block n h, t, f, e, acc, j, hj => by
    rw [winB]
    exact putD_tri (hj.imp (fun z => by simpa [Box.all, Box.num] using z) id)
  | .scroller n h ps, t, f, e, acc, j, hj => by
    rw [winB]
    refine winPs_tri O ps _ _ _ _ _ ?_
    rw [Box.all, List.map_cons, List.mem_cons] at hj
    rcases hj with (z | z) | z
    · exact .inr (putD_tri (.inl z))
    · exact .inl z
    · exact .inr (putD_tri (.inr z))
theorem winPs_tri (O : List (Int × Int)) : ∀ (ps : List Box) (z f e : Int) (acc : List (Int × D)) (j : Int), j ∈ (alls ps).map Box.num ∨ IsTri acc j → IsTri (winPs O ps z f e acc) j
  | [], _, _, _, _, _, hj => by
    rw [winPs]
    refine hj.resolve_left fun y => ?_
    simp [alls] at y
  | p :: r, z, f, e, acc, j, hj => by
    rw [winPs]
    refine winPs_tri O r _ _ _ _ _ ?_
    rw [alls, List.map_append, List.mem_append] at hj
    rcases hj with (y | y) | y
    · exact .inr (winB_tri O p _ _ _ _ _ (.inl y))
    · exact .inl y
    · exact .inr (winB_tri O p _ _ _ _ _ (.inr y))
end
def winsOf (O : List (Int × Int)) (b : Box) : List (Int × D) := winB O b 0 0 b.hgt []
theorem winsOf_tri (O : List (Int × Int)) {b p : Box} (h : p ∈ b.all) : IsTri (winsOf O b) p.num := winB_tri O b _ _ _ _ _ (.inl (List.mem_map.mpr ⟨p, h, rfl⟩))
/-- the picture, by the table of windows -/
def blocksB (b : Box) : List Int := (b.all.filter fun p => !p.isS).map Box.num
def visN (W : List (Int × D)) : D → Bool := fun x => match x with
  | .int n => match lookD W n with
    | some (.tup [_, .int f, .int e]) => decide (f < e)
    | _ => false
  | _ => false
def entN (W : List (Int × D)) : D → D := fun x => match x with
  | .int n => match lookD W n with
    | some (.tup l) => .tup (.int n :: l)
    | _ => .non
  | _ => .non
def pictD (W : List (Int × D)) (b : Box) : List D := (((blocksB b).map D.int).filter (visN W)).map (entN W)
def isBD : D → Bool := fun x => match x with | .tup (.str k :: _) => decide (k = "block") | _ => false
theorem blocks_enc (b : Box) : ((encBs b.all).filter isBD).map numD = (blocksB b).map D.int := by
  unfold blocksB
  rw [encBs_map, List.filter_map, List.map_map, List.map_map]
  have e : b.all.filter (isBD ∘ encB) = b.all.filter fun p => !p.isS := List.filter_congr fun p _ => by cases p <;> rfl
  rw [e]
  apply List.map_congr_left
  intro p _
  cases p <;> rfl
theorem blocks_mem {b : Box} {n : Int} (h : n ∈ blocksB b) : ∃ p ∈ b.all, p.num = n := by
  obtain ⟨p, hp, e⟩ := List.mem_map.mp h
  exact ⟨p, (List.mem_filter.mp hp).1, e⟩
theorem blocks_len (b : Box) : (blocksB b).length ≤ b.all.length := by
  unfold blocksB
  rw [List.length_map]
  exact List.length_filter_le _ _
/-! ### what lies under a row -/
mutual
/-- the scrollers (the innermost first) and the target under the row r of a box -/
def undB (O : List (Int × Int)) : Box → Int → List Int → List Int × D
  | .block n _, _, path => (path, .int n)
  | .scroller n _ ps, r, path => undPs O ps (r + gI O n) (n :: path)
def undPs (O : List (Int × Int)) : List Box → Int → List Int → List Int × D
  | [], _, path => (path, .non)
  | p :: rest, i, path => if i < p.hgt then undB O p i path else undPs O rest (i - p.hgt) path
end
mutual
/-- the table W tells of a box and of all within what is to be told -/
def WinOk (O : List (Int × Int)) (W : List (Int × D)) : Box → Int → Int → Int → Prop
  | .block n _, t, f, e => lookD W n = some (tri t f e)
  | .scroller n _ ps, t, f, e => lookD W n = some (tri t f e) ∧ WinPsOk O W ps (t - gI O n) f e
def WinPsOk (O : List (Int × Int)) (W : List (Int × D)) : List Box → Int → Int → Int → Prop
  | [], _, _, _ => True
  | p :: r, z, f, e => WinOk O W p z (max z f) (min (z + p.hgt) e) ∧ WinPsOk O W r (z + p.hgt) f e
end
mutual
theorem winOk_same (O : List (Int × Int)) {W W' : List (Int × D)} : ∀ {b : Box} {t f e : Int}, (∀ j ∈ b.all.map Box.num, lookD W' j = lookD W j) → WinOk O W b t f e → WinOk O W' b t f e
  | .block n h, t, f, e, hj, k => by
    rw [WinOk] at k ⊢
    rw [hj n (by simp [Box.all, Box.num])]
    exact k
  | .scroller n h ps, t, f, e, hj, k => by
    rw [WinOk] at k ⊢
    rw [hj n (by simp [Box.all, Box.num])]
    exact ⟨k.1, winPsOk_same O (fun j hm => hj j (by rw [Box.all, List.map_cons]; exact List.mem_cons_of_mem _ hm)) k.2⟩
theorem winPsOk_same (O : List (Int × Int)) {W W' : List (Int × D)} : ∀ {ps : List Box} {z f e : Int}, (∀ j ∈ (alls ps).map Box.num, lookD W' j = lookD W j) → WinPsOk O W ps z f e → WinPsOk O W' ps z f e
  | [], _, _, _, _, _ => by rw [WinPsOk]; trivial
  | p :: r, z, f, e, hj, k => by
    rw [WinPsOk] at k ⊢
    rw [alls, List.map_append] at hj
    exact ⟨winOk_same O (fun j hm => hj j (List.mem_append_left _ hm)) k.1, winPsOk_same O (fun j hm => hj j (List.mem_append_right _ hm)) k.2⟩
end
mutual
theorem winB_ok (O : List (Int × Int)) : ∀ (b : Box) (t f e : Int) (acc : List (Int × D)), (b.all.map Box.num).Nodup → WinOk O (winB O b t f e acc) b t f e
  | .block n h, t, f, e, acc, _ => by
    rw [WinOk, winB, putD_any, if_pos rfl]
  | .scroller n h ps, t, f, e, acc, hn => by
    rw [Box.all, List.map_cons, List.nodup_cons] at hn
    rw [WinOk, winB]
    refine ⟨?_, winPs_ok O ps _ _ _ _ hn.2⟩
    have h1 : n ∉ (alls ps).map Box.num := hn.1
    rw [winPs_other O ps _ _ _ _ _ h1, putD_any, if_pos rfl]
theorem winPs_ok (O : List (Int × Int)) : ∀ (ps : List Box) (z f e : Int) (acc : List (Int × D)), ((alls ps).map Box.num).Nodup → WinPsOk O (winPs O ps z f e acc) ps z f e
  | [], _, _, _, _, _ => by rw [WinPsOk]; trivial
  | p :: r, z, f, e, acc, hn => by
    rw [alls, List.map_append, List.nodup_append] at hn
    rw [WinPsOk, winPs]
    refine ⟨winOk_same O (fun j hj => ?_) (winB_ok O p z (max z f) (min (z + p.hgt) e) acc hn.1), winPs_ok O r _ _ _ _ hn.2.1⟩
    exact winPs_other O r _ _ _ _ _ fun z => hn.2.2 j hj j z rfl
end
/-- the part that lies under the row, with its top -/
def pickP (row : Int) : Int → List Box → Option (Box × Int)
  | _, [] => none
  | z, p :: r => if row - z < p.hgt then some (p, z) else pickP row (z + p.hgt) r
theorem undPs_pick (O : List (Int × Int)) (row : Int) (path : List Int) : ∀ (ps : List Box) (z : Int), undPs O ps (row - z) path = match pickP row z ps with
    | none => (path, .non)
    | some (p, z') => undB O p (row - z') path
  | [], z => by rw [undPs, pickP]
  | p :: r, z => by
    rw [undPs, pickP]
    by_cases h : row - z < p.hgt
    · rw [if_pos h, if_pos h]
    · rw [if_neg h, if_neg h]
      have e : row - z - p.hgt = row - (z + p.hgt) := by omega
      rw [e]
      exact undPs_pick O row path r (z + p.hgt)
theorem winOk_at {O : List (Int × Int)} {W : List (Int × D)} {b : Box} {t f e : Int} (h : WinOk O W b t f e) : lookD W b.num = some (tri t f e) := by
  cases b with
  | block n k => rw [WinOk] at h; exact h
  | scroller n k ps => rw [WinOk] at h; exact h.1
theorem pick_ok {O : List (Int × Int)} {W : List (Int × D)} {row f e : Int} (h1 : f ≤ row) (h2 : row < e) : ∀ {ps : List Box} {z z' : Int} {p : Box}, z ≤ row → WinPsOk O W ps z f e → pickP row z ps = some (p, z') →
    p ∈ ps ∧ z' ≤ row ∧ WinOk O W p z' (max z' f) (min (z' + p.hgt) e) ∧ max z' f ≤ row ∧ row < min (z' + p.hgt) e
  | [], _, _, _, _, _, h => by rw [pickP] at h; cases h
  | q :: r, z, z', p, hz, hw, h => by
    rw [WinPsOk] at hw
    rw [pickP] at h
    by_cases c : row - z < q.hgt
    · rw [if_pos c] at h
      cases h
      exact ⟨by simp, hz, hw.1, by omega, by omega⟩
    · rw [if_neg c] at h
      obtain ⟨a1, a2⟩ := pick_ok h1 h2 (by omega) hw.2 h
      exact ⟨List.mem_cons_of_mem _ a1, a2⟩
/-- what is under a row: the reckoning gone on with from a part -/
def goOn (O : List (Int × Int)) (row : Int) (path : List Int) : Option (Box × Int) → List Int × D
  | none => (path, .non)
  | some (p, z) => undB O p (row - z) path
theorem goOn_scroller (O : List (Int × Int)) (row z : Int) (path : List Int) (n h : Int) (ps : List Box) : goOn O row path (some (.scroller n h ps, z)) = goOn O row (n :: path) (pickP row (z - gI O n) ps) := by
  rw [goOn, undB]
  have e : row - z + gI O n = row - (z - gI O n) := by omega
  rw [e, undPs_pick]
  cases pickP row (z - gI O n) ps with
  | none => rfl
  | some x => rfl
/-! ### a row has a block of the picture just if it is under it -/
def thereOf : D → List Int
  | .int n => [n]
  | _ => []
def hasN (W : List (Int × D)) (row : Int) (n : Int) : Bool := match lookD W n with
  | some (.tup [_, .int f, .int e]) => decide (f ≤ row ∧ row < e)
  | _ => false
def hasD (row : Int) : D → Bool := fun x => match x with
  | .tup [_, _, .int f, .int e] => decide (f ≤ row ∧ row < e)
  | _ => false
def fstD : D → D := fun x => match x with
  | .tup (a :: _) => a
  | _ => .non
def thereL (W : List (Int × D)) (row : Int) (l : List Box) : List Int := ((l.filter fun p => !p.isS).map Box.num).filter (hasN W row)
theorem thereL_app (W : List (Int × D)) (row : Int) (a b : List Box) : thereL W row (a ++ b) = thereL W row a ++ thereL W row b := by
  unfold thereL
  rw [List.filter_append, List.map_append, List.filter_append]
theorem hasN_tri {W : List (Int × D)} {row n t f e : Int} (h : lookD W n = some (tri t f e)) : hasN W row n = decide (f ≤ row ∧ row < e) := by
  unfold hasN
  rw [h]
  rfl
mutual
theorem there_out (O : List (Int × Int)) {W : List (Int × D)} {row : Int} : ∀ {b : Box} {t f e : Int}, WinOk O W b t f e → ¬ (f ≤ row ∧ row < e) → thereL W row b.all = []
  | .block n h, t, f, e, k, c => by
    rw [WinOk] at k
    simp [thereL, Box.all, Box.isS, Box.num, hasN_tri k]
    omega
  | .scroller n h ps, t, f, e, k, c => by
    rw [WinOk] at k
    have := there_outs O k.2 (.inl c)
    rw [Box.all]
    exact this
theorem there_outs (O : List (Int × Int)) {W : List (Int × D)} {row : Int} : ∀ {ps : List Box} {z f e : Int}, WinPsOk O W ps z f e → ¬ (f ≤ row ∧ row < e) ∨ (row < z ∧ ∀ p ∈ ps, 0 ≤ p.hgt) → thereL W row (alls ps) = []
  | [], _, _, _, _, _ => rfl
  | p :: r, z, f, e, k, c => by
    rw [WinPsOk] at k
    rw [alls, thereL_app, there_out O k.1 (by omega), there_outs O k.2 (c.imp id fun ⟨c1, c2⟩ => ⟨by have := c2 p (by simp); omega, fun q hq => c2 q (by simp [hq])⟩)]
    rfl
end
mutual
theorem there_in {O : List (Int × Int)} (hO : ∀ k, 0 ≤ gI O k) {W : List (Int × D)} {row : Int} : ∀ {b : Box} {t f e : Int} (path : List Int), WinOk O W b t f e → (∀ p ∈ b.all, 0 ≤ p.hgt) → t ≤ row → f ≤ row → row < e →
    thereL W row b.all = thereOf (undB O b (row - t) path).2
  | .block n h, t, f, e, path, k, _, _, c1, c2 => by
    rw [WinOk] at k
    simp [thereL, Box.all, Box.isS, Box.num, hasN_tri k, undB, thereOf, c1, c2]
  | .scroller n h ps, t, f, e, path, k, hh, ct, c1, c2 => by
    rw [WinOk] at k
    have hn := hO n
    rw [Box.all] at hh
    have := there_ins hO (n :: path) k.2 (fun p hp => hh p (List.mem_cons_of_mem _ hp)) (by omega) c1 c2
    rw [undB, show row - t + gI O n = row - (t - gI O n) by omega, ← this, Box.all]
    rfl
theorem there_ins {O : List (Int × Int)} (hO : ∀ k, 0 ≤ gI O k) {W : List (Int × D)} {row : Int} : ∀ {ps : List Box} {z f e : Int} (path : List Int), WinPsOk O W ps z f e → (∀ p ∈ alls ps, 0 ≤ p.hgt) → z ≤ row → f ≤ row → row < e →
    thereL W row (alls ps) = thereOf (undPs O ps (row - z) path).2
  | [], _, _, _, _, _, _, _, _, _ => rfl
  | p :: r, z, f, e, path, k, hh, cz, c1, c2 => by
    rw [WinPsOk] at k
    rw [alls] at hh
    have hp : 0 ≤ p.hgt := hh p (by rw [all_eq]; simp)
    have hr : ∀ q ∈ r, 0 ≤ q.hgt := fun q hq => hh q (List.mem_append_right _ (by rw [alls_flat]; exact List.mem_flatMap.mpr ⟨q, hq, by rw [all_eq]; simp⟩))
    rw [alls, thereL_app, undPs]
    by_cases c : row - z < p.hgt
    · rw [if_pos c, there_in hO path k.1 (fun q hq => hh q (List.mem_append_left _ hq)) cz (by omega) (by omega), there_outs O k.2 (.inr ⟨by omega, hr⟩), List.append_nil]
    · rw [if_neg c, there_out O k.1 (by omega), List.nil_append, there_ins hO path k.2 (fun q hq => hh q (List.mem_append_right _ hq)) (by omega) c1 c2]
      rw [show row - z - p.hgt = row - (z + p.hgt) by omega]
end
theorem there_root {O : List (Int × Int)} (hO : ∀ k, 0 ≤ gI O k) {b : Box} {row : Int} (hb : b.isS = true) (nd : (b.all.map Box.num).Nodup) (hh : ∀ p ∈ b.all, 0 ≤ p.hgt) (h0 : 0 ≤ row) (h1 : row < b.hgt) :
    thereL (winsOf O b) row b.all = thereOf (undB O b row []).2 := by
  have := there_in hO (row := row) [] (winB_ok O b 0 0 b.hgt [] nd) hh h0 h0 h1
  rw [show row - 0 = row by omega] at this
  exact this
theorem there_pict {W : List (Int × D)} {row : Int} : ∀ l : List Int, (∀ n ∈ l, IsTri W n) → (((((l.map D.int).filter (visN W)).map (entN W)).filter (hasD row)).map fstD) = (l.filter (hasN W row)).map D.int
  | [], _ => rfl
  | n :: r, h => by
    obtain ⟨t, f, e, ht⟩ := h n (by simp)
    have ih := there_pict (W := W) (row := row) r fun m hm => h m (by simp [hm])
    have hv : visN W (.int n) = decide (f < e) := by simp [visN, ht, tri]
    have he : entN W (.int n) = .tup [.int n, .int t, .int f, .int e] := by simp [entN, ht, tri]
    rw [List.map_cons, List.filter_cons, List.filter_cons, hv, hasN_tri ht]
    by_cases c : f < e
    · rw [if_pos (decide_eq_true c), List.map_cons, List.filter_cons, he]
      show List.map fstD (if decide (f ≤ row ∧ row < e) = true then _ else _) = _
      by_cases c2 : f ≤ row ∧ row < e
      · rw [if_pos (decide_eq_true c2), if_pos (decide_eq_true c2), List.map_cons, List.map_cons, ih]
        rfl
      · rw [if_neg (by simpa using c2), if_neg (by simpa using c2), ih]
    · rw [if_neg (by simpa using c), if_neg (by simp; omega), ih]
mutual
theorem und_kind (O : List (Int × Int)) : ∀ (b : Box) (r : Int) (path : List Int), (undB O b r path).2 = .non ∨ ∃ n, (undB O b r path).2 = .int n
  | .block n h, r, path => .inr ⟨n, rfl⟩
  | .scroller n h ps, r, path => by rw [undB]; exact unds_kind O ps _ _
theorem unds_kind (O : List (Int × Int)) : ∀ (ps : List Box) (r : Int) (path : List Int), (undPs O ps r path).2 = .non ∨ ∃ n, (undPs O ps r path).2 = .int n
  | [], _, _ => .inl rfl
  | p :: rest, r, path => by
    rw [undPs]
    split
    · exact und_kind O p r path
    · exact unds_kind O rest _ path
end
theorem putD_mem {l : List (Int × D)} {k : Int} {d : D} {p : Int × D} (h : p ∈ putD l k d) : p.2 = d ∨ p ∈ l := by
  unfold putD at h
  split at h
  · obtain ⟨q, hq, e⟩ := List.mem_map.mp h
    split at e
    · exact .inl (by rw [← e])
    · exact .inr (e ▸ hq)
  · rcases List.mem_append.mp h with h | h
    · exact .inr h
    · simp at h
      exact .inl (by rw [h])
def AllTri (l : List (Int × D)) : Prop := ∀ p ∈ l, ∃ t f e, p.2 = tri t f e
theorem putD_allTri {l : List (Int × D)} {k t f e : Int} (h : AllTri l) : AllTri (putD l k (tri t f e)) := fun p hp => (putD_mem hp).elim (fun z => ⟨t, f, e, z⟩) (h p)
mutual
theorem winB_all (O : List (Int × Int)) : ∀ (b : Box) (t f e : Int) (acc : List (Int × D)), AllTri acc → AllTri (winB O b t f e acc)
  | .block n h, t, f, e, acc, k => by rw [winB]; exact putD_allTri k
  | .scroller n h ps, t, f, e, acc, k => by rw [winB]; exact winPs_all O ps _ _ _ _ (putD_allTri k)
theorem winPs_all (O : List (Int × Int)) : ∀ (ps : List Box) (z f e : Int) (acc : List (Int × D)), AllTri acc → AllTri (winPs O ps z f e acc)
  | [], _, _, _, _, k => by rw [winPs]; exact k
  | p :: r, z, f, e, acc, k => by rw [winPs]; exact winPs_all O r _ _ _ _ (winB_all O p _ _ _ _ k)
end
theorem winsOf_all (O : List (Int × Int)) (b : Box) : AllTri (winsOf O b) := winB_all O b _ _ _ _ fun _ h => by cases h
theorem winsOf_len (O : List (Int × Int)) (b : Box) : (winsOf O b).length ≤ b.all.length := by
  have := winB_len O b 0 0 b.hgt []
  rw [List.length_nil, Nat.zero_add] at this
  exact this
theorem look_mem {l : List (Int × D)} {k : Int} (h : k ∈ l.map (·.1)) : ∃ p ∈ l, lookD l k = some p.2 := by
  unfold lookD
  obtain ⟨p, hp, e⟩ := List.mem_map.mp h
  cases z : l.find? (fun p => decide (p.1 = k)) with
  | none =>
    rw [List.find?_eq_none] at z
    exact absurd (by simpa using e) (z p hp)
  | some q => exact ⟨q, List.mem_of_find?_eq_some z, rfl⟩
theorem pictD_len (W : List (Int × D)) (b : Box) : (pictD W b).length ≤ b.all.length := by
  unfold pictD
  rw [List.length_map]
  refine Nat.le_trans (List.length_filter_le _ _) ?_
  rw [List.length_map]
  exact blocks_len b
theorem pictD_mem {O : List (Int × Int)} {b : Box} {x : D} (h : x ∈ pictD (winsOf O b) b) : ∃ n t f e : Int, x = .tup [.int n, .int t, .int f, .int e] := by
  unfold pictD at h
  obtain ⟨y, hy, rfl⟩ := List.mem_map.mp h
  obtain ⟨hy, _⟩ := List.mem_filter.mp hy
  obtain ⟨n, hn, rfl⟩ := List.mem_map.mp hy
  obtain ⟨p, hp, rfl⟩ := blocks_mem hn
  obtain ⟨t, f, e, ht⟩ := winsOf_tri O hp
  exact ⟨p.num, t, f, e, by simp [entN, ht, tri]⟩
/-! ### places and parts, two by two -/
theorem updC_self {C : CH} {a : Addr} {c : Cell} (h : C a = some c) : updC C a c = C := by
  funext z
  by_cases e : z = a
  · subst e; rw [updC_same, h]
  · rw [updC_ne e]
theorem zip_cons {z : Int} {post : List Box} {x : D} {xs : List D} (h : x :: xs = zipD ((placesL z post).map D.int) (encBs post)) : ∃ p r, post = p :: r ∧ x = .tup [.int z, encB p] ∧ xs = zipD ((placesL (z + p.hgt) r).map D.int) (encBs r) := by
  cases post with
  | nil => cases h
  | cons p r =>
    rw [placesL, encBs] at h
    injection h with h1 h2
    exact ⟨p, r, rfl, h1, h2⟩
theorem zip_nil {z : Int} {post : List Box} (h : [] = zipD ((placesL z post).map D.int) (encBs post)) : post = [] := by
  cases post with
  | nil => rfl
  | cons p r => rw [placesL, encBs] at h; cases h
def AllIn (O : List (Int × Int)) (b : Box) : Prop := ∀ s ∈ b.all, s.isS = true → s.num ∈ keysI O
end Dv

set_option maxRecDepth 100000
/-! Anchors, and what becomes of the offsets. -/
namespace Dv
open PySem L2
def anchorL (o : Int) : Int → List Box → Option Int
  | _, [] => none
  | z, p :: r => if o < z + p.hgt then some p.num else anchorL o (z + p.hgt) r
def anchorB (s : Box) (o : Int) : Option Int := if o = 0 then none else anchorL o 0 s.parts
def placeL (n : Int) : Int → List Box → Option Int
  | _, [] => none
  | z, p :: r => if p.num = n then some z else placeL n (z + p.hgt) r
def placeB (s : Box) (n : Int) : Option Int := placeL n 0 s.parts
theorem anchor_place {o n : Int} : ∀ {ps : List Box} {z : Int}, anchorL o z ps = some n → ∃ v, placeL n z ps = some v
  | [], _, h => by rw [anchorL] at h; cases h
  | p :: r, z, h => by
    rw [anchorL] at h
    rw [placeL]
    by_cases e : p.num = n
    · exact ⟨z, by rw [if_pos e]⟩
    · rw [if_neg e]
      split at h
      · exact absurd (Option.some.inj h) e
      · exact anchor_place h
theorem anchorB_place {s : Box} {o n : Int} (h : anchorB s o = some n) : ∃ v, placeB s n = some v := by
  unfold anchorB at h
  split at h
  · cases h
  · exact anchor_place h
def offAfter (before : Box) (o : Int) (s : Box) : Int := match anchorB before o with
  | none => o
  | some n => match placeB s n with
    | none => o
    | some z => o + z - (placeB before n).getD 0
/-- what an edit makes of the offset of a scroller -/
def after1 (doc : Box) (O : List (Int × Int)) (s : Box) : Option Int := match findB doc.all s.num with
  | some before => if before.isS then some (offAfter before (gI O s.num) s) else none
  | none => none
def afterL (doc : Box) (O : List (Int × Int)) (l : List Box) (acc : List (Int × Int)) : List (Int × Int) :=
  l.foldl (fun acc s => match after1 doc O s with
    | some v => putI acc s.num v
    | none => acc) acc
theorem afterL_snoc (doc : Box) (O : List (Int × Int)) (l : List Box) (s : Box) (acc : List (Int × Int)) : afterL doc O (l ++ [s]) acc = match after1 doc O s with
    | some v => putI (afterL doc O l acc) s.num v
    | none => afterL doc O l acc := by
  unfold afterL
  rw [List.foldl_append]
  rfl
theorem afterL_len (doc : Box) (O : List (Int × Int)) : ∀ (l : List Box) (acc : List (Int × Int)), (afterL doc O l acc).length ≤ acc.length + l.length
  | [], acc => Nat.le_refl _
  | p :: r, acc => by
    have e : afterL doc O (p :: r) acc = afterL doc O r (match after1 doc O p with
      | some v => putI acc p.num v
      | none => acc) := rfl
    rw [e, List.length_cons]
    cases after1 doc O p with
    | none => have := afterL_len doc O r acc; simp only; omega
    | some v =>
      have h := afterL_len doc O r (putI acc p.num v)
      have h2 := len_put acc p.num v
      simp only
      omega
theorem afterL_other (doc : Box) (O : List (Int × Int)) (k : Int) : ∀ (l : List Box) (acc : List (Int × Int)), k ∉ l.map Box.num → getI (afterL doc O l acc) k = getI acc k
  | [], acc, _ => rfl
  | p :: r, acc, h => by
    rw [List.map_cons, List.mem_cons, not_or] at h
    have e : afterL doc O (p :: r) acc = afterL doc O r (match after1 doc O p with
      | some v => putI acc p.num v
      | none => acc) := rfl
    rw [e, afterL_other doc O k r _ h.2]
    cases after1 doc O p with
    | none => rfl
    | some v =>
      show getI (putI acc p.num v) k = _
      rw [getI_put, if_neg h.1]
theorem afterL_at (doc : Box) (O : List (Int × Int)) : ∀ (l : List Box) (acc : List (Int × Int)), (l.map Box.num).Nodup → (∀ s ∈ l, getI acc s.num = none) → ∀ s ∈ l, getI (afterL doc O l acc) s.num = after1 doc O s
  | [], _, _, _, _, h => by cases h
  | p :: r, acc, hn, ha, s, hs => by
    rw [List.map_cons, List.nodup_cons] at hn
    have e : afterL doc O (p :: r) acc = afterL doc O r (match after1 doc O p with
      | some v => putI acc p.num v
      | none => acc) := rfl
    rw [e]
    rcases List.mem_cons.mp hs with rfl | hs
    · rw [afterL_other doc O _ r _ hn.1]
      cases h1 : after1 doc O s with
      | none => exact ha s (by simp)
      | some v =>
        show getI (putI acc s.num v) s.num = _
        rw [getI_put, if_pos rfl]
    · refine afterL_at doc O r _ hn.2 (fun t ht => ?_) s hs
      cases h1 : after1 doc O p with
      | none => exact ha t (by simp [ht])
      | some v =>
        show getI (putI acc p.num v) t.num = _
        rw [getI_put, if_neg]
        · exact ha t (by simp [ht])
        · intro z
          exact hn.1 (z ▸ List.mem_map.mpr ⟨t, ht, rfl⟩)
def afterB (doc : Box) (O : List (Int × Int)) (later : Box) : List (Int × Int) := fitB (afterL doc O (scrsB later) []) later
/-- as the law reckons it -/
def afterLaw (doc : Box) (O : List (Int × Int)) (later : Box) : List (Int × Int) := (scrsB later).map fun s => (s.num, max 0 (min ((after1 doc O s).getD 0) (rangeB s)))
theorem after_same {doc later : Box} {O : List (Int × Int)} (h : (later.all.map Box.num).Nodup) : afterB doc O later = afterLaw doc O later := by
  unfold afterB afterLaw
  rw [fitB_map _ h]
  apply List.map_congr_left
  intro s hs
  rw [afterL_at doc O _ [] (nodup_scrs h) (fun s _ => rfl) s hs]
  have := rangeB_nonneg s
  congr 1
  omega
theorem findB_is : ∀ {l : List Box} {i : Int} {p : Box}, findB l i = some p → p ∈ l ∧ p.num = i
  | q :: l, i, p, h => by
    rw [findB] at h
    split at h
    · rename_i e
      cases h
      exact ⟨by simp, e⟩
    · obtain ⟨a, b⟩ := findB_is h
      exact ⟨List.mem_cons_of_mem _ a, b⟩
/-! ### edits -/
inductive Edit where
  | ins (n i : Int) (b : Box)
  | rem (n : Int)
  | res (n h : Int)
def encE : Edit → D
  | .ins n i b => .tup [.str "insert", .int n, .int i, encB b]
  | .rem n => .tup [.str "remove", .int n]
  | .res n h => .tup [.str "resize", .int n, .int h]
def Edit.num : Edit → Int
  | .ins n _ _ => n
  | .rem n => n
  | .res n _ => n
def Edit.keep : Edit → Box → Bool
  | .rem n, p => decide (p.num ≠ n)
  | _, _ => true
def Edit.put : Edit → Int → List Box → List Box
  | .ins m i b, n, l => if n = m then l.take i.toNat ++ [b] ++ l.drop i.toNat else l
  | _, _, l => l
def Edit.newH : Edit → Int → Int → Int
  | .res m k, n, h => if n = m then k else h
  | _, _, h => h
mutual
/-- a box with the edit done, wherever its number stands -/
def withB (e : Edit) : Box → Box
  | .block n h => .block n (e.newH n h)
  | .scroller n h ps => .scroller n (e.newH n h) (e.put n (withs e ps))
def withs (e : Edit) : List Box → List Box
  | [] => []
  | p :: r => if e.keep p then withB e p :: withs e r else withs e r
end
theorem withs_snoc (e : Edit) (p : Box) : ∀ l : List Box, withs e (l ++ [p]) = withs e l ++ if e.keep p then [withB e p] else []
  | [] => by
    rw [List.nil_append, withs, withs]
    split <;> rfl
  | q :: l => by
    rw [List.cons_append, withs, withs, withs_snoc e p l]
    split <;> rfl
theorem withs_len (e : Edit) : ∀ l : List Box, (withs e l).length ≤ l.length
  | [] => Nat.le_refl _
  | p :: r => by
    have := withs_len e r
    rw [withs]
    split <;> simp <;> omega
def Edit.xlev : Edit → Nat
  | .ins _ _ b => b.lev
  | _ => 0
def Edit.xlen : Edit → Nat
  | .ins _ _ b => b.all.length
  | _ => 0
theorem levs_app : ∀ a b : List Box, levs (a ++ b) = max (levs a) (levs b)
  | [], b => by rw [List.nil_append, levs]; omega
  | p :: a, b => by rw [List.cons_append, levs, levs, levs_app a b]; omega
theorem put_lev (e : Edit) (n : Int) (l : List Box) : levs (e.put n l) ≤ max (levs l) e.xlev := by
  cases e with
  | ins m i b =>
    rw [Edit.put, Edit.xlev]
    split
    · have h := levs_app (l.take i.toNat) (l.drop i.toNat)
      rw [List.take_append_drop] at h
      rw [levs_app, levs_app, levs, levs]
      omega
    · omega
  | rem m => show levs l ≤ _; omega
  | res m h => show levs l ≤ _; omega
theorem put_len (e : Edit) (n : Int) (l : List Box) : (alls (e.put n l)).length ≤ (alls l).length + e.xlen := by
  cases e with
  | ins m i b =>
    rw [Edit.put, Edit.xlen]
    split
    · have h := alls_append (l.take i.toNat) (l.drop i.toNat)
      rw [List.take_append_drop] at h
      rw [alls_append, alls_append, alls, alls, h]
      simp
      omega
    · omega
  | rem m => exact Nat.le_add_right _ _
  | res m h => exact Nat.le_add_right _ _
mutual
theorem with_lev (e : Edit) : ∀ b : Box, (withB e b).lev ≤ b.lev + e.xlev
  | .block n h => by rw [withB, Box.lev, Box.lev]; omega
  | .scroller n h ps => by
    have h1 := withs_lev e ps
    have h2 := put_lev e n (withs e ps)
    rw [withB, Box.lev, Box.lev]
    omega
theorem withs_lev (e : Edit) : ∀ ps : List Box, levs (withs e ps) ≤ levs ps + e.xlev
  | [] => by rw [withs, levs]; omega
  | p :: r => by
    have h1 := with_lev e p
    have h2 := withs_lev e r
    rw [withs, levs]
    split
    · rw [levs]; omega
    · omega
end
mutual
theorem with_len (e : Edit) : ∀ b : Box, (withB e b).all.length ≤ b.all.length * (1 + e.xlen)
  | .block n h => by rw [withB, Box.all, Box.all]; simp
  | .scroller n h ps => by
    have h1 := withs_alen e ps
    have h2 := put_len e n (withs e ps)
    rw [withB, Box.all, Box.all, List.length_cons, List.length_cons, Nat.add_mul]
    omega
theorem withs_alen (e : Edit) : ∀ ps : List Box, (alls (withs e ps)).length ≤ (alls ps).length * (1 + e.xlen)
  | [] => by rw [withs, alls]; simp
  | p :: r => by
    have h1 := with_len e p
    have h2 := withs_alen e r
    rw [withs, alls, List.length_append, Nat.add_mul]
    split
    · rw [alls, List.length_append]; omega
    · omega
end
theorem with_num (e : Edit) (b : Box) : (withB e b).num = b.num := by cases b <;> rfl
theorem with_isS (e : Edit) (b : Box) : (withB e b).isS = b.isS := by cases b <;> rfl
def Edit.isIns : Edit → Bool
  | .ins _ _ _ => true
  | _ => false
/-- no document comes out whatever the boxes are -/
def Edit.bad (e : Edit) (b s : Box) : Bool := match e with
  | .ins _ i _ => !(decide (0 ≤ i) && decide (i ≤ s.parts.length))
  | .rem n => decide (n = b.num)
  | .res _ _ => false
def editR (b : Box) (e : Edit) : Str ⊕ Box := match findB b.all e.num with
  | none => .inl "none"
  | some s => if e.isIns && !s.isS then .inl "block" else if e.bad b s then .inl "refused" else if isDoc (withB e b) then .inr (withB e b) else .inl "refused"
def encR : Str ⊕ Box → D
  | .inl z => .str z
  | .inr b => encB b
theorem editR_doc {b l : Box} {e : Edit} (h : editR b e = .inr l) : l = withB e b ∧ isDoc l = true := by
  unfold editR at h
  split at h
  · cases h
  · split at h
    · cases h
    · split at h
      · cases h
      · split at h
        · rename_i hd
          cases h
          exact ⟨rfl, hd⟩
        · cases h
/-- what is drawn as an edit -/
def Edit.Ok : Edit → Prop
  | .ins _ i b => -1 ≤ i ∧ i ≤ 1000 ∧ b.lev ≤ 3 ∧ b.all.length ≤ 3
  | _ => True
theorem Edit.Ok.xlev {e : Edit} (h : e.Ok) : e.xlev ≤ 3 := by
  cases e with
  | ins n i b => exact h.2.2.1
  | rem n => exact Nat.zero_le _
  | res n k => exact Nat.zero_le _
theorem Edit.Ok.xlen {e : Edit} (h : e.Ok) : e.xlen ≤ 3 := by
  cases e with
  | ins n i b => exact h.2.2.2
  | rem n => exact Nat.zero_le _
  | res n k => exact Nat.zero_le _
theorem isDoc_facts {b : Box} (h : isDoc b = true) : b.isS = true ∧ b.all.length ≤ 40 ∧ b.deep ≤ 4 ∧ (b.all.map Box.num).Nodup ∧ (∀ p ∈ b.all, 1 ≤ p.num ∧ p.num ≤ 999) ∧ ∀ p ∈ b.all, 0 ≤ p.hgt ∧ p.hgt ≤ 1000 := of_decide_eq_true h
mutual
theorem lev_deep : ∀ b : Box, b.lev ≤ b.deep + 1
  | .block n h => by rw [Box.lev]; omega
  | .scroller n h ps => by
    have := levs_deeps ps
    rw [Box.lev, Box.deep]
    omega
theorem levs_deeps : ∀ ps : List Box, levs ps ≤ deeps ps + 1
  | [] => by rw [levs]; omega
  | p :: r => by
    have h1 := lev_deep p
    have h2 := levs_deeps r
    rw [levs, deeps]
    omega
end
/-! ### offsets of a document's scrollers -/
structure OffsG (b : Box) (O : List (Int × Int)) : Prop where
  keys : keysI O = (scrsB b).map Box.num
  pos : ∀ k, 0 ≤ gI O k
theorem OffsG.allIn {b : Box} {O : List (Int × Int)} (h : OffsG b O) : AllIn O b := fun s hs hss => by
  rw [h.keys]
  exact List.mem_map.mpr ⟨s, List.mem_filter.mpr ⟨hs, hss⟩, rfl⟩
theorem after1_in {b s : Box} {O : List (Int × Int)} (h : OffsG b O) (nd : (b.all.map Box.num).Nodup) (hs : s.num ∈ keysI O) :
    ∃ q, findB b.all s.num = some q ∧ q.isS = true ∧ q ∈ b.all ∧ after1 b O s = some (offAfter q (gI O s.num) s) := by
  rw [h.keys] at hs
  obtain ⟨q, hq, e⟩ := List.mem_map.mp hs
  obtain ⟨h1, h2⟩ := List.mem_filter.mp hq
  have hf := findB_of nd h1
  rw [e] at hf
  refine ⟨q, hf, h2, h1, ?_⟩
  unfold after1
  rw [hf]
  simp only [h2, if_true]
theorem after1_out {b s : Box} {O : List (Int × Int)} (h : OffsG b O) (hs : s.num ∉ keysI O) : after1 b O s = none := by
  unfold after1
  cases e : findB b.all s.num with
  | none => rfl
  | some q =>
    obtain ⟨h1, h2⟩ := findB_is e
    cases hq : q.isS with
    | false => simp [hq]
    | true =>
      refine absurd ?_ hs
      rw [h.keys, ← h2]
      exact List.mem_map.mpr ⟨q, List.mem_filter.mpr ⟨h1, hq⟩, rfl⟩
theorem gI_out {O : List (Int × Int)} {k : Int} (h : k ∉ keysI O) : (getI O k).getD 0 = 0 := by
  rw [getI_none.mpr h]
  rfl
end Dv

set_option maxRecDepth 100000
set_option maxHeartbeats 1000000
/-! Errors: defs that they may leave, raise, try. -/
namespace Dv
open PySem PySem.Spec L2
/-- an error: of an own class without fields; or with fields of its own -/
inductive Exn where
  | own (n : Str)
  | fld (n : Str) (fs : List (Str × D))
inductive ExnOk (mg : Str → Option Value) (B : Hp) : Exn → Value → Option Addr → Prop
  | own {n : Str} {c : Value} (h : mg n = some c) : ExnOk mg B (.own n) c none
  | fld {n : Str} {c : Value} {a : Addr} {vs : List (Str × V)} {fs : List (Str × D)} (h : mg n = some c) (ha : B a = some (.xd vs)) (r : RepF B vs fs) : ExnOk mg B (.fld n fs) c (some a)
abbrev SpX := List D → CH → (D → CH → Prop) → (Exn → CH → Prop) → Prop
def spX (mg : Str → Option Value) (f : SpX) : Sp := fun vs H Q E => ∃ (B F : Hp) (C : CH) (ds : List D) (P : D → CH → Prop) (PX : Exn → CH → Prop), Rel B C F H ∧ Reps B vs ds ∧ f ds C P PX ∧
  (∀ v d B' C' H', Same B B' → Rel B' C' F H' → Rep B' v d → P d C' → Q v H') ∧ ∀ x c d B' C' H', Same B B' → Rel B' C' F H' → ExnOk mg B' x c d → PX x C' → E c d H'
/-- what is wished of errors is so where PX is -/
def XOk (mg : Str → Option Value) (g : Gr) (E' : St → XK) (E : EnvD) (PX : Exn → CH → Prop) : Prop :=
  ∀ (B F : Hp) (σ : St) (H : Hp) (C : CH), Sb g B F → Rel B C F H → RelE B σ E → ∀ x c d, ExnOk mg B x c d → PX x C → E' σ c d H
/-- .. at any slots -/
def XOkF (mg : Str → Option Value) (g : Gr) (E' : XK) (PX : Exn → CH → Prop) : Prop :=
  ∀ (B F H : Hp) (C : CH), Sb g B F → Rel B C F H → ∀ x c d, ExnOk mg B x c d → PX x C → E' c d H
theorem XOkF.ok {mg : Str → Option Value} {g : Gr} {E' : XK} {E : EnvD} {PX : Exn → CH → Prop} (h : XOkF mg g E' PX) : XOk mg g (fun _ => E') E PX := fun B F _ H C sb rl _ x c d ok p => h B F H C sb rl x c d ok p
theorem w_callX {mg : Str → Option Value} {B0 : Gr} {f : SpX} {E' : St → XK} {tA : TA} {E : EnvD} {C : CH} {P : D → CH → Prop} {PX : Exn → CH → Prop} (hX : XOk mg B0 E' E PX) (h : WA B0 tA E C fun ds C1 => f ds C1 P PX) :
    W B0 (tCallS (spX mg f) E' tA) E C P := fun B F σ H sb rl re Q q =>
  h B F σ H sb rl re _ fun vs ds B1 C1 H1 e1 rl1 rp p => ⟨B1, F, C1, ds, P, PX, rl1, rp, p, fun v d B' C' H' e => q v d B' C' H' (e1.trans e),
    fun x c d B' C' H' e rl' ok px => hX B' F σ H' C' (sb.trans (e1.trans e)) rl' (re.mono (e1.trans e)) x c d ok px⟩
section
variable {P : Program} {w : World} {K : PySem.W.Frag} {mg : Str → Option Value} {base : Heap}
def HasX (P : Program) (w : World) (K : PySem.W.Frag) (mg : Str → Option Value) (base : Heap) (k : Nat) (x : Str) (ps : List Str) (sp : Sp) : Prop :=
  ∃ f fd, FnOk P w K mg base (L2.CX P w) k f fd ps sp ∧ mg x = some (.ref f) ∧ PySem.W.keepIn K (.ref f) = true ∧ Binds K fd ps []
theorem HasX.mono {j k : Nat} {x : Str} {ps : List Str} {sp : Sp} (h : HasX P w K mg base j x ps sp) (l : j ≤ k) : HasX P w K mg base k x ps sp := by
  obtain ⟨f, fd, a, b, c, d⟩ := h
  exact ⟨f, fd, a.mono l, b, c, d⟩
theorem has_ofX {x : Str} {st : Stmt} {N ps : List Str} {k : Nat} {g : SpX} (Df : DefAt K mg x st ps) (S : FnScope N ps (defScope st)) (len : ∀ ds C P PX, g ds C P PX → ds.length = ps.length)
    (hbody : ∀ (f : Addr) (cdv : Value) (A : Around) (outer : List PySem.Env) (s : Shared) (H : Hp) (E : XK), Room k (A.deeper (PyProof.Rows.envOfC x (defScope st) s.heap.objs.size f cdv)) →
      ∃ t, PSs (cxOf (L2.CX P w) P w K mg base N x (defScope st) f cdv A outer s H E) (defBody st) t ∧ ∀ (B : Gr) ds C PD PX, g ds C PD PX → XOkF mg B E PX → WS B t (startD N.length ds) C { nx := fun _ C' => PD .non C', rt := PD }) :
    HasX P w K mg base (k + 1) x ps (spX mg g) := by
  obtain ⟨f, fd, F, hm, hb⟩ := Df
  refine ⟨f, fd, F.okX S ?_ ?_, hm, F.kp, hb⟩
  · rintro vs H Q E ⟨B, F, C, ds, P, PX, _, rp, h, _⟩
    rw [rp.length]
    exact len _ _ _ _ h
  · intro cdv A outer s H vs Q E hr h
    obtain ⟨t, h1, h2⟩ := hbody f cdv A outer s H E hr
    obtain ⟨B, F, C, ds, P, PX, rl, rp, hg, q, qx⟩ := h
    refine ⟨t, h1, h2 ⟨B, F⟩ ds C P PX hg (fun B' F' H' C' sb rl' x c d ok p => qx x c d B' C' H' sb.1 (rl'.less sb.2) ok p) B F _ H (Sb.refl B F) rl (RelE.begin rp) _ ⟨?_, ?_, ?_, ?_⟩⟩
    · exact fun σ' E' B' C' H' e rl' _ p => q .non .non B' C' H' e rl' .non p
    · exact fun v d B' C' H' e rl' rp' p => q v d B' C' H' e rl' rp' p
    · exact fun _ _ _ _ _ _ _ _ z => z
    · exact fun _ _ _ _ _ _ _ _ z => z
end
section
variable {X : Cx} {x : Str} {ps : List Str} {sp : Sp} {k : Nat} {p pos : Pos} {e : Expr} {es : List Expr} {t : TA}
theorem pe_defX {W : WX} (h : HasX X.prog X.w X.K X.mg X.base k x ps sp) (hr : Room k X.A) (ha : PA X (e :: es) t) (tk : Takes X W) (hg : Gl X x := by rfl) (hdb : (x == ("__debug__" : Str)) = false := by decide)
    (he : starEach (e :: es) X.env = (false, eval e X.env) :: starEach es X.env := by rfl) (hpl : (backTo pos (starEach es X.env)).any (·.1) = false := by rfl) :
    PE X (.Call (.Name x p) (e :: es) [] pos) (tCallS sp (WE W) t) := by
  obtain ⟨f, fd, F, hm, hk, hb⟩ := h
  exact pe_callS F hr hg hm hk hb (fun σ => passAt tk σ) ha hdb he hpl
end
/-! ### raise -/
/-- an own class over ValueError, without a maker of its own -/
def ExcAt (K : PySem.W.Frag) (mg : Str → Option Value) (x : Str) : Prop := ∃ C, PySem.W.excIn K C [.type "ValueError", .type "Exception", .type "BaseException", .type "object"] "ValueError.__new__" = true ∧ mg x = some (.ref C) ∧ PySem.W.keepIn K (.ref C) = true ∧
  PySem.W.subIn K (.ref C) (.type "BaseException") = some true ∧ PySem.W.typeIn K (.ref C) = some (.type "type")
def clsOf (mg : Str → Option Value) (x : Str) : Value := (mg x).getD .none
theorem ExcAt.at {K : PySem.W.Frag} {mg : Str → Option Value} {x : Str} (h : ExcAt K mg x) : mg x = some (clsOf mg x) := by
  obtain ⟨C, _, h2, _⟩ := h
  unfold clsOf
  rw [h2]
  rfl
def tRaise (W : WX) (c : Value) : TS := fun _ σ H => W c none σ H
theorem ps_rs {X : Cx} {W : WX} {x m : Str} {j : Nat} {p p2 pos pos2 : Pos} (h : ExcAt X.K X.mg x) (tk : Takes X W) (hc : X.calm = true := by rfl) (hg : Gl X x := by rfl) (hdb : (x == ("__debug__" : Str)) = false := by decide) :
    PS X (.Raise (some (.Call (.Name x p) [.Constant (.str m) j p2] [] pos)) none pos2) (tRaise W (clsOf X.mg x)) := by
  have e := h.at
  obtain ⟨C, h1, h2, h3, h4, h5⟩ := h
  rw [h2] at e
  have r := ps_raise (W := W) (pos := pos2) hc tk (pmk_own (m := m) (j := j) (p := p) (p2 := p2) (pos := pos) PySem.F.excBase_ValueError h1 h2 h3 (raises_own h4 h5) hg hdb)
  rw [← Option.some.inj e]
  exact r
theorem ws_raise {K : PySem.W.Frag} {mg : Str → Option Value} {B0 : Gr} {W : WX} {x : Str} {E : EnvD} {C : CH} {D1 : EndD} {PX : Exn → CH → Prop} (hX : XOk mg B0 (WE W) E PX) (h : ExcAt K mg x) (k : PX (.own x) C) : WS B0 (tRaise W (clsOf mg x)) E C D1 :=
  fun B F σ H sb rl re Dn _ => hX B F σ H C sb rl re (.own x) _ none (.own h.at) k
/-! ### try -/
abbrev Hd := Value × (Addr → Value → Option Addr → TS)
def tTry (K : PySem.W.Frag) (tb : WX → TS) (Wout : WX) (l : List Hd) : TS := fun D σ H => tb (wMany K Wout D l) D σ H
/-- what the clauses do with an error -/
def HdD (K : PySem.W.Frag) (mg : Str → Option Value) (B0 : Gr) (E : EnvD) (D1 : EndD) (PXo : Exn → CH → Prop) : List Hd → Exn → CH → Prop
  | [], x, C => PXo x C
  | (c, ts) :: r, x, C => ∀ (B : Hp) (cls : Value) (d : Option Addr), ExnOk mg B x cls d → Same B0.b B → ∃ b, PySem.W.exmOne K cls c = some b ∧ (b = true → ∀ a, WS ⟨B, B0.f⟩ (ts a cls d) E C D1) ∧ (b = false → HdD K mg B0 E D1 PXo r x C)
theorem ws_try {K : PySem.W.Frag} {mg : Str → Option Value} {B0 : Gr} {tb : WX → TS} {Wout : WX} {l : List Hd} {E : EnvD} {C : CH} {D1 : EndD} {PXo : Exn → CH → Prop} (PX : Exn → CH → Prop) (ho : XOk mg B0 (WE Wout) E PXo)
    (hb : ∀ (B1 : Gr) (W : WX), XOk mg B1 (WE W) E PX → WS B1 (tb W) E C D1) (hl : ∀ x C1, PX x C1 → HdD K mg B0 E D1 PXo l x C1) : WS B0 (tTry K tb Wout l) E C D1 := fun B F σ H sb rl re Dn ok => by
  refine hb ⟨B, F⟩ _ (fun B2 F2 σ2 H2 C2 sb2 rl2 re2 x c d hx p => ?_) B F σ H (Sb.refl B F) rl re Dn ok
  have z := hl x C2 p
  clear hl hb
  induction l with
  | nil => exact ho B2 F2 σ2 H2 C2 ⟨sb.1.trans sb2.1, sb.2.trans sb2.2⟩ rl2 re2 x c d hx z
  | cons q r ih =>
    obtain ⟨c1, ts⟩ := q
    obtain ⟨b, h1, h2, h3⟩ := z B2 c d hx (sb.1.trans sb2.1)
    refine ⟨b, h1, fun hb a ha => ?_, fun hb => ih (h3 hb)⟩
    refine h2 hb a B2 F σ2 H2 ⟨Same.refl B2, sb.2⟩ (rl2.less sb2.2) re2 Dn ⟨?_, ?_, ?_, ?_⟩
    · exact fun σ' E1 B' C' H' s rl' re' k => ok.nx σ' E1 B' C' H' (sb2.1.trans s) rl' re' k
    · exact fun v d B' C' H' s rl' rp k => ok.rt v d B' C' H' (sb2.1.trans s) rl' rp k
    · exact fun σ' E1 B' C' H' s rl' re' k => ok.bk σ' E1 B' C' H' (sb2.1.trans s) rl' re' k
    · exact fun σ' E1 B' C' H' s rl' re' k => ok.ct σ' E1 B' C' H' (sb2.1.trans s) rl' re' k
end Dv

set_option maxRecDepth 100000
set_option maxHeartbeats 1000000
/-! Instances: fields, methods, makers. -/
namespace Dv
open PySem PySem.Spec L2
def clsA (mg : Str → Option Value) (x : Str) : Addr := match mg x with
  | some (.ref C) => C
  | _ => 0
structure ClsOk (K : PySem.W.Frag) (mg : Str → Option Value) (x : Str) (fs : List Str) : Prop where
  at_ : mg x = some (.ref (clsA mg x))
  cls : Cls K (clsA mg x)
  no : ∀ f ∈ fs, NoAttr K (clsA mg x) f
structure FldOk (K : PySem.W.Frag) (c : Addr) (f : Str) : Prop where
  cls : Cls K c
  no : NoAttr K c f
theorem ClsOk.fld {K : PySem.W.Frag} {mg : Str → Option Value} {x f : Str} {fs : List Str} (h : ClsOk K mg x fs) (hf : f ∈ fs) : FldOk K (clsA mg x) f := ⟨h.cls, h.no f hf⟩
def putFD (f : Str) (v : D) : List (Str × D) → List (Str × D)
  | [] => [(f, v)]
  | (g, x) :: r => if g = f then (g, v) :: r else (g, x) :: putFD f v r
theorem repF_look {B : Hp} {fs : List (Str × V)} {gs : List (Str × D)} (r : RepF B fs gs) {f : Str} {d : D} (h : gs.lookup f = some d) : ∃ v, fs.lookup f = some v ∧ Rep B v d := by
  induction r with
  | nil => cases h
  | @cons k v d' vs ds hv _ ih =>
    rw [List.lookup_cons] at h ⊢
    cases e : f == k with
    | true =>
      rw [e] at h
      cases h
      exact ⟨v, rfl, hv⟩
    | false =>
      rw [e] at h
      exact ih h
theorem repF_none {B : Hp} {fs : List (Str × V)} {gs : List (Str × D)} (r : RepF B fs gs) {f : Str} (h : gs.lookup f = none) : fs.lookup f = none := by
  induction r with
  | nil => rfl
  | @cons k v d' vs ds hv _ ih =>
    rw [List.lookup_cons] at h ⊢
    cases e : f == k with
    | true => rw [e] at h; cases h
    | false =>
      rw [e] at h
      exact ih h
theorem repF_put {B : Hp} {fs : List (Str × V)} {gs : List (Str × D)} (r : RepF B fs gs) {f : Str} {v : V} {d : D} (h : Rep B v d) : RepF B (putF f v fs) (putFD f d gs) := by
  induction r with
  | nil => exact .cons h .nil
  | @cons k v' d' vs ds hv r ih =>
    rw [putF, putFD]
    split
    · exact .cons h r
    · exact .cons hv ih
theorem repF_len {B : Hp} {fs : List (Str × V)} {gs : List (Str × D)} (r : RepF B fs gs) : fs.length = gs.length := by
  induction r with
  | nil => rfl
  | cons _ _ ih => rw [List.length_cons, List.length_cons, ih]
theorem rel_ins {B F H : Hp} {C : CH} {a c : Addr} {gs : List (Str × D)} (rl : Rel B C F H) (h : C a = some (.ins c gs)) : ∃ dx fs, H a = some (.ins c dx fs) ∧ RepF B fs gs := by
  obtain ⟨o, h1, h2⟩ := rl.own _ _ h
  cases h2 with
  | ins r => exact ⟨_, _, h1, r⟩
section
variable {B0 : Gr} {C : CH} {P : D → CH → Prop} {K : PySem.W.Frag} {E : EnvD} {ta tv te : TE} {t : TA} {f m : Str} {D1 : EndD} {c : Addr}
theorem w_fld (h : W B0 ta E C fun x C1 => ∃ a, x = .ref a ∧ ∃ c gs, C1 a = some (.ins c gs) ∧ FldOk K c f ∧ ∃ d, gs.lookup f = some d ∧ P d C1) : W B0 (tFld K ta f) E C P := fun B F σ H sb rl re Q q =>
  h B F σ H sb rl re _ fun v d B1 C1 H1 e1 rl1 rp ⟨a, hd, c, gs, hc, ok, d', hl, p⟩ => by
    subst hd
    cases rp
    obtain ⟨dx, fs, h1, r⟩ := rel_ins rl1 hc
    obtain ⟨v', hv, rv⟩ := repF_look r hl
    exact ⟨a, c, dx, fs, v', rfl, h1, ok.cls, ok.no, hv, q _ _ B1 C1 H1 e1 rl1 rv p⟩
theorem ws_fldS (h : W B0 tv E C fun y C1 => W B0 ta E C1 fun x C2 => ∃ a, x = .ref a ∧ ∃ c gs, C2 a = some (.ins c gs) ∧ FldOk K c f ∧ gs.length < 1000 ∧ D1.nx E (updC C2 a (.ins c (putFD f y gs)))) : WS B0 (sFld K ta tv f) E C D1 := fun B F σ H sb rl re Dn ok =>
  h B F σ H sb rl re _ fun v y B1 C1 H1 e1 rl1 rp1 h2 => h2 B1 F σ H1 (sb.trans e1) rl1 (re.mono e1) _ fun u x B2 C2 H2 e2 rl2 rp2 ⟨a, hx, c, gs, hc, fo, hl, k⟩ => by
    subst hx
    cases rp2
    obtain ⟨dx, fs, h1, r⟩ := rel_ins rl2 hc
    refine ⟨a, c, dx, fs, rfl, h1, fo.cls, fo.no, by rw [repF_len r]; exact hl, ?_⟩
    exact ok.nx σ E B2 _ _ (e1.trans e2) (rl2.write hc (.ins (repF_put r (rp1.mono e2)))) (re.mono (e1.trans e2)) k
theorem ws_fldAug {rd : R2} (h : W B0 ta E C fun x C1 => ∃ a, x = .ref a ∧ ∃ c gs, C1 a = some (.ins c gs) ∧ FldOk K c f ∧ ∃ d, gs.lookup f = some d ∧ W B0 tv E C1 fun y C2 => WR B0 rd d y C2 fun z C3 =>
    ∃ gs', C3 a = some (.ins c gs') ∧ gs'.length < 1000 ∧ D1.nx E (updC C3 a (.ins c (putFD f z gs')))) : WS B0 (sFldAug K ta tv rd f) E C D1 := fun B F σ H sb rl re Dn ok =>
  h B F σ H sb rl re _ fun v x B1 C1 H1 e1 rl1 rp1 ⟨a, hx, c, gs, hc, fo, d, hl, h2⟩ => by
    subst hx
    cases rp1
    obtain ⟨dx, fs, h1, r⟩ := rel_ins rl1 hc
    obtain ⟨v', hv, rv⟩ := repF_look r hl
    refine ⟨a, c, dx, fs, v', rfl, h1, fo.cls, fo.no, hv, h2 B1 F σ H1 (sb.trans e1) rl1 (re.mono e1) _ fun w y B2 C2 H2 e2 rl2 rp2 h3 => ?_⟩
    refine h3 B2 F H2 v' w (sb.trans (e1.trans e2)) rl2 (rv.mono e2) rp2 _ fun z dz B3 C3 H3 e3 rl3 rp3 ⟨gs', hc', hl', k⟩ => ?_
    obtain ⟨dx', fs', h1', r'⟩ := rel_ins rl3 hc'
    exact ⟨dx', fs', h1', by rw [repF_len r']; exact hl', ok.nx σ E B3 _ _ ((e1.trans e2).trans e3) (rl3.write hc' (.ins (repF_put r' rp3))) (re.mono ((e1.trans e2).trans e3)) k⟩
theorem w_meth {g : SpD} {E' : XK} (h : W B0 ta E C fun x C1 => ∃ a, x = .ref a ∧ ∃ gs, C1 a = some (.ins c gs) ∧ gs.lookup m = none ∧ WA B0 t E C1 fun ds C2 => g (.ref a :: ds) C2 P) : W B0 (tMeth c m (spD g) [] E' ta t) E C P := fun B F σ H sb rl re Q q =>
  h B F σ H sb rl re _ fun v x B1 C1 H1 e1 rl1 rp1 ⟨a, hx, gs, hc, hl, h2⟩ => by
    subst hx
    cases rp1
    obtain ⟨dx, fs, h1, r⟩ := rel_ins rl1 hc
    refine ⟨a, dx, fs, rfl, h1, repF_none r hl, h2 B1 F σ H1 (sb.trans e1) rl1 (re.mono e1) _ fun vs ds B2 C2 H2 e2 rl2 rp2 p => ?_⟩
    exact ⟨B2, F, C2, _, P, rl2, by rw [List.append_nil]; exact .cons .ref rp2, p, fun v d B' C' H' e => q v d B' C' H' ((e1.trans e2).trans e)⟩
theorem w_make {g : SpD} {E' : XK} (h : WA B0 t E C fun ds C1 => ∀ a, C1 a = none → g (.ref a :: ds) (updC C1 a (.ins c [])) fun d C2 => d = .non ∧ P (.ref a) C2) : W B0 (tMake c (spD g) [] E' t) E C P := fun B F σ H sb rl re Q q =>
  h B F σ H sb rl re _ fun vs ds B1 C1 H1 e1 rl1 rp1 p x dx nx nd ne => by
    have rl2 : Rel B1 C1 F (upd H1 dx (.own x)) := ⟨fun b o e => by rw [upd_ne (ne_of_none (rl1.ex b o e) nd)]; exact rl1.ex b o e, fun b o e => by rw [upd_ne (ne_of_none (rl1.fr b o e) nd)]; exact rl1.fr b o e, rl1.bf, rl1.cf, rl1.bc, fun b c e => by
      obtain ⟨o, g1, g2⟩ := rl1.own b c e
      exact ⟨o, by rw [upd_ne (ne_of_none g1 nd)]; exact g1, g2⟩⟩
    have hx : upd H1 dx (.own x) x = none := by rw [upd_ne (Ne.symm ne)]; exact nx
    refine ⟨B1, F, _, _, _, rl2.newC hx (c := .ins c []) (.ins .nil), by rw [List.append_nil]; exact .cons .ref rp1, p x (rl1.noC nx), fun v d B' C' H' e rl' rp ⟨hd, k⟩ => ?_⟩
    subst hd
    cases rp
    exact ⟨rfl, q _ _ B' C' H' (e1.trans e) rl' .ref k⟩
end
section
variable {P : Program} {w : World} {K : PySem.W.Frag} {mg : Str → Option Value} {base : Heap}
/-- a method, as it stands -/
def MetAt (K : PySem.W.Frag) (mg : Str → Option Value) (cn m qual : Str) (st : Stmt) (ps : List Str) : Prop :=
  ∃ f fd, Fun K m qual st f fd ∧ Meth K (clsA mg cn) m f ∧ Binds K fd ps []
def IniAt (K : PySem.W.Frag) (mg : Str → Option Value) (cn qual : Str) (st : Stmt) (ps : List Str) : Prop :=
  ∃ f fd, Fun K "__init__" qual st f fd ∧ Mk K (clsA mg cn) f ∧ Binds K fd ps []
def HasM (P : Program) (w : World) (K : PySem.W.Frag) (mg : Str → Option Value) (base : Heap) (k : Nat) (cn m : Str) (ps : List Str) (sp : Sp) : Prop :=
  ∃ f fd, FnOk P w K mg base CX0 k f fd ps sp ∧ Meth K (clsA mg cn) m f ∧ Binds K fd ps []
def HasI (P : Program) (w : World) (K : PySem.W.Frag) (mg : Str → Option Value) (base : Heap) (k : Nat) (cn : Str) (ps : List Str) (sp : Sp) : Prop :=
  ∃ f fd, FnOk P w K mg base CX0 k f fd ps sp ∧ Mk K (clsA mg cn) f ∧ Binds K fd ps []
theorem HasM.mono {j k : Nat} {x m : Str} {ps : List Str} {sp : Sp} (h : HasM P w K mg base j x m ps sp) (l : j ≤ k) : HasM P w K mg base k x m ps sp := by
  obtain ⟨f, fd, a, b, c⟩ := h
  exact ⟨f, fd, a.mono l, b, c⟩
theorem HasI.mono {j k : Nat} {x : Str} {ps : List Str} {sp : Sp} (h : HasI P w K mg base j x ps sp) (l : j ≤ k) : HasI P w K mg base k x ps sp := by
  obtain ⟨f, fd, a, b, c⟩ := h
  exact ⟨f, fd, a.mono l, b, c⟩
theorem fn_ofD {x qual : Str} {st : Stmt} {N ps : List Str} {k : Nat} {g : SpD} {f : Addr} {fd : FuncData} (F : Fun K x qual st f fd) (S : FnScope N ps (defScope st)) (len : ∀ ds C P, g ds C P → ds.length = ps.length)
    (hbody : ∀ (f : Addr) (cdv : Value) (A : Around) (outer : List PySem.Env) (s : Shared) (H : Hp) (E : XK), Room k (A.deeper (PyProof.Rows.envOfC qual (defScope st) s.heap.objs.size f cdv)) →
      ∃ t, PSs (cxOf CX0 P w K mg base N qual (defScope st) f cdv A outer s H E).nox (defBody st) t ∧ ∀ (B : Gr) ds C PD, g ds C PD → WS B t (startD N.length ds) C { nx := fun _ C' => PD .non C', rt := PD }) :
    FnOk P w K mg base CX0 (k + 1) f fd ps (spD g) := by
  refine F.ok S ?_ ?_
  · rintro vs H Q E ⟨B, F, C, ds, P, _, rp, h, _⟩
    rw [rp.length]
    exact len _ _ _ h
  · intro cdv A outer s H vs Q E hr h
    obtain ⟨t, h1, h2⟩ := hbody f cdv A outer s H E hr
    obtain ⟨B, F, C, ds, P, rl, rp, hg, q⟩ := h
    refine ⟨t, h1, h2 ⟨B, F⟩ ds C P hg B F _ H (Sb.refl B F) rl (RelE.begin rp) _ ⟨?_, ?_, ?_, ?_⟩⟩
    · exact fun σ' E' B' C' H' e rl' _ p => q .non .non B' C' H' e rl' .non p
    · exact fun v d B' C' H' e rl' rp' p => q v d B' C' H' e rl' rp' p
    · exact fun _ _ _ _ _ _ _ _ z => z
    · exact fun _ _ _ _ _ _ _ _ z => z
theorem has_ofM {cn m qual : Str} {st : Stmt} {N ps : List Str} {k : Nat} {g : SpD} (Df : MetAt K mg cn m qual st ps) (S : FnScope N ps (defScope st)) (len : ∀ ds C P, g ds C P → ds.length = ps.length)
    (hbody : ∀ (f : Addr) (cdv : Value) (A : Around) (outer : List PySem.Env) (s : Shared) (H : Hp) (E : XK), Room k (A.deeper (PyProof.Rows.envOfC qual (defScope st) s.heap.objs.size f cdv)) →
      ∃ t, PSs (cxOf CX0 P w K mg base N qual (defScope st) f cdv A outer s H E).nox (defBody st) t ∧ ∀ (B : Gr) ds C PD, g ds C PD → WS B t (startD N.length ds) C { nx := fun _ C' => PD .non C', rt := PD }) :
    HasM P w K mg base (k + 1) cn m ps (spD g) := by
  obtain ⟨f, fd, F, hm, hb⟩ := Df
  exact ⟨f, fd, fn_ofD F S len hbody, hm, hb⟩
theorem has_ofI {cn qual : Str} {st : Stmt} {N ps : List Str} {k : Nat} {g : SpD} (Df : IniAt K mg cn qual st ps) (S : FnScope N ps (defScope st)) (len : ∀ ds C P, g ds C P → ds.length = ps.length)
    (hbody : ∀ (f : Addr) (cdv : Value) (A : Around) (outer : List PySem.Env) (s : Shared) (H : Hp) (E : XK), Room k (A.deeper (PyProof.Rows.envOfC qual (defScope st) s.heap.objs.size f cdv)) →
      ∃ t, PSs (cxOf CX0 P w K mg base N qual (defScope st) f cdv A outer s H E).nox (defBody st) t ∧ ∀ (B : Gr) ds C PD, g ds C PD → WS B t (startD N.length ds) C { nx := fun _ C' => PD .non C', rt := PD }) :
    HasI P w K mg base (k + 1) cn ps (spD g) := by
  obtain ⟨f, fd, F, hm, hb⟩ := Df
  exact ⟨f, fd, fn_ofD F S len hbody, hm, hb⟩
end
section
variable {X : Cx} {x cn m : Str} {ps : List Str} {sp : Sp} {k j : Nat} {p pos apos : Pos} {o e : Expr} {es : List Expr} {t : TA} {ta : TE} {pl : Sem Bool}
theorem pe_mt (mg : Str → Option Value) (h : HasM X.prog X.w X.K X.mg X.base k cn m ps sp) (kc : Cls X.K (clsA X.mg cn)) (hr : Room k X.A) (he : PE X o ta) (ha : PA X (e :: es) t) (hx : ∀ CXX, CXX = CX0 → Passes CXX X E0 := by intro _ h; subst h; exact pass0)
    (hst : starEach (e :: es) X.env = (false, eval e X.env) :: starEach es X.env := by rfl) (hpl : (backTo pos (starEach es X.env)).any (·.1) = false := by rfl)
    (ht : eval (.Call (.Attribute o m apos) (e :: es) [] pos) X.env = (do
      let ov ← eval o X.env
      standAt apos.atName
      let (f, first) ← holding [ov] (getMethod ov m pl)
      callWith pos f first (backTo pos (starEach (e :: es) X.env)) (backToKw pos (keywordEach [] X.env))) := by rfl) (hmg : X.mg = mg := by rfl) :
    PE X (.Call (.Attribute o m apos) (e :: es) [] pos) (tMeth (clsA mg cn) m sp [] E0 ta t) := by
  subst hmg
  obtain ⟨f, fd, F, hm, hb⟩ := h
  exact pe_meth he kc hm F hr hb .nil (hx _ rfl) ha hst hpl ht
theorem pe_mt0 (mg : Str → Option Value) (h : HasM X.prog X.w X.K X.mg X.base k cn m ps sp) (kc : Cls X.K (clsA X.mg cn)) (hr : Room k X.A) (he : PE X o ta) (hx : ∀ CXX, CXX = CX0 → Passes CXX X E0 := by intro _ h; subst h; exact pass0)
    (ht : eval (.Call (.Attribute o m apos) [] [] pos) X.env = (do
      let ov ← eval o X.env
      standAt apos.atName
      let (f, first) ← holding [ov] (getMethod ov m pl)
      callWith pos f first (backTo pos (starEach [] X.env)) (backToKw pos (keywordEach [] X.env))) := by rfl) (hmg : X.mg = mg := by rfl) :
    PE X (.Call (.Attribute o m apos) [] [] pos) (tMeth (clsA mg cn) m sp [] E0 ta tNil) := by
  subst hmg
  obtain ⟨f, fd, F, hm, hb⟩ := h
  exact pe_meth0 he kc hm F hr hb .nil (hx _ rfl) ht
theorem pe_mkI (mg : Str → Option Value) (h : HasI X.prog X.w X.K X.mg X.base k x ps sp) (kc : X.mg x = some (.ref (clsA X.mg x))) (hr : Room (k + 1) X.A) (ha : PA X (e :: es) t) (hg : Gl X x := by rfl) (hx : ∀ CXX, CXX = CX0 → Passes CXX X E0 := by intro _ h; subst h; exact pass0)
    (hdb : (x == ("__debug__" : Str)) = false := by decide) (he : starEach (e :: es) X.env = (false, eval e X.env) :: starEach es X.env := by rfl) (hpl : (backTo pos (starEach es X.env)).any (·.1) = false := by rfl) (hmg : X.mg = mg := by rfl) :
    PE X (.Call (.Name x p) (e :: es) [] pos) (tMake (clsA mg x) sp [] E0 t) := by
  subst hmg
  obtain ⟨f, fd, F, hm, hb⟩ := h
  exact pe_make hm F hr hg kc hb .nil (hx _ rfl) ha hdb he hpl
end
section
variable {X : Cx} {o e value : Expr} {f : Str} {pos pos' tpos : Pos} {ta tv : TE}
theorem pe_fldK (K : PySem.W.Frag) (he : PE X e ta) (hb : attributeBase e f X.env (eval e X.env) = eval e X.env) (h : X.K = K := by rfl) : PE X (.Attribute e f pos) (tFld K ta f) := by
  subst h
  exact pe_fld he hb
theorem ps_fldK (K : PySem.W.Frag) (ha : PE X o ta) (hv : PE X value tv) (hs : swapsWith value (some (.Attribute o f pos')) pos.line X.env = pure false) (h : X.K = K := by rfl) : PS X (.Assign [.Attribute o f pos'] value pos) (sFld K ta tv f) := by
  subst h
  exact ps_fld ha hv hs
theorem ps_fldaugK (K : PySem.W.Frag) {op : Operator} {rd : V → V → Hp → VK → Prop} (ha : PE X o ta) (hv : PE X value tv) (hop : InOp X op rd) (h : X.K = K := by rfl) : PS X (.AugAssign (.Attribute o f tpos) op value pos) (sFldAug K ta tv rd f) := by
  subst h
  exact ps_fldaug ha hv hop
end
theorem wr_inAdd {B0 : Gr} {C : CH} {P : D → CH → Prop} {i j : Int} (k : P (.int (i + j)) C) : WR B0 L2.rAdd (.int i) (.int j) C P := fun B F H vx vy _ rl h1 h2 Q q => by
  cases h1
  cases h2
  exact ⟨i, j, rfl, rfl, q _ _ B C H (Same.refl B) rl .int k⟩
theorem insAny {C : CH} {a c : Addr} {gs : List (Str × D)} (h : C a = some (.ins c gs)) : C a = some (.ins c gs) := h
theorem lookN {gs : List (Str × D)} {m : Str} (h : gs.lookup m = none) : gs.lookup m = none := h
end Dv

set_option maxRecDepth 100000
set_option maxHeartbeats 1000000
/-! Texts. -/
namespace Dv
open PySem PySem.Spec L2
def numS (i : Int) : Str := Str.ofString (toString i)
theorem log_small {i : Int} (h : i.natAbs ≤ 1000000) : i.natAbs.log2 < 1920 := by
  by_cases z : i.natAbs = 0
  · rw [z]
    decide
  · rw [Nat.log2_lt z]
    exact Nat.lt_of_le_of_lt h (by decide +kernel)
def rStrN : List V → Hp → VK → Prop := fun xs H Q => ∃ i, xs = [.int i] ∧ i.natAbs.log2 < 1920 ∧ Q (.str (numS i)) H
theorem call_strN {X : Cx} : CallR X (.type "str") rStrN := call_str_int
def tJoined (ts : List TE) : TE := fun σ H Q => tJs ts Str.empty σ H fun out H1 => Q (.str out) H1
theorem pe_joinedN {X : Cx} {v1 v2 : Expr} {rest : List Expr} {ts : List TE} {pos : Pos} (h : PJ X (v1 :: v2 :: rest) ts) : PE X (.JoinedStr (v1 :: v2 :: rest) pos) (tJoined ts) := pe_joined h
def rJoin (K : PySem.W.Frag) : V → List V → Hp → VK → Prop := fun x xs H Q => ∃ a p, ∃ ys : List Str, x = .str a ∧ xs = [.ref p] ∧ (SqL K H p (ys.map V.str) ∨ SqT K H p (ys.map V.str)) ∧
      (ys.map (·.length)).sum + ys.length * a.length ≤ 16777216 ∧ Q (.str (Txt.join a ys)) H
theorem pe_joinK {X : Cx} (K : PySem.W.Frag) {o e : Expr} {to te : TE} {apos pos : Pos} (ho : PE X o to) (he : PE X e te) (h : X.K = K := by rfl) (hs : starEach [e] X.env = [(false, eval e X.env)] := by rfl) (hbase : attributeBase o "join" X.env (eval o X.env) = eval o X.env := by rfl) (hline : (apos.endLine == pos.line) = true := by rfl) :
    PE X (.Call (.Attribute o "join" apos) [e] [] pos) (tM1 (rJoin K) to te) := by
  subst h
  exact pe_join ho he hs hbase hline
/-- a sign times a small number -/
def rRepC : R2 := fun x y H Q => ∃ (c : Nat) (n : Nat), x = .str ⟨#[c]⟩ ∧ y = .int (n : Nat) ∧ n ≤ 4 ∧ Q (.str ⟨(List.replicate n c).toArray⟩) H
theorem op_repC {X : Cx} : OpR X (binaryOp .Mult) rRepC := by
  intro pins s σ H x y v u Q I rx ry h
  obtain ⟨c, n, rfl, rfl, hn, q⟩ := h
  obtain ⟨t, rfl⟩ := rx
  obtain ⟨t', rfl⟩ := ry
  have fin : ∀ (z : Str) (tk : Nat), z = ⟨(List.replicate n c).toArray⟩ → ∀ t2, EP X pins σ Q (.str z t2) { s with toks := tk } := fun z tk e t2 => by
    subst e
    exact ⟨.str _, H, I.tok _, ⟨_, rfl⟩, q⟩
  have : n = 0 ∨ n = 1 ∨ n = 2 ∨ n = 3 ∨ n = 4 := by omega
  rcases this with rfl | rfl | rfl | rfl | rfl
  · exact PySem.P.mul_str (by decide) (fun h => absurd (by decide) h) (fun h => absurd (by decide) h) ⟨by decide, fin _ _ rfl _⟩
  · refine PySem.P.mul_str (by decide) (fun _ h => by cases h) (fun _ h => by cases h) ?_
    have e : EP X pins σ Q (.str ⟨#[c]⟩ t) s := ⟨.str _, H, I, ⟨_, rfl⟩, q⟩
    exact e
  · exact PySem.P.mul_str (by decide) (fun _ _ => by show ¬ ((1 : Int) > _); decide) (fun _ _ => by show Builtin.Str.tooLong 2 = false; decide) ⟨by show 2 ≤ sizeLine; decide, fin _ _ rfl _⟩
  · exact PySem.P.mul_str (by decide) (fun _ _ => by show ¬ ((1 : Int) > _); decide) (fun _ _ => by show Builtin.Str.tooLong 3 = false; decide) ⟨by show 3 ≤ sizeLine; decide, fin _ _ rfl _⟩
  · exact PySem.P.mul_str (by decide) (fun _ _ => by show ¬ ((1 : Int) > _); decide) (fun _ _ => by show Builtin.Str.tooLong 4 = false; decide) ⟨by show 4 ≤ sizeLine; decide, fin _ _ rfl _⟩
section
variable {B0 : Gr} {C : CH} {P : D → CH → Prop} {K : PySem.W.Frag} {E : EnvD} {te to : TE} {ts : List TE} {acc : Str} {i : Int}
theorem wc_strN (h : i.natAbs ≤ 1000000) (k : P (.str (numS i)) C) : WC B0 rStrN [.int i] C P := fun B F H vs _ rl r Q q => by
  cases r with
  | cons r1 r =>
    cases r; cases r1
    exact ⟨i, rfl, log_small h, q _ _ B C H (Same.refl B) rl .str k⟩
theorem w_fmtI (h : W B0 te E C fun x C1 => ∃ i, x = .int i ∧ i.natAbs ≤ 1000000 ∧ P (.str (numS i)) C1) : W B0 (tFmt te) E C P := fun B F σ H sb rl re Q q =>
  h B F σ H sb rl re _ fun v d B1 C1 H1 e1 rl1 rp ⟨i, hd, hi, p⟩ => by
    subst hd
    cases rp
    exact .inr ⟨i, rfl, log_small hi, q _ _ B1 C1 H1 e1 rl1 .str p⟩
def WJ (B0 : Gr) (ts : List TE) (acc : Str) (E : EnvD) (C : CH) (P : D → CH → Prop) : Prop :=
  ∀ (B F : Hp) (σ : St) (H : Hp), Sb B0 B F → Rel B C F H → RelE B σ E → ∀ Q : Str → Hp → Prop, (∀ z B' C' H', Same B B' → Rel B' C' F H' → P (.str z) C' → Q z H') → tJs ts acc σ H Q
theorem wj_nil (k : P (.str acc) C) : WJ B0 [] acc E C P := fun B F σ H _ rl _ Q q => q acc B C H (Same.refl B) rl k
theorem wj_cons {t : TE} (h : W B0 t E C fun x C1 => ∃ y, x = .str y ∧ (acc ++ y).length ≤ 1000000 ∧ WJ B0 ts (acc ++ y) E C1 P) : WJ B0 (t :: ts) acc E C P := fun B F σ H sb rl re Q q =>
  h B F σ H sb rl re _ fun v d B1 C1 H1 e1 rl1 rp ⟨y, hd, hl, k⟩ => by
    subst hd
    cases rp
    exact ⟨y, rfl, Nat.le_trans hl (by decide), k B1 F σ H1 (sb.trans e1) rl1 (re.mono e1) Q fun z B' C' H' s => q z B' C' H' (e1.trans s)⟩
theorem w_joined (h : WJ B0 ts Str.empty E C P) : W B0 (tJoined ts) E C P := fun B F σ H sb rl re Q q =>
  h B F σ H sb rl re _ fun z B' C' H' s rl' p => q _ _ B' C' H' s rl' .str p
theorem reps_strs {B : Hp} {vs : List V} {ys : List Str} (r : Reps B vs (ys.map D.str)) : vs = ys.map V.str := r.strs
theorem w_joinK (h : W B0 to E C fun x C1 => ∃ a, x = .str a ∧ W B0 te E C1 fun y C2 => ∃ ys, SeqD C2 y (ys.map D.str) ∧ (ys.map (·.length)).sum + ys.length * a.length ≤ 1000000 ∧ P (.str (Txt.join a ys)) C2) : W B0 (tM1 (rJoin K) to te) E C P := fun B F σ H sb rl re Q q =>
  h B F σ H sb rl re _ fun v d B1 C1 H1 e1 rl1 rp ⟨a, hd, h2⟩ => by
    subst hd
    cases rp
    refine ⟨⟨a, rfl⟩, h2 B1 F σ H1 (sb.trans e1) rl1 (re.mono e1) _ fun u y B2 C2 H2 e2 rl2 rp2 ⟨ys, hy, hl, k⟩ => ?_⟩
    obtain ⟨p, vs, rfl, hs, r⟩ := seqD_rd (K := K) rl2 rp2 hy
    have e := reps_strs r
    subst e
    exact ⟨a, p, ys, rfl, rfl, hs, Nat.le_trans hl (by decide), q _ _ B2 C2 H2 (e1.trans e2) rl2 .str k⟩
theorem wr_repC {c n : Nat} (h : n ≤ 4) (k : P (.str ⟨(List.replicate n c).toArray⟩) C) : WR B0 rRepC (.str ⟨#[c]⟩) (.int (n : Nat)) C P := fun B F H vx vy _ rl h1 h2 Q q => by
  cases h1
  cases h2
  exact ⟨c, n, rfl, rfl, h, q _ _ B C H (Same.refl B) rl .str k⟩
theorem wr_ninS {z : Str} {c : Nat} (k : P (.bl (!decide (c ∈ z.cps.toList))) C) : WR B0 (rInU K true) (.str ⟨#[c]⟩) (.str z) C P := wr_ninC k
end
end Dv

set_option maxRecDepth 100000
set_option maxHeartbeats 1000000
/-! Lambdas that capture names, handed to defs. -/
namespace Dv
open PySem PySem.Spec PyProof.Rows L2
/-! ### objects that are told to stay as they are, for the time of a call -/
def withP (S : Addr → Option Obj) (H : Hp) : Hp := fun b => match S b with
  | some o => some (PinO b o)
  | none => H b
def lessP (S : Addr → Option Obj) (H : Hp) : Hp := fun b => match S b with
  | some _ => none
  | none => H b
theorem withP_some {S : Addr → Option Obj} {H : Hp} {b : Addr} {o : Obj} (h : S b = some o) : withP S H b = some (PinO b o) := by unfold withP; rw [h]
theorem withP_none {S : Addr → Option Obj} {H : Hp} {b : Addr} (h : S b = none) : withP S H b = H b := by unfold withP; rw [h]
theorem lessP_some {S : Addr → Option Obj} {H : Hp} {b : Addr} {o : Obj} (h : S b = some o) : lessP S H b = none := by unfold lessP; rw [h]
theorem lessP_none {S : Addr → Option Obj} {H : Hp} {b : Addr} (h : S b = none) : lessP S H b = H b := by unfold lessP; rw [h]
theorem pin_own {b a : Addr} {o : Obj} : PinO b o ≠ .own a := fun z => by unfold PinO at z; cases z
theorem pin_tup {b : Addr} {o : Obj} {xs : List V} : PinO b o ≠ .tup xs := fun z => by unfold PinO at z; cases z
theorem pin_lst {b : Addr} {o : Obj} {xs : List V} : PinO b o ≠ .lst xs := fun z => by unfold PinO at z; cases z
theorem pin_dK {b : Addr} {o : Obj} {xs : List (Key × V)} : PinO b o ≠ .dK xs := fun z => by unfold PinO at z; cases z
theorem pin_frz {b : Addr} {o o' : Obj} {u : HO} : PinO b o ≠ .frz o' u := fun z => by unfold PinO at z; cases z
theorem pin_tbl {b : Addr} {o : Obj} {ps : Array Value} : PinO b o ≠ .tbl ps := fun z => by unfold PinO at z; cases z
theorem pin_ok {P : Program} {w : World} {H : Hp} {h : Heap} {b : Addr} {o : Obj} (e : h.get? b = some o) : ObjOk P w H h b (PinO b o) := ⟨e, ⟨o, e⟩, fun _ _ p st => st o p⟩
theorem pin_at {P : Program} {w : World} {H : Hp} {h : Heap} {b : Addr} {o : Obj} (x : HOk P w H h) (e : H b = some (PinO b o)) : h.get? b = some o := (x b _ e).1
section
variable {P : Program} {w : World} {K : PySem.W.Frag} {mg : Str → Option Value} {base : Heap} {A : Around} {outer : List PySem.Env} {s s' : Shared} {H H' : Hp} {h h' : Heap} {S : Addr → Option Obj} {Q : VK} {u : Value}
/-- S can be told of -/
structure CanP (S : Addr → Option Obj) (base : Heap) (outer : List PySem.Env) (H : Hp) (h : Heap) : Prop where
  at_ : ∀ b o, S b = some o → h.get? b = some o
  no : ∀ b o, S b = some o → H b = none
  fr : ∀ b o, S b = some o → b ∉ frs outer
  bs : ∀ b o, S b = some o → base.get? b = none
theorem hok_with (x : HOk P w H h) (c1 : ∀ b o, S b = some o → h.get? b = some o) (c2 : ∀ b o, S b = some o → H b = none) : HOk P w (withP S H) h := fun b u e => by
  cases hs : S b with
  | some o =>
    rw [withP_some hs] at e
    cases e
    exact pin_ok (c1 b o hs)
  | none =>
    rw [withP_none hs] at e
    have keep : ∀ c v, H c = some v → withP S H c = some v := fun c v q => by
      cases hc : S c with
      | some o => rw [c2 c o hc] at q; cases q
      | none => rw [withP_none hc]; exact q
    exact (x b u e).stay (fun _ _ _ q => q) (fun c q => keep c _ q) fun c xs q => keep c _ q
theorem hok_less (x : HOk P w H h) (c : ∀ b o, S b = some o → H b = some (PinO b o)) : HOk P w (lessP S H) h := fun b u e => by
  cases hs : S b with
  | some o => rw [lessP_some hs] at e; cases e
  | none =>
    rw [lessP_none hs] at e
    refine (x b u e).stay (fun _ _ _ q => q) (fun d q => ?_) fun d xs q => ?_
    · cases hd : S d with
      | some o => rw [c d o hd] at q; exact absurd (Option.some.inj q) pin_own
      | none => rw [lessP_none hd]; exact q
    · cases hd : S d with
      | some o => rw [c d o hd] at q; exact absurd (Option.some.inj q) pin_tup
      | none => rw [lessP_none hd]; exact q
theorem env0_with (e : Env0 P w K mg base A outer s H) (c : CanP S base outer H s.heap) : Env0 P w K mg base A outer s (withP S H) where
  frames := e.frames
  mod := e.mod
  bs := fun b o q => by
    refine ⟨(e.bs b o q).1, ?_⟩
    cases hs : S b with
    | some o' => rw [c.bs b o' hs] at q; cases q
    | none => rw [withP_none hs]; exact (e.bs b o q).2
  bsz := e.bsz
  funs := e.funs
  frf := fun b hb => by
    cases hs : S b with
    | some o' => exact absurd hb (c.fr b o' hs)
    | none => rw [withP_none hs]; exact e.frf b hb
  hok := hok_with e.hok c.at_ c.no
  bare := e.bare
theorem env0_less (e : Env0 P w K mg base A outer s H) (c : ∀ b o, S b = some o → H b = some (PinO b o)) : Env0 P w K mg base A outer s (lessP S H) where
  frames := e.frames
  mod := e.mod
  bs := fun b o q => by
    refine ⟨(e.bs b o q).1, ?_⟩
    cases hs : S b with
    | some o' => exact lessP_some hs
    | none => rw [lessP_none hs]; exact (e.bs b o q).2
  bsz := e.bsz
  funs := e.funs
  frf := fun b hb => by
    cases hs : S b with
    | some o' => exact lessP_some hs
    | none => rw [lessP_none hs]; exact e.frf b hb
  hok := hok_less e.hok c
  bare := e.bare
/-- behind a call for which S was told of -/
theorem ce_less (c : CanP S base outer H s.heap) (x : CE outer P w (withP S H) s (fun v H' => (∀ b o, S b = some o → H' b = some (PinO b o)) ∧ Q v (lessP S H')) u s') : CE outer P w H s Q u s' := by
  obtain ⟨v, H', h1, h2, un, ok, rv, hp, q⟩ := x
  refine ⟨v, lessP S H', h1, h2, ⟨fun b o e n hf hx => ?_, fun b o e n hf hx => ?_, fun b o e n hx => ?_, fun b o e hx => un.there b o e hx, fun b xs e => ?_, fun b o u e => ?_, fun b ps e => ?_⟩, hok_less ok hp, rv, q⟩
  · cases hs : S b with
    | some o' =>
      have e2 := c.at_ b o' hs
      rw [e] at e2
      cases e2
      exact pin_at ok (hp b o hs)
    | none => exact un.keep b o e (by rw [withP_none hs]; exact n) hf hx
  · cases hs : S b with
    | some o' => exact absurd hf (c.fr b o' hs)
    | none => exact un.slot b o e (by rw [withP_none hs]; exact n) hf hx
  · cases hs : S b with
    | some o' => exact lessP_some hs
    | none => rw [lessP_none hs]; exact un.free b o e (by rw [withP_none hs]; exact n) hx
  · cases hs : S b with
    | some o' => rw [c.no b o' hs] at e; cases e
    | none => rw [lessP_none hs]; exact un.tups b xs (by rw [withP_none hs]; exact e)
  · cases hs : S b with
    | some o' => rw [c.no b o' hs] at e; cases e
    | none => rw [lessP_none hs]; exact un.frzs b o u (by rw [withP_none hs]; exact e)
  · cases hs : S b with
    | some o' => rw [c.no b o' hs] at e; cases e
    | none => rw [lessP_none hs]; exact un.tbls b ps (by rw [withP_none hs]; exact e)
/-- behind a call for which S was not told of -/
theorem ce_with (e0 : Env0 P w K mg base A outer s H) (c : ∀ b o, S b = some o → H b = some (PinO b o)) (x : CE outer P w (lessP S H) s (fun v H' => (∀ b o, S b = some o → H' b = none) → Q v (withP S H')) u s') : CE outer P w H s Q u s' := by
  obtain ⟨v, H', h1, h2, un, ok, rv, q⟩ := x
  have hat : ∀ b o, S b = some o → s.heap.get? b = some o := fun b o hs => pin_at e0.hok (c b o hs)
  have nfr : ∀ b o, S b = some o → b ∉ frs outer := fun b o hs hf => by
    have z := c b o hs
    rw [e0.frf b hf] at z
    cases z
  have hat' : ∀ b o, S b = some o → s'.heap.get? b = some o := fun b o hs => un.keep b o (hat b o hs) (lessP_some hs) (nfr b o hs) (by simp)
  have hno' : ∀ b o, S b = some o → H' b = none := fun b o hs => un.free b o (hat b o hs) (lessP_some hs) (by simp)
  refine ⟨v, withP S H', h1, h2, ⟨fun b o e n hf hx => ?_, fun b o e n hf hx => ?_, fun b o e n hx => ?_, fun b o e hx => un.there b o e hx, fun b xs e => ?_, fun b o u e => ?_, fun b ps e => ?_⟩, hok_with ok hat' hno', rv, q hno'⟩
  · cases hs : S b with
    | some o' => rw [c b o' hs] at n; cases n
    | none => exact un.keep b o e (by rw [lessP_none hs]; exact n) hf hx
  · cases hs : S b with
    | some o' => rw [c b o' hs] at n; cases n
    | none => exact un.slot b o e (by rw [lessP_none hs]; exact n) hf hx
  · cases hs : S b with
    | some o' => rw [c b o' hs] at n; cases n
    | none => rw [withP_none hs]; exact un.free b o e (by rw [lessP_none hs]; exact n) hx
  · cases hs : S b with
    | some o' => rw [c b o' hs] at e; exact absurd (Option.some.inj e) pin_tup
    | none => rw [withP_none hs]; exact un.tups b xs (by rw [lessP_none hs]; exact e)
  · cases hs : S b with
    | some o' => rw [c b o' hs] at e; exact absurd (Option.some.inj e) pin_frz
    | none => rw [withP_none hs]; exact un.frzs b o u (by rw [lessP_none hs]; exact e)
  · cases hs : S b with
    | some o' => rw [c b o' hs] at e; exact absurd (Option.some.inj e) pin_tbl
    | none => rw [withP_none hs]; exact un.tbls b ps (by rw [lessP_none hs]; exact e)
end
/-! ### the making of a lambda -/
def TabOk (H : Hp) (ps : Array Value) (q : Str) : Prop := TriplesOk ps.toList ∧ ∀ (pos : Pos) (cv : Value), codeAmong pos ps.toList = some cv → ∃ c, cv = .ref c ∧ H c = some (LamX.CodeO c q)
theorem TabOk.grown {H H1 : Hp} {ps : Array Value} {q : Str} {c : Addr} {pos : Pos} (h : TabOk H ps q) (k : ∀ b o, H b = some (LamX.CodeO b o) → H1 b = some (LamX.CodeO b o)) (hc : H1 c = some (LamX.CodeO c q)) : TabOk H1 (ps ++ #[rawInt pos.line, rawInt pos.col, .ref c]) q := by
  have e : (ps ++ #[rawInt pos.line, rawInt pos.col, .ref c]).toList = ps.toList ++ [rawInt pos.line, rawInt pos.col, .ref c] := by simp
  refine ⟨by rw [e]; exact PySem.TriplesOk_snoc _ _ _ _ h.1, fun p cv hcv => ?_⟩
  rw [e] at hcv
  rcases LamX.among_app _ h.1 hcv with z | z
  · obtain ⟨c0, e1, e2⟩ := h.2 p cv z
    exact ⟨c0, e1, k _ _ e2⟩
  · exact ⟨c, z, hc⟩
section
variable {X : Cx} {pins : List (Addr × Obj)} {σ : L2.St} {H : Hp} {s : Shared}
theorem lam_mk {cd Pt : Addr} {ps : Array Value} {q : Str} {params : Arguments} {body : Expr} {scope : Scope} {pos : Pos} {E : Value → Shared → Prop} {Q : Value → Shared → Prop} (I : Inv X pins σ H s) (TB : LamX.TabB X.base X.mg cd Pt) (hcode : X.env.code = .ref cd)
    (hq : X.env.qual ++ "<lambda>" = q) (hP : H Pt = some (.tbl ps)) (hT : TabOk H ps q) (hdef : defaultsOf params X.env = ([], [])) (hfree : ∀ y ∈ scope.names, y.2 = .free → ∃ c, X.env.cells.lookup y.1 = some c)
    (h : ∀ (f c : Addr) (pm ctv : Value) (ps' : Array Value) (H1 : Hp) (s' : Shared), Inv X pins σ H1 s' → (∀ b u, H b = some u → b ≠ Pt → H1 b = some u) → H1 Pt = some (.tbl ps') → TriplesOk ps'.toList → (∀ (p : Pos) (cv : Value), codeAmong p ps'.toList = some cv → codeAmong p ps.toList = some cv ∨ cv = .ref c) → (H c = none ∨ ∃ p, codeAmong p ps.toList = some (.ref c)) → H1 c = some (LamX.CodeO c q) → c ≠ Pt →
      s'.heap.get? f = some (PySem.W.kla_obj "<lambda>" q params body scope (cloFrom X.env.cells scope.names []) pm c ctv) → H1 f = none → f ∉ frs X.stack → X.base.get? f = none → Q (.ref f) s') :
    wpAny (model X.prog X.w) X.A (eval (.Lambda params body scope pos) X.env) Q E s := by
  subst hq
  have hb := TB.bm.keeps I.bk
  have hPh : s.heap.get? Pt = some { cls := .none, data := .fields ps } := I.hok Pt _ hP
  have hout : ∀ f, s.heap.objs.size ≤ f → f ∉ frs X.stack ∧ X.base.get? f = none := fun f hf => by
    refine ⟨fun z => ?_, ?_⟩
    · rcases List.mem_cons.mp (I.stkSub _ z) with e | e
      · have h1 := I.lt
        rw [← e] at h1
        exact absurd (Nat.lt_of_lt_of_le h1 hf) (Nat.lt_irrefl _)
      · exact I.nofs hf e
    · cases e : X.base.get? f with
      | none => rfl
      | some o =>
        exact absurd (Nat.lt_of_lt_of_le (Heap.lt_size (I.bk f o e)) hf) (Nat.lt_irrefl _)
  refine PySem.W.kla_eval hdef ?_
  cases hc : codeAmong pos ps.toList with
  | some cv =>
    obtain ⟨c, e, hco⟩ := hT.2 pos cv hc
    subst e
    refine PySem.W.kla_makeFunctionHit (mg := X.mg) (c := cd) (P := Pt) (ps := ps) (closure_ok hfree) I.ok.glob (I.mod.glob.keeps I.bk) hcode (TB.code.keeps I.bk) hPh hT.1 hc hb fun ctv h' tk hx hsz => ?_
    obtain ⟨o1, o2⟩ := hout _ hsz
    have ncP : c ≠ Pt := fun z => by
      rw [z, hP] at hco
      unfold LamX.CodeO at hco
      cases hco
    exact h h'.objs.size c ((X.mg "__name__").getD .none) ctv ps H _ (I.kept fun b o e => Heap.get?_push_of_some _ (hx b o e)) (fun b u e _ => e) hP hT.1 (fun _ _ z => .inl z) (.inr ⟨pos, hc⟩) hco ncP (Heap.get?_push_size _ rfl) (I.hok.fresh hsz) o1 o2
  | none =>
    refine PySem.W.kla_makeFunction (mg := X.mg) (c := cd) (P := Pt) (ps := ps) (closure_ok hfree) I.ok.glob (I.mod.glob.keeps I.bk) hcode (TB.code.keeps I.bk) hPh hT.1 hc TB.gP hb fun c ctv h' tk hx hge hlt hrec htb => ?_
    obtain ⟨c2, oc, vs, t, e2, hoc, hd, hv⟩ := hrec
    cases e2
    have hsz : s.heap.objs.size ≤ h'.objs.size := Nat.le_trans hge (Nat.le_of_lt hlt)
    have nC : H c = none := I.hok.fresh hge
    have ncP : c ≠ Pt := fun z => by rw [z, hP] at nC; cases nC
    obtain ⟨o1, o2⟩ := hout _ hsz
    have I1 := LamX.inv_table (t' := tk) (more := #[rawInt pos.line, rawInt pos.col, .ref c]) (h' := h'.push (PySem.W.kla_obj "<lambda>" (X.env.qual ++ "<lambda>") params body scope (cloFrom X.env.cells scope.names []) ((X.mg "__name__").getD .none) c ctv)) I hP
      (fun b o hb e => Heap.get?_push_of_some _ (hx b o hb e)) (Heap.get?_push_of_some _ htb) hge ⟨oc, vs, t, Heap.get?_push_of_some _ hoc, hd, hv⟩
    have hPlt := Nat.lt_of_lt_of_le (Heap.lt_size hPh) hsz
    have nf : h'.objs.size ≠ c ∧ h'.objs.size ≠ Pt := ⟨Nat.ne_of_gt hlt, Nat.ne_of_gt hPlt⟩
    have eL : (ps ++ #[rawInt pos.line, rawInt pos.col, .ref c]).toList = ps.toList ++ [rawInt pos.line, rawInt pos.col, .ref c] := by simp
    refine h h'.objs.size c ((X.mg "__name__").getD .none) ctv _ _ _ I1 (fun b u e n => ?_) (by rw [upd_ne (Ne.symm ncP), upd_same]) (by rw [eL]; exact PySem.TriplesOk_snoc _ _ _ _ hT.1) (fun p cv hcv => by rw [eL] at hcv; exact LamX.among_app _ hT.1 hcv) (.inl nC) upd_same ncP (Heap.get?_push_size _ rfl) (by rw [upd_ne nf.1, upd_ne nf.2]; exact I.hok.fresh hsz) o1 o2
    rw [upd_ne (ne_of_none e nC), upd_ne n]
    exact e
end
/-! ### f(e1, e2, lambda ..: ..): the def f is called with a new function -/
def tCallLam (Pt : Addr) (L : LamT) (js : List Nat) (sp : Sp) (t1 t2 : TE) : TE := fun σ H Q => t1 σ H fun v1 H1 => t2 σ H1 fun v2 H2 => ∃ ps, H2 Pt = some (.tbl ps) ∧ TabOk H2 ps L.qual ∧
  ∃ caps : List V, caps.length = L.fr.length ∧ js.length = L.fr.length ∧ (∀ (i j : Nat) (v : V), js[i]? = some j → caps[i]? = some v → σ[j]? = some (some v)) ∧
    ∀ (f c : Addr) (S : Addr → Option Obj) (ps' : Array Value) (H3 : Hp), (∀ b u, H2 b = some u → b ≠ Pt → H3 b = some u) → H3 Pt = some (.tbl ps') → TriplesOk ps'.toList → (∀ (p : Pos) (cv : Value), codeAmong p ps'.toList = some cv → codeAmong p ps.toList = some cv ∨ cv = .ref c) →
      (H2 c = none ∨ ∃ p, codeAmong p ps.toList = some (.ref c)) → H3 c = some (LamX.CodeO c L.qual) → c ≠ Pt → (∀ b o, S b = some o → H3 b = none) → (∀ Bx : Hp, Bx c = some (LamX.CodeO c L.qual) → FnAt (withP S Bx) f L caps) →
      sp [v1, v2, .ref f] (withP S H3) (fun v H4 => (∀ b o, S b = some o → H4 b = some (PinO b o)) ∧ Q v (lessP S H4)) E0
section
variable {X : Cx} {x : Str} {ps : List Str} {sp : Sp} {k : Nat} {p pos lpos : Pos} {e1 e2 : Expr} {t1 t2 : TE} {params : Arguments} {body : Expr} {scope : Scope} {fr : List Str} {js : List Nat} {cd Pt : Addr} {L : LamT}
theorem pe_callLam (h : Has X.prog X.w X.K X.mg X.base k x ps sp) (hr : Room k X.A) (h1 : PE X e1 t1) (h2 : PE X e2 t2) (TB : LamX.TabB X.base X.mg cd Pt) (hcode : X.env.code = .ref cd)
    (hL : L = ⟨X.env.qual ++ "<lambda>", params, body, scope, fr⟩) (hdef : defaultsOf params X.env = ([], [])) (hfr : ∀ y ∈ scope.names, y.2 = .free → X.env.scope.names.lookup y.1 = some .cell)
    (hcap : ∀ (i : Nat) (y : Str), fr[i]? = some y → (y, NameKind.free) ∈ scope.names ∧ ∃ j, js[i]? = some j ∧ X.N[j]? = some y) (hfn : ∀ y, X.fn y = true) (hex : X.ex = []) (hg : Gl X x := by rfl) (hdb : (x == ("__debug__" : Str)) = false := by decide)
    (hx : ∀ CXX, CXX = CX0 → Passes CXX X E0 := by intro _ h; subst h; exact pass0)
    (hs : starEach [e1, e2, .Lambda params body scope lpos] X.env = (false, eval e1 X.env) :: starEach [e2, .Lambda params body scope lpos] X.env := by rfl)
    (hs2 : starEach [e2, .Lambda params body scope lpos] X.env = [(false, eval e2 X.env), (false, eval (.Lambda params body scope lpos) X.env)] := by rfl) :
    PE X (.Call (.Name x p) [e1, e2, .Lambda params body scope lpos] [] pos) (tCallLam Pt L js sp t1 t2) := by
  obtain ⟨g, fd, F, hm, hk, hb⟩ := h
  refine ⟨fun pins s σ H Q I ht => ?_⟩
  refine wpAny_Call_Name_kw (ld_glob I hg hm ?_ hdb)
  refine PySem.W.callWith_K (h₀ := X.base) I.ok.mod.kin hk ?_ hs (by rw [hs2]; rfl)
  rw [hs, hs2]
  show wpAny _ _ (spliced [(false, eval e1 X.env), (false, eval e2 X.env), (false, eval (.Lambda params body scope lpos) X.env)]) _ _ s
  refine Calls.spliced_cons (thn (h1.run pins s σ H _ I ht) fun u1 s1 ⟨v1, H1, I1, r1, ht1⟩ => ?_)
  refine Calls.spliced_cons (thn (h2.run pins s1 σ H1 _ I1 ht1) fun u2 s2 ⟨v2, H2, I2, r2, tab, hP, hT, caps, hcl, hjl, hcv, hsp⟩ => ?_)
  have hfree : ∀ y ∈ scope.names, y.2 = .free → ∃ c, X.env.cells.lookup y.1 = some c := fun y hy e => I2.ok.has _ (.inl (hfr y hy e))
  have hq : X.env.qual ++ "<lambda>" = L.qual := by rw [hL]
  refine Calls.spliced_cons (lam_mk I2 TB hcode hq hP hT hdef hfree fun f c pm ctv tab' H3 s3 I3 k3 hP3 hT3 hU3 hC3 hc3 ncP hf nf nfr nb => ?_)
  refine Calls.spliced_nil ⟨I3.kIn, ?_⟩
  show wpAny _ _ (call (.ref g) [u1, u2, .ref f]) _ _ _
  classical
  let S : Addr → Option Obj := fun b => if b = f ∨ ∃ y, (cloFrom X.env.cells scope.names []).lookup y = some b then s3.heap.get? b else none
  have Sf : S f = s3.heap.get? f := if_pos (.inl rfl)
  have Sc : ∀ y d, (cloFrom X.env.cells scope.names []).lookup y = some d → S d = s3.heap.get? d := fun y d hd => if_pos (.inr ⟨y, hd⟩)
  have Sin : ∀ b o, S b = some o → (b = f ∨ ∃ y, (cloFrom X.env.cells scope.names []).lookup y = some b) ∧ s3.heap.get? b = some o := fun b o hs => by
    by_cases z : b = f ∨ ∃ y, (cloFrom X.env.cells scope.names []).lookup y = some b
    · exact ⟨z, by rw [← hs]; exact (if_pos z).symm⟩
    · have e : S b = none := if_neg z
      rw [e] at hs
      cases hs
  have cm : ∀ {y d}, (cloFrom X.env.cells scope.names []).lookup y = some d → X.env.cells.lookup y = some d := fun {y d} e => NdefX.clo_cm hfree e
  have no : ∀ b o, S b = some o → H3 b = none := fun b o hs => by
    obtain ⟨z | ⟨y, z⟩, _⟩ := Sin b o hs
    · rw [z]; exact nf
    · exact I3.freeC y b (cm z)
  have dcell : ∀ {y d}, (cloFrom X.env.cells scope.names []).lookup y = some d → X.s_0.heap.objs.size ≤ d := fun {y d} e => I3.ok.cab y d (hfn y) (cm e)
  have can : CanP S X.base X.stack H3 s3.heap := by
    refine ⟨fun b o hs => (Sin b o hs).2, no, fun b o hs => ?_, fun b o hs => ?_⟩
    · obtain ⟨z | ⟨y, z⟩, hg⟩ := Sin b o hs
      · rw [z]; exact nfr
      · intro hm
        rcases List.mem_cons.mp (I3.stkSub _ hm) with e | e
        · obtain ⟨v, oc, hoc, hd⟩ := I3.cell y b (cm z)
          obtain ⟨m, hns, _⟩ := I3.loc
          obtain ⟨on, es, ep, hon, hdn, _⟩ := hns
          rw [e, hon] at hoc
          cases hoc
          rw [hdn] at hd
          cases hd
        · obtain ⟨_, o', ho', _⟩ := I3.ok.funs.mem e
          exact absurd (Nat.lt_of_lt_of_le (Heap.lt_size ho') (dcell z)) (Nat.lt_irrefl _)
    · obtain ⟨z | ⟨y, z⟩, hg⟩ := Sin b o hs
      · rw [z]; exact nb
      · cases e : X.base.get? b with
        | none => rfl
        | some o' => exact absurd (Nat.lt_of_lt_of_le (Heap.lt_size (I3.ok.bs b o' e).1) (dcell z)) (Nat.lt_irrefl _)
  have fat : ∀ Bx : Hp, Bx c = some (LamX.CodeO c L.qual) → FnAt (withP S Bx) f L caps := fun Bx hBx => by
    have Sn : S c = none := by
      cases e : S c with
      | none => rfl
      | some o => rw [no c o e] at hc3; cases hc3
    subst hL
    refine ⟨cloFrom X.env.cells scope.names [], pm, ctv, c, withP_some (by rw [Sf]; exact hf), by rw [withP_none Sn]; exact hBx, hcl, fun y d hd => ?_, fun y z d e1 e2 => I3.ok.inj y z d (cm e1) (cm e2), fun i y hy => ?_⟩
    · obtain ⟨v, oc, hoc, hdat⟩ := I3.cell y d (cm hd)
      exact ⟨oc, v, withP_some (by rw [Sc y d hd]; exact hoc), hdat⟩
    · obtain ⟨hy1, j, hj, hN⟩ := hcap i y hy
      have hkind := hfr _ hy1 rfl
      obtain ⟨d, hd⟩ := hfree _ hy1 rfl
      have hd : X.env.cells.lookup y = some d := hd
      have hi : i < caps.length := by
        have hlt := (List.getElem?_eq_some_iff.mp hy).1
        exact Nat.lt_of_lt_of_le hlt (Nat.le_of_eq hcl.symm)
      have hv := hcv i j caps[i] hj (List.getElem?_eq_getElem hi)
      obtain ⟨m, _, hl⟩ := I3.loc
      obtain ⟨u, ru, look⟩ := hl j y caps[i] hN hv (.inr (.inl hkind))
      have hcl2 := NdefX.clo_has hfree hy1 hd
      rcases look with ⟨hloc, _⟩ | ⟨_, d2, hd2, oc, hoc, hdat⟩
      · have hloc : X.env.scope.names.lookup y = some .local := hloc
        rw [hkind] at hloc
        cases hloc
      · rw [hd] at hd2
        cases hd2
        exact ⟨d, oc, caps[i], u, hcl2, withP_some (by rw [Sc y d hcl2]; exact hoc), hdat, List.getElem?_eq_getElem hi, ru⟩
  have q := hsp f c S tab' H3 k3 hP3 hT3 hU3 hC3 hc3 ncP no fat
  have r : Vals [v1, v2, V.ref f] [u1, u2, Value.ref f] := .cons r1 (.cons r2 (.cons rfl .nil))
  have hl : ([u1, u2, Value.ref f] : List Value).length = ps.length := by rw [← r.length]; exact F.len _ _ _ _ q
  have bnd := hb s3 [u1, u2, .ref f] I3.kIn (by rw [List.append_nil]; exact hl)
  rw [List.append_nil] at bnd
  refine wpAny_call (codeAny_mono (F.run X.A X.stack s3 (withP S H3) ⟨[u1, u2, .ref f], []⟩ [u1, u2, .ref f] _ _ E0 hr (env0_with I3.env0 can) bnd r q) fun r' s' hq' => ?_)
  cases r' with
  | error e => exact False.elim hq'
  | ok fl =>
    cases fl with
    | ret u => exact I3.after (ce_less can hq')
    | next => exact False.elim hq'
    | brk => exact False.elim hq'
    | cont => exact False.elim hq'
end
/-! ### g(e), g a name that holds such a function -/
def tCallFn (L : LamT) (N : List Str) (i : Nat) (tb t1 : TE) : TE := fun σ H Q => ∃ f, σ[i]? = some (some (.ref f)) ∧ (∃ caps, FnAt H f L caps) ∧ t1 σ H fun v H1 => ∃ caps, FnAt H1 f L caps ∧
  ∀ S : Addr → Option Obj, (∀ b o, S b = some o → H1 b = some (PinO b o)) → tb (NdefX.startF N [v] (caps.map some)) (lessP S H1) fun u H2 => (∀ b o, S b = some o → H2 b = none) → Q u (withP S H2)
theorem fn_heap {P : Program} {w : World} {H : Hp} {h : Heap} {f : Addr} {L : LamT} {caps : List V} (ok : HOk P w H h) (x : FnAt H f L caps) : PySem.W.FnAt f h := by
  obtain ⟨cl, pm, ctv, c, h1, _⟩ := x.ex
  have ho := pin_at ok h1
  exact ⟨_, _, _, _, ho⟩
section
variable {X : Cx} {x p : Str} {k i : Nat} {p1 pos : Pos} {e : Expr} {t1 tb : TE} {L : LamT} {N : List Str}
theorem pe_callFn (hN : X.N[i]? = some x) (hv : Vis X.env.scope x) (he : PE X e t1) (hr : Room (k + 1) X.A) (S : NdefX.NScope N [p] L.fr L.scope)
    (hbind : ∀ (cl : List (Str × Addr)) (pm cv ctv u : Value), bindArgs (PySem.W.kla_fn "<lambda>" L.qual L.params L.body L.scope cl pm cv ctv) ⟨[u], []⟩ = pure [(p, u)])
    (hbody : ∀ (A : Around) (outer : List PySem.Env) (s : Shared) (H : Hp) (f : Addr) (F : NdefX.NF), F.qual = L.qual → F.scope = L.scope → Room k (A.deeper (NdefX.envF F f s.heap.objs.size)) → PE (NdefX.ncx CX0 X.prog X.w X.K X.mg X.base N F f A outer s H E0) L.body tb)
    (hd : (x == ("__debug__" : Str)) = false := by decide) (hcd : (x == ("__classdict__" : Str)) = false := by decide)
    (hs : starEach [e] X.env = (false, eval e X.env) :: starEach [] X.env := by rfl) (hpl : (backTo pos (starEach [] X.env)).any (·.1) = false := by rfl) :
    PE X (.Call (.Name x p1) [e] [] pos) (tCallFn L N i tb t1) := by
  refine ⟨fun pins s σ H Q I ht => ?_⟩
  obtain ⟨f, hsl, ⟨caps0, hf0⟩, ht⟩ := ht
  refine wpAny_Call_Name_kw (thn ((pe_var (pos := p1) hN hv hd hcd).run pins s σ H (fun v H1 => v = .ref f ∧ H1 = H) I ⟨.ref f, hsl, rfl, rfl⟩) fun u s1 ⟨v, H1, I1, r1, q1⟩ => ?_)
  obtain ⟨ev, eH⟩ := q1
  subst ev
  rw [eH] at I1
  obtain rfl : u = Value.ref f := r1
  have ha : PA X [e] (tCons t1 tNil) := pa_cons he pa_nil hs
  refine PySem.W.callWith_F (first := []) (fn_heap I1.hok hf0) (thn (ha.run pos pins s1 σ H (fun vs H2 => match vs with
    | [v] => ∃ caps, FnAt H2 f L caps ∧ ∀ S : Addr → Option Obj, (∀ b o, S b = some o → H2 b = some (PinO b o)) → tb (NdefX.startF N [v] (caps.map some)) (lessP S H2) fun u H3 => (∀ b o, S b = some o → H3 b = none) → Q u (withP S H3)
    | _ => False) I1 ht) fun us s2 ⟨vs, H2, I2, r, hv2⟩ => ?_) hs hpl
  obtain ⟨v, rfl, caps, hf, hq⟩ : ∃ v, vs = [v] ∧ ∃ caps, FnAt H2 f L caps ∧ ∀ S : Addr → Option Obj, (∀ b o, S b = some o → H2 b = some (PinO b o)) → tb (NdefX.startF N [v] (caps.map some)) (lessP S H2) fun u H3 => (∀ b o, S b = some o → H3 b = none) → Q u (withP S H3) := by
    match vs, hv2 with
    | [v], z => exact ⟨v, rfl, z⟩
  refine ⟨fn_heap I2.hok hf, ?_⟩
  obtain ⟨u, hu, rv⟩ : ∃ u, us = [u] ∧ RelV v u := by
    cases r with
    | cons rv rn =>
      cases rn
      exact ⟨_, rfl, rv⟩
  subst hu
  clear r
  have z : True := trivial
  cases z with
  | intro =>
    show wpAny _ _ (call (.ref f) [u]) _ _ _
    obtain ⟨cl, pm, ctv, c, g1, g2, g3, g4, g5, g6⟩ := hf.ex
    have ho := pin_at I2.hok g1
    classical
    let S' : Addr → Option Obj := fun b => if ∃ y, cl.lookup y = some b then s2.heap.get? b else none
    have Sc : ∀ y d, cl.lookup y = some d → S' d = s2.heap.get? d := fun y d hd => if_pos ⟨y, hd⟩
    have Sp : ∀ b o, S' b = some o → H2 b = some (PinO b o) := fun b o hs => by
      by_cases z : ∃ y, cl.lookup y = some b
      · obtain ⟨y, hy⟩ := z
        rw [Sc y b hy] at hs
        obtain ⟨o', _, h1, _⟩ := g4 y b hy
        have := pin_at I2.hok h1
        rw [hs] at this
        cases this
        exact h1
      · have e : S' b = none := if_neg z
        rw [e] at hs
        cases hs
    have e0 := env0_less I2.env0 Sp
    let F : NdefX.NF := ⟨"<lambda>", L.qual, L.params, [], L.scope, cl, c⟩
    have hcode : s2.heap.CodeRec (.ref c) L.qual := by
      obtain ⟨⟨oc, vs, t, a1, a2, a3⟩, _, _⟩ := I2.hok c _ g2
      exact ⟨c, oc, vs, t, rfl, a1, a2, a3⟩
    have C : NdefX.CellsAt F.cl L.fr (caps.map some) s2.heap (lessP S' H2) := by
      refine ⟨by rw [List.length_map]; exact g3, fun y d hd => ?_, g5, fun j y hy => ?_⟩
      · obtain ⟨o', vv, h1, h2⟩ := g4 y d hd
        have hh := pin_at I2.hok h1
        exact ⟨lessP_some (by rw [Sc y d hd]; exact hh), vv, o', hh, h2⟩
      · obtain ⟨d, o', vv, uu, h1, h2, h3, h4, h5⟩ := g6 j y hy
        refine ⟨d, h1, fun v2 hv2 => ?_⟩
        rw [List.getElem?_map, h4] at hv2
        cases hv2
        exact ⟨uu, h5, o', pin_at I2.hok h2, h3⟩
    have ht2 := hq S' Sp
    have rc : codeAny (model X.prog X.w) X.A (.call (.ref f) ⟨[u], []⟩) (CR CX0 X.stack X.prog X.w (lessP S' H2) s2 (fun v H3 => (∀ b o, S' b = some o → H3 b = none) → Q v (withP S' H3)) E0) s2 := by
      refine PySem.W.kla_callFunE hr.depth ho rfl S.co S.gen rfl hcode ?_
      show wpAny _ _ (bindArgs (PySem.W.kla_fn "<lambda>" L.qual L.params L.body L.scope cl pm (.ref c) ctv) ⟨[u], []⟩) _ _ _
      rw [hbind]
      refine wpAny_pure (wpAny_newFunctionEnv S.nocell (fun ⟨n, _⟩ hy => S.par n ?_) (fun h₁ hns hsb => ⟨I2.nolimit.fresh _ hsb, ?_⟩) S.kind)
      · rw [List.mem_singleton] at hy
        cases hy
        exact List.mem_singleton.mpr rfl
      show codeAny _ _ (.expr L.body (NdefX.envF F f s2.heap.objs.size)) _ _
      have kp : ∀ b o, s2.heap.get? b = some o → h₁.get? b = some o := fun b o e => hsb.extBut b o (Nat.ne_of_lt (Heap.lt_size e)) (Heap.get?_push_of_some _ e)
      have J : Inv (NdefX.ncx CX0 X.prog X.w X.K X.mg X.base N F f X.A X.stack s2 (lessP S' H2) E0) [] (NdefX.startF N [v] (caps.map some)) (lessP S' H2) { s2 with heap := h₁, toks := s2.toks + [(p, u)].length } :=
        NdefX.inv_startN (F := F) (ps := [p]) (us := [u]) S hr.hd e0 rfl (.cons rv .nil) C hns kp
      refine PySem.W.kla_codeExpr (wpAny_mono ((hbody X.A X.stack s2 (lessP S' H2) f F rfl rfl (hr.deeper _)).run [] _ _ _ _ J ht2) (fun v' s' hq' => ?_) fun e s' hq' => hq')
      obtain ⟨w', H', J', rv', q'⟩ := hq'
      exact ⟨w', H', J'.os, J'.bare, J'.base, J'.hok, rv', q'⟩
    refine wpAny_call (codeAny_mono rc fun r s' hq' => ?_)
    cases r with
    | error e => exact False.elim hq'
    | ok fl =>
      cases fl with
      | ret u' => exact I2.after (ce_with I2.env0 Sp hq')
      | next => exact False.elim hq'
      | brk => exact False.elim hq'
      | cont => exact False.elim hq'
end
end Dv

set_option maxRecDepth 100000
set_option maxHeartbeats 1000000
/-! Deep rules of lambdas. -/
namespace Dv
open PySem PySem.Spec PyProof.Rows L2
mutual
theorem rep_keep {B B' : Hp} (e1 : ∀ b vs, B b = some (.tup vs) → B' b = some (.tup vs)) (e2 : ∀ b vs, B b = some (.lst vs) → B' b = some (.lst vs)) : ∀ {v : V} {d : D}, Rep B v d → NoDic d → Rep B' v d
  | _, _, .non, _ => .non
  | _, _, .bl, _ => .bl
  | _, _, .int, _ => .int
  | _, _, .str, _ => .str
  | _, _, .ref, _ => .ref
  | _, _, .ty, _ => .ty
  | _, .tup l, .tup (a := b) (vs := vs) h r, n => .tup (e1 b _ h) (reps_keep e1 e2 r (by cases n with | tup k => exact k))
  | _, .lst l, .lst (a := b) (vs := vs) h r, n => .lst (e2 b _ h) (reps_keep e1 e2 r (by cases n with | lst k => exact k))
  | _, _, .dic _ _, n => by cases n
  | _, _, .dicR _ _, n => by cases n
  | _, _, .dicL _ _, n => by cases n
  | _, _, .fn _ _, n => by cases n
theorem reps_keep {B B' : Hp} (e1 : ∀ b vs, B b = some (.tup vs) → B' b = some (.tup vs)) (e2 : ∀ b vs, B b = some (.lst vs) → B' b = some (.lst vs)) : ∀ {vs : List V} {ds : List D}, Reps B vs ds → (∀ x ∈ ds, NoDic x) → Reps B' vs ds
  | _, _, .nil, _ => .nil
  | _, d :: ds, .cons h r, n => .cons (rep_keep e1 e2 h (n d (by simp))) (reps_keep e1 e2 r fun x hx => n x (by simp [hx]))
end
/-- the slots js hold cap -/
inductive CapsD (E : EnvD) : List Nat → List D → Prop
  | nil : CapsD E [] []
  | cons {j : Nat} {d : D} {js : List Nat} {ds : List D} : E[j]? = some (some d) → CapsD E js ds → CapsD E (j :: js) (d :: ds)
theorem capsD_rd {B : Hp} {σ : L2.St} {E : EnvD} (re : RelE B σ E) {js : List Nat} {ds : List D} (h : CapsD E js ds) : ∃ vs, Reps B vs ds ∧ vs.length = js.length ∧ ∀ (i j : Nat) (v : V), js[i]? = some j → vs[i]? = some v → σ[j]? = some (some v) := by
  induction h with
  | nil => exact ⟨[], .nil, rfl, fun i j v h => by simp at h⟩
  | @cons j d js ds h _ ih =>
    obtain ⟨vs, h1, h2, h3⟩ := ih
    obtain ⟨v, g1, g2⟩ := re.get j d h
    refine ⟨v :: vs, .cons g2 h1, by simp [h2], fun i k u e1 e2 => ?_⟩
    cases i with
    | zero =>
      simp at e1 e2
      subst e1 e2
      exact g1
    | succ i => exact h3 i k u (by simpa using e1) (by simpa using e2)
theorem w_callLam {B0 : Gr} {Pt : Addr} {L : LamT} {js : List Nat} {g : SpP} {t1 t2 : TE} {E : EnvD} {C : CH} {P : D → CH → Prop}
    (h : W B0 t1 E C fun d1 C1 => W B0 t2 E C1 fun d2 C2 => C2 Pt = some (.tab L.qual) ∧ js.length = L.fr.length ∧ ∃ cap, CapsD E js cap ∧ g [d1, d2, .fn L cap] fun d => NoDic d ∧ P d C2) :
    W B0 (tCallLam Pt L js (spD (pureD g)) t1 t2) E C P := fun B F σ H sb rl re Q q => by
  refine h B F σ H sb rl re _ fun v1 d1 B1 C1 H1 e1 rl1 rp1 h1 => h1 B1 F σ H1 (sb.trans e1) rl1 (re.mono e1) _ fun v2 d2 B2 C2 H2 e2 rl2 rp2 ⟨hPt, hjl, cap, hcap, hg⟩ => ?_
  obtain ⟨o, hP, ro⟩ := rl2.own _ _ hPt
  cases ro with
  | @tab ps q tok hcodes =>
  obtain ⟨caps, rc, hcl, hcv⟩ := capsD_rd (re.mono (e1.trans e2)) hcap
  refine ⟨ps, hP, ⟨tok, fun pos cv hc => ?_⟩, caps, by rw [hcl, hjl], hjl, hcv, ?_⟩
  · obtain ⟨c, g1, g2⟩ := hcodes pos cv hc
    exact ⟨c, g1, rl2.ex _ _ g2⟩
  intro f c S ps' H3 k3 hP3 tok3 hU hC hc3 ncP no fat
  have BP : B2 Pt = none := rl2.bc _ _ hPt
  have hcB : B2 c = none ∨ B2 c = some (LamX.CodeO c L.qual) := by
    rcases hC with z | ⟨p, z⟩
    · exact .inl (rl2.noB z)
    · obtain ⟨c', g1, g2⟩ := hcodes p _ z
      cases g1
      exact .inr g2
  have hcC : C2 c = none := by
    rcases hC with z | ⟨p, z⟩
    · exact rl2.noC z
    · obtain ⟨c', g1, g2⟩ := hcodes p _ z
      cases g1
      cases e : C2 c with
      | none => rfl
      | some x => rw [rl2.bc _ _ e] at g2; cases g2
  have hcF : F c = none := by
    rcases hC with z | ⟨p, z⟩
    · exact rl2.noF z
    · obtain ⟨c', g1, g2⟩ := hcodes p _ z
      cases g1
      cases e : F c with
      | none => rfl
      | some x => rw [rl2.bf _ _ e] at g2; cases g2
  let B3 : Hp := upd B2 c (LamX.CodeO c L.qual)
  have B3c : B3 c = some (LamX.CodeO c L.qual) := upd_same
  have s23 : Same B2 B3 := fun b u z => by
    by_cases e : b = c
    · subst e
      rcases hcB with y | y
      · rw [y] at z; cases z
      · rw [y] at z; cases z; exact B3c
    · show upd B2 c _ b = _
      rw [upd_ne e]
      exact z
  have up3 : ∀ b u, B2 b = some u → H3 b = some u := fun b u z => k3 b u (rl2.ex b u z) (fun e => by rw [e, BP] at z; cases z)
  have Sno : ∀ b u, H3 b = some u → S b = none := fun b u z => by
    cases e : S b with
    | none => rfl
    | some o => rw [no b o e] at z; cases z
  have s3p : Same B2 (withP S B3) := fun b u z => by rw [withP_none (Sno b u (up3 b u z))]; exact s23 b u z
  have frH : ∀ b u, F b = some u → H3 b = some u := fun b u z => k3 b u (rl2.fr b u z) (fun e => by
    have y := rl2.cf b u z
    rw [e, hPt] at y
    cases y)
  have cel : ∀ b k, C2 b = some k → ∃ o, H3 b = some o ∧ S b = none ∧ RepO (lessP S B3) o k := fun b k z => by
    obtain ⟨o, g1, g2⟩ := rl2.own b k z
    have sl : Same B2 (lessP S B3) := fun b u z => by rw [lessP_none (Sno b u (up3 b u z))]; exact s23 b u z
    by_cases e : b = Pt
    · subst e
      rw [hPt] at z
      cases z
      refine ⟨_, hP3, Sno _ _ hP3, .tab tok3 fun pos cv hcd => ?_⟩
      rcases hU pos cv hcd with y | y
      · obtain ⟨c', g1, g2⟩ := hcodes pos cv y
        exact ⟨c', g1, sl _ _ g2⟩
      · exact ⟨c, y, by rw [lessP_none (Sno _ _ hc3)]; exact B3c⟩
    · exact ⟨o, k3 b o g1 e, Sno _ _ (k3 b o g1 e), g2.mono sl⟩
  let F2 : Hp := fun b => if (C2 b).isSome then H3 b else F b
  have F2F : ∀ b u, F b = some u → F2 b = some u := fun b u z => by
    show (if (C2 b).isSome then H3 b else F b) = some u
    rw [rl2.cf b u z]
    simpa using z
  have F2C : ∀ b k, C2 b = some k → F2 b = H3 b := fun b k z => by
    show (if (C2 b).isSome then H3 b else F b) = H3 b
    rw [z]
    rfl
  have F2i : ∀ b u, F2 b = some u → H3 b = some u ∧ B2 b = none ∧ b ≠ c := fun b u z => by
    have z : (if (C2 b).isSome then H3 b else F b) = some u := z
    cases e : C2 b with
    | some k =>
      rw [e] at z
      exact ⟨z, rl2.bc _ _ e, fun y => by rw [y, hcC] at e; cases e⟩
    | none =>
      rw [e] at z
      have z : F b = some u := z
      exact ⟨frH b u z, rl2.bf _ _ z, fun y => by rw [y, hcF] at z; cases z⟩
  have rl3 : Rel (withP S B3) (fun _ => none) F2 (withP S H3) := by
    refine ⟨fun b u z => ?_, fun b u z => ?_, fun b u z => ?_, fun _ _ _ => rfl, (fun b k e => by cases e), (fun b k e => by cases e)⟩
    · cases e : S b with
      | some o => rw [withP_some e] at z ⊢; exact z
      | none =>
        rw [withP_none e] at z ⊢
        by_cases y : b = c
        · subst y
          rw [B3c] at z
          cases z
          exact hc3
        · have z : upd B2 c _ b = some u := z
          rw [upd_ne y] at z
          exact up3 b u z
    · obtain ⟨g1, _, _⟩ := F2i b u z
      rw [withP_none (Sno _ _ g1)]
      exact g1
    · obtain ⟨g1, g2, g3⟩ := F2i b u z
      rw [withP_none (Sno _ _ g1)]
      show upd B2 c _ b = none
      rw [upd_ne g3]
      exact g2
  refine ⟨withP S B3, F2, fun _ => none, [d1, d2, .fn L cap], fun d _ => NoDic d ∧ P d C2, rl3, .cons ((rp1.mono e2).mono s3p) (.cons (rp2.mono s3p) (.cons (.fn (fat B3 B3c) (rc.mono s3p)) .nil)), hg, fun v d B' C' H' s' rl' rp' ⟨hn, hp⟩ => ⟨fun b o e => rl'.ex _ _ (s' _ _ (withP_some e)), ?_⟩⟩
  have sl : Same B3 (lessP S B') → Same B (lessP S B') := fun z => ((e1.trans e2).trans s23).trans z
  have s3l : Same (lessP S B3) (lessP S B') := fun b u z => by
    cases e : S b with
    | some o => rw [lessP_some e] at z; cases z
    | none =>
      rw [lessP_none e] at z ⊢
      exact s' b u (by rw [withP_none e]; exact z)
  have B3S : ∀ b u, B3 b = some u → S b = none := fun b u z => by
    by_cases y : b = c
    · subst y; exact Sno _ _ hc3
    · have z : upd B2 c _ b = some u := z
      rw [upd_ne y] at z
      exact Sno _ _ (up3 b u z)
  refine q v d (lessP S B') C2 (lessP S H') (sl fun b u z => s3l b u (by rw [lessP_none (B3S b u z)]; exact z)) ?_ ?_ hp
  · refine ⟨fun b u z => ?_, fun b u z => ?_, fun b u z => ?_, rl2.cf, fun b k z => ?_, fun b k z => ?_⟩
    · cases e : S b with
      | some o => rw [lessP_some e] at z; cases z
      | none => rw [lessP_none e] at z ⊢; exact rl'.ex b u z
    · rw [lessP_none (Sno _ _ (frH b u z))]
      exact rl'.fr b u (F2F b u z)
    · rw [lessP_none (Sno _ _ (frH b u z))]
      exact rl'.bf b u (F2F b u z)
    · obtain ⟨o, g1, g2, _⟩ := cel b k z
      rw [lessP_none g2]
      exact rl'.bf b o (by rw [F2C b k z]; exact g1)
    · obtain ⟨o, g1, g2, g3⟩ := cel b k z
      exact ⟨o, by rw [lessP_none g2]; exact rl'.fr b o (by rw [F2C b k z]; exact g1), g3.mono s3l⟩
  · refine rep_keep (fun b vs z => ?_) (fun b vs z => ?_) rp' hn
    · rw [lessP_none ?_]
      · exact z
      · cases e : S b with
        | none => rfl
        | some o => rw [s' _ _ (withP_some e)] at z; exact absurd (Option.some.inj z) pin_tup
    · rw [lessP_none ?_]
      · exact z
      · cases e : S b with
        | none => rfl
        | some o => rw [s' _ _ (withP_some e)] at z; exact absurd (Option.some.inj z) pin_lst
/-- the slots at the entry of a lambda's body -/
def startL (n : Nat) (ds cap : List D) : EnvD := ds.map some ++ (cap.map some ++ List.replicate (n - ds.length - cap.length) none)
theorem relE_startL {B : Hp} {N : List Str} {vs caps : List V} {ds cap : List D} (h : Reps B vs ds) (hc : Reps B caps cap) : RelE B (NdefX.startF N vs (caps.map some)) (startL N.length ds cap) := by
  have hl := h.length
  have hl2 := hc.length
  refine ⟨by simp [NdefX.startF, startL, hl, hl2], fun i d e => ?_⟩
  unfold startL at e
  unfold NdefX.startF
  by_cases hi : i < ds.length
  · rw [List.getElem?_append_left (by simpa using hi), List.getElem?_map] at e
    cases q : ds[i]? with
    | none => rw [q] at e; cases e
    | some x =>
      rw [q] at e
      have ex : x = d := by simpa using e
      subst ex
      obtain ⟨v, h1, h2⟩ := h.get q
      exact ⟨v, by rw [List.getElem?_append_left (by simpa [hl] using hi), List.getElem?_map, h1]; rfl, h2⟩
  · rw [List.getElem?_append_right (by simp; omega)] at e
    rw [List.getElem?_append_right (by simp [hl]; omega)]
    simp only [List.length_map] at e ⊢
    rw [hl]
    by_cases hj : i - ds.length < cap.length
    · rw [List.getElem?_append_left (by simpa using hj), List.getElem?_map] at e
      cases q : cap[i - ds.length]? with
      | none => rw [q] at e; cases e
      | some x =>
        rw [q] at e
        have ex : x = d := by simpa using e
        subst ex
        obtain ⟨v, h1, h2⟩ := hc.get q
        exact ⟨v, by rw [List.getElem?_append_left (by simpa [hl2] using hj), List.getElem?_map, h1]; rfl, h2⟩
    · rw [List.getElem?_append_right (by simp; omega), List.getElem?_replicate] at e
      split at e <;> cases e
theorem w_callFn {B0 : Gr} {L : LamT} {N : List Str} {i : Nat} {tb t1 : TE} {E : EnvD} {C : CH} {P : D → CH → Prop} {cap : List D} (he : E[i]? = some (some (.fn L cap))) (hn : ∀ x ∈ cap, NoDic x)
    (h : W B0 t1 E C fun d C1 => NoDic d ∧ C1 = (fun _ => none) ∧ ∀ B1 : Gr, W B1 tb (startL N.length [d] cap) (fun _ => none) fun d' C2 => C2 = (fun _ => none) ∧ P d' C2) : W B0 (tCallFn L N i tb t1) E C P := fun B F σ H sb rl re Q q => by
  obtain ⟨v, hv, rf⟩ := re.get i _ he
  cases rf with
  | @fn f _ caps0 _ hf rc0 =>
  refine ⟨f, hv, ⟨caps0, hf.mono rl.ex⟩, h B F σ H sb rl re _ fun v d B1 C1 H1 e1 rl1 rp ⟨hd, hC, hb⟩ => ?_⟩
  subst hC
  have hf1 := hf.mono e1
  have rc1 := rc0.mono e1
  refine ⟨caps0, hf1.mono rl1.ex, fun S hS => ?_⟩
  have BS : ∀ b o u, S b = some o → B1 b = some u → u = PinO b o := fun b o u z y => by
    have x := rl1.ex b u y
    rw [hS b o z] at x
    exact (Option.some.inj x).symm
  have kt : ∀ b vs, B1 b = some (.tup vs) → lessP S B1 b = some (.tup vs) := fun b vs z => by
    cases e : S b with
    | none => rw [lessP_none e]; exact z
    | some o => exact absurd (BS b o _ e z).symm pin_tup
  have kl : ∀ b vs, B1 b = some (.lst vs) → lessP S B1 b = some (.lst vs) := fun b vs z => by
    cases e : S b with
    | none => rw [lessP_none e]; exact z
    | some o => exact absurd (BS b o _ e z).symm pin_lst
  have lsome : ∀ {G : Hp} {b u}, lessP S G b = some u → S b = none ∧ G b = some u := fun {G b u} z => by
    cases e : S b with
    | none => rw [lessP_none e] at z; exact ⟨rfl, z⟩
    | some o => rw [lessP_some e] at z; cases z
  have rl2 : Rel (lessP S B1) (fun _ => none) (lessP S F) (lessP S H1) := by
    refine ⟨fun b u z => ?_, fun b u z => ?_, fun b u z => ?_, fun _ _ _ => rfl, (fun b k e => by cases e), (fun b k e => by cases e)⟩
    · obtain ⟨h1, h2⟩ := lsome z
      rw [lessP_none h1]
      exact rl1.ex b u h2
    · obtain ⟨h1, h2⟩ := lsome z
      rw [lessP_none h1]
      exact rl1.fr b u h2
    · obtain ⟨h1, h2⟩ := lsome z
      rw [lessP_none h1]
      exact rl1.bf b u h2
  refine hb ⟨lessP S B1, lessP S F⟩ _ _ _ _ (Sb.refl _ _) rl2 (relE_startL (.cons (rep_keep kt kl rp hd) .nil) (reps_keep kt kl rc1 hn)) _ fun u d' B' C' H' s' rl' rp' ⟨hC', hp⟩ hH' => ?_
  subst hC'
  let B2 : Hp := fun b => if (S b).isSome then B1 b else B' b
  have B2s : ∀ {b o}, S b = some o → B2 b = B1 b := fun {b o} z => by
    show (if (S b).isSome then B1 b else B' b) = B1 b
    rw [z]
    rfl
  have B2n : ∀ {b}, S b = none → B2 b = B' b := fun {b} z => by
    show (if (S b).isSome then B1 b else B' b) = B' b
    rw [z]
    rfl
  have sb2 : Same B' B2 := fun b u z => by
    cases e : S b with
    | none => rw [B2n e]; exact z
    | some o => rw [rl'.noB (hH' b o e)] at z; cases z
  refine q u d' B2 _ (withP S H') (e1.trans fun b u z => ?_) ⟨fun b u z => ?_, fun b u z => ?_, fun b u z => ?_, fun _ _ _ => rfl, (fun b k e => by cases e), (fun b k e => by cases e)⟩ (rp'.mono sb2) hp
  · cases e : S b with
    | some o => rw [B2s e]; exact z
    | none => rw [B2n e]; exact s' b u (by rw [lessP_none e]; exact z)
  · cases e : S b with
    | some o =>
      rw [B2s e] at z
      rw [withP_some e, BS b o u e z]
    | none =>
      rw [B2n e] at z
      rw [withP_none e]
      exact rl'.ex b u z
  · cases e : S b with
    | some o =>
      have y := rl1.fr b u z
      rw [hS b o e] at y
      rw [withP_some e]
      exact y
    | none =>
      rw [withP_none e]
      exact rl'.fr b u (by rw [lessP_none e]; exact z)
  · cases e : S b with
    | some o => rw [B2s e]; exact rl1.bf b u z
    | none => rw [B2n e]; exact rl'.bf b u (by rw [lessP_none e]; exact z)
/-! ### a lambda as the last argument of a returned call -/
def lamOf (st : Stmt) : Expr := match (defBody st).getLast? with
  | some (.Return (some (.Call _ as _ _)) _) => (as.getLast?).getD (.Constant .none 0 ⟨0, 0, 0, 0⟩)
  | _ => .Constant .none 0 ⟨0, 0, 0, 0⟩
def lamArgs : Expr → Arguments
  | .Lambda a _ _ _ => a
  | _ => default
def lamBody : Expr → Expr
  | .Lambda _ b _ _ => b
  | e => e
def lamScope : Expr → Scope
  | .Lambda _ _ sc _ => sc
  | _ => default
def capB (sc lsc : Scope) (N fr : List Str) (js : List Nat) : Bool :=
  lsc.names.all (fun y => !decide (y.2 = .free) || decide (sc.names.lookup y.1 = some .cell)) && (List.range fr.length).all fun i => match fr[i]?, js[i]? with
    | some y, some j => decide ((y, NameKind.free) ∈ lsc.names) && decide (N[j]? = some y)
    | _, _ => false
theorem cap_fr {sc lsc : Scope} {N fr : List Str} {js : List Nat} (h : capB sc lsc N fr js = true) : ∀ y ∈ lsc.names, y.2 = .free → sc.names.lookup y.1 = some .cell := fun y hy e => by
  have h1 := (Bool.and_eq_true_iff.mp h).1
  have := List.all_eq_true.mp h1 y hy
  simpa [e] using this
theorem cap_at {sc lsc : Scope} {N fr : List Str} {js : List Nat} (h : capB sc lsc N fr js = true) : ∀ (i : Nat) (y : Str), fr[i]? = some y → (y, NameKind.free) ∈ lsc.names ∧ ∃ j, js[i]? = some j ∧ N[j]? = some y := fun i y hy => by
  have h2 := (Bool.and_eq_true_iff.mp h).2
  have hi : i < fr.length := (List.getElem?_eq_some_iff.mp hy).1
  have z := List.all_eq_true.mp h2 i (List.mem_range.mpr hi)
  rw [hy] at z
  cases e : js[i]? with
  | none => rw [e] at z; cases z
  | some j =>
    rw [e] at z
    simp only [Bool.and_eq_true, decide_eq_true_eq] at z
    exact ⟨z.1, j, rfl, z.2⟩
/-- what is known of a lambda's body -/
structure LamOk (P : Program) (w : World) (K : PySem.W.Frag) (mg : Str → Option Value) (base : Heap) (k : Nat) (L : LamT) (N : List Str) (p : Str) (tb : TE) : Prop where
  sc : NdefX.NScope N [p] L.fr L.scope
  bind : ∀ (cl : List (Str × Addr)) (pm cv ctv u : Value), bindArgs (PySem.W.kla_fn "<lambda>" L.qual L.params L.body L.scope cl pm cv ctv) ⟨[u], []⟩ = pure [(p, u)]
  body : ∀ (A : Around) (outer : List PySem.Env) (s : Shared) (H : Hp) (f : Addr) (nm : Str) (pa : Arguments) (bd : List Stmt) (cl : List (Str × Addr)) (c : Addr), Room k (A.deeper (NdefX.envF ⟨nm, L.qual, pa, bd, L.scope, cl, c⟩ f s.heap.objs.size)) →
    PE (NdefX.ncx CX0 P w K mg base N ⟨nm, L.qual, pa, bd, L.scope, cl, c⟩ f A outer s H E0) L.body tb
theorem pe_callL {X : Cx} {x p : Str} {k i : Nat} {p1 pos : Pos} {e : Expr} {t1 tb : TE} {L : LamT} {N : List Str} (LO : LamOk X.prog X.w X.K X.mg X.base k L N p tb) (hr : Room (k + 1) X.A) (he : PE X e t1) (hN : X.N[i]? = some x := by rfl) (hv : Vis X.env.scope x := by first | exact Or.inl rfl | exact Or.inr (Or.inl rfl) | exact Or.inr (Or.inr rfl))
    (hd : (x == ("__debug__" : Str)) = false := by decide) (hcd : (x == ("__classdict__" : Str)) = false := by decide)
    (hs : starEach [e] X.env = (false, eval e X.env) :: starEach [] X.env := by rfl) (hpl : (backTo pos (starEach [] X.env)).any (·.1) = false := by rfl) : PE X (.Call (.Name x p1) [e] [] pos) (tCallFn L N i tb t1) :=
  pe_callFn hN hv he hr LO.sc LO.bind (fun A outer s H f F e1 e2 hr2 => by
    obtain ⟨nm, q, pa, bd, sc, cl, c⟩ := F
    have e1 : q = L.qual := e1
    have e2 : sc = L.scope := e2
    subst e1 e2
    exact LO.body A outer s H f nm pa bd cl c hr2) hd hcd hs hpl
end Dv

set_option maxRecDepth 100000
set_option maxHeartbeats 1000000
/-! Try with several clauses that name the error; defs whose code object is known; the end with tables. -/
namespace Dv
open PySem PySem.Spec PyProof.Rows L2
abbrev HdA := Value × Option Nat × (Addr → Value → Option Addr → TS)
def endO (o : Option Nat) (Dn : Ends) : Ends := match o with
  | none => Dn
  | some i => { nx := fun τ G => Dn.nx (τ.set i none) G, rt := Dn.rt, bk := fun τ G => Dn.bk (τ.set i none) G, ct := fun τ G => Dn.ct (τ.set i none) G }
def stO (o : Option Nat) (a : Addr) (τ : L2.St) : L2.St := match o with
  | none => τ
  | some i => τ.set i (some (.ref a))
def wishA (K : PySem.W.Frag) (Wo : WX) (Dn : Ends) : List HdA → WX
  | [] => Wo
  | (c, o, ts) :: r => fun cls d τ G => ∃ b, PySem.W.exmOne K cls c = some b ∧ (b = true → ∀ a, G a = none → ts a cls d (endO o Dn) (stO o a τ) G) ∧ (b = false → wishA K Wo Dn r cls d τ G)
/-- an error at a is in the air, caught -/
structure Air (X : Cx) (pn : List (Addr × Obj)) (τ : L2.St) (G : Hp) (a : Addr) (cls : Value) (d : Option Addr) (B : Heap) (q s : Shared) : Prop where
  inv : Inv X pn τ G q
  low : ∀ b o, q.heap.get? b = some o → b ∉ frs X.stack → B.get? b = some o
  up : q.heap.UpToSlots s.heap
  fly : HandSPX.FlyingZ B (X.env :: X.outer) a (Zc cls d) s.heap
  na : G a = none
  os : s.os = q.os
  ag : AllBare s.gens
section
variable {X : Cx} {pn : List (Addr × Obj)} {τ : L2.St} {G : Hp} {a : Addr} {cls : Value} {d : Option Addr} {B : Heap} {q s : Shared}
theorem Air.now (x : Air X pn τ G a cls d B q s) : Inv X pn τ G s := x.inv.landed x.low x.fly.1 x.up x.os x.ag
theorem Air.moved (x : Air X pn τ G a cls d B q s) {h : Heap} (f : HandSPX.FlyingZ B (X.env :: X.outer) a (Zc cls d) h) (u : s.heap.UpToSlots h) : Air X pn τ G a cls d B q { s with heap := h } :=
  ⟨x.inv, x.low, x.up.trans u, f, x.na, x.os, x.ag⟩
theorem Air.apart (x : Air X pn τ G a cls d B q s) (hf : X.env.frame = some X.env.locals) : a ≠ X.env.locals ∧ a ∉ X.fs := by
  obtain ⟨ob, vs, at_, _, dat⟩ := x.fly.there
  have out : a ∉ frs (X.env :: X.outer) := fun hm => by
    obtain ⟨_, o2, at2, no⟩ := x.fly.2.2.1.mem hm
    rw [at_] at at2
    cases at2
    exact no _ dat
  refine ⟨fun z => out ?_, fun hm => out ?_⟩
  · exact List.mem_filterMap.mpr ⟨X.env, by simp, by rw [hf, z]⟩
  · obtain ⟨e, he, w⟩ := List.mem_filterMap.mp hm
    exact List.mem_filterMap.mpr ⟨e, by simp [he], w⟩
theorem Air.inSuite (x : Air X pn τ G a cls d B q s) (hf : X.env.frame = some X.env.locals) : ∃ ob, Zc cls d ob ∧ (∃ vs, ob.data = .fields vs) ∧ s.heap.get? a = some ob ∧ Inv (X.suite a ((a, ob) :: (X.pn ++ pn))) [] τ G s := by
  obtain ⟨ob, vs, at_, z, dat⟩ := x.fly.there
  obtain ⟨n1, n2⟩ := x.apart hf
  exact ⟨ob, z, ⟨vs, dat⟩, at_, x.now.suite at_ dat x.na n1 n2⟩
/-- a clause's class is asked -/
theorem Air.asked (x : Air X pn τ G a cls d B q s) (hf : X.env.frame = some X.env.locals) {y : Str} {c : Value} {np : Pos} {b : Bool} (hc : Names X y c) (hb : PySem.W.exmOne X.K cls c = some b) {Q : Bool → Shared → Prop} {Ex : Value → Shared → Prop} (k : Q b s) :
    wpAny (model X.prog X.w) (X.A.mark (some (.ref a))) (eval (.Name y np) X.env) (fun v s1 => wpAny (model X.prog X.w) (X.A.mark (some (.ref a))) (excMatches (.ref a) v) Q Ex s1) Ex s := by
  obtain ⟨ob, z, _, at_, S⟩ := x.inSuite hf
  have look : PySem.W.Looks (model X.prog X.w) s.heap (typeOf (.ref a)) cls := fun _ _ _ _ kk w => wpAny_typeOf_ref (kk _ _ at_) (by rw [z.1]; exact w)
  have says := PySem.W.exm_one (M := model X.prog X.w) x.now.kIn look hb
  obtain ⟨g1, g2, g3 | ⟨g3, g4, g5⟩⟩ := hc
  · exact ld_glob S g1 g3 (says.here k) g2
  · exact ld_blt S g1 g3 g4 (says.here k) g5 g2
/-- a suite's end, seen from behind the clause -/
theorem endO_none {ob : Obj} {Dn : Ends} (ok : X.Ok) {f : Flow} {s1 : Shared} (h : SP (X.suite a ((a, ob) :: (X.pn ++ pn))) [] Dn f s1) : SP X pn Dn f s1 := by
  cases f with
  | next => obtain ⟨t1, G1, S1, w⟩ := h; exact ⟨t1, G1, S1.unsuite ok, w⟩
  | brk => obtain ⟨t1, G1, S1, w⟩ := h; exact ⟨t1, G1, S1.unsuite ok, w⟩
  | cont => obtain ⟨t1, G1, S1, w⟩ := h; exact ⟨t1, G1, S1.unsuite ok, w⟩
  | ret u => obtain ⟨v, t1, G1, S1, r, w⟩ := h; exact ⟨v, t1, G1, S1.unsuite ok, r, w⟩
theorem endO_some {ob : Obj} {Dn : Ends} {i : Nat} {n : Str} {pos : Pos} (ok : X.Ok) (hN : X.N.Nodup) (hi : X.N[i]? = some n) (hl : X.env.kindOf n = some .local) {f : Flow} {s1 : Shared} (h : SP (X.suite a ((a, ob) :: (X.pn ++ pn))) [] (endO (some i) Dn) f s1) :
    wpAny (model X.prog X.w) X.A (do bindName X.env n .none; unbindBehindTheSuite X.env n pos) (fun _ s2 => SP X pn Dn f s2) X.xe s1 := by
  cases f with
  | next => obtain ⟨t1, G1, S1, w⟩ := h; exact gone_ok (S1.unsuite ok) hN hi hl fun _ I => ⟨_, _, I, w⟩
  | brk => obtain ⟨t1, G1, S1, w⟩ := h; exact gone_ok (S1.unsuite ok) hN hi hl fun _ I => ⟨_, _, I, w⟩
  | cont => obtain ⟨t1, G1, S1, w⟩ := h; exact gone_ok (S1.unsuite ok) hN hi hl fun _ I => ⟨_, _, I, w⟩
  | ret u => obtain ⟨v, t1, G1, S1, r, w⟩ := h; exact gone_ok (S1.unsuite ok) hN hi hl fun _ I => ⟨_, _, _, I, r, w⟩
/-- no clause is right: it goes on its way -/
theorem Air.on (x : Air X pn τ G a cls d B q s) (hs : X.stack = X.env :: X.outer) (hf : X.env.frame = some X.env.locals) {Wo : WX} (tk : Takes X Wo) (w : Wo cls d τ G) {Q : Flow → Shared → Prop} : wpAny (model X.prog X.w) X.A (handleBy (.ref a) X.env []) Q X.xe s := by
  refine wpAny_handleBy_nil ?_
  obtain ⟨_, _, _, ob, vs, T, _, _, g1, _, g3, g4, _⟩ := x.fly
  unfold PySem.passOn
  refine wpAny_bind (wpAny_field g1 g3 g4 ?_)
  have ne : ¬ ((Value.ref T == Value.none) = true) := by simp
  rw [if_neg ne]
  have out : wpAny (model X.prog X.w) X.A (setFlight (.ref a) X.env.frame) (fun _ s2 => wpAny (model X.prog X.w) X.A (throw (.ref a) : Sem Flow) Q X.xe s2) X.xe s := by
    rw [hf]
    exact HandSPX.setFlight_upZ x.fly fun h hh u => wpAny_throw (tk _ _ ⟨a, B, q, pn, τ, G, cls, d, rfl, x.inv, x.low, x.up.trans u, .inr (.inr (by rw [hs]; exact hh)), x.na, x.os, x.ag, w⟩)
  first
    | exact wpAny_bind out
    | exact wpAny_bind (wpAny_pure (wpAny_bind out))
end
inductive HdsA (X : Cx) : List ExceptHandler → List HdA → Prop
  | nil : HdsA X [] []
  | plain {x : Str} {c : Value} {ts : Addr → Value → Option Addr → TS} {b1 : Stmt} {su : List Stmt} {np p1 : Pos} {hds : List ExceptHandler} {l : List HdA} (hc : Names X x c)
      (hsu : ∀ (a : Addr) (ob : Obj) (cls : Value) (d : Option Addr) (pn : List (Addr × Obj)), Zc cls d ob → (∃ vs, ob.data = .fields vs) → PSs (X.suite a ((a, ob) :: pn)) (b1 :: su) (ts a cls d)) (r : HdsA X hds l) :
      HdsA X (.ExceptHandler (some (.Name x np)) none (b1 :: su) p1 :: hds) ((c, none, ts) :: l)
  | named {x n : Str} {c : Value} {i : Nat} {ts : Addr → Value → Option Addr → TS} {b1 : Stmt} {su : List Stmt} {np p1 : Pos} {hds : List ExceptHandler} {l : List HdA} (hi : X.N[i]? = some n) (hl : X.env.kindOf n = some .local) (hc : Names X x c)
      (hsu : ∀ (a : Addr) (ob : Obj) (cls : Value) (d : Option Addr) (pn : List (Addr × Obj)), Zc cls d ob → (∃ vs, ob.data = .fields vs) → PSs (X.suite a ((a, ob) :: pn)) (b1 :: su) (ts a cls d)) (r : HdsA X hds l) :
      HdsA X (.ExceptHandler (some (.Name x np)) (some n) (b1 :: su) p1 :: hds) ((c, some i, ts) :: l)
section
variable {X : Cx} {body : List Stmt} {hd : ExceptHandler} {hds : List ExceptHandler} {l : List HdA} {pos : Pos} {tb : WX → TS} {Wo : WX}
theorem hds_run (hs : X.stack = X.env :: X.outer) (hf : X.env.frame = some X.env.locals) (hN : X.N.Nodup) (tk : Takes X Wo) (ok : X.Ok) {Dn : Ends} {pn : List (Addr × Obj)} {τ : L2.St} {G : Hp} {a : Addr} {cls : Value} {d : Option Addr} {B : Heap} {q s : Shared} (x : Air X pn τ G a cls d B q s)
    (hh : HdsA X hds l) (w : wishA X.K Wo Dn l cls d τ G) : wpAny (model X.prog X.w) X.A (handleBy (.ref a) X.env hds) (SP X pn Dn) X.xe s := by
  induction hh with
  | nil => exact x.on hs hf tk w
  | plain hc hsu r ih =>
    obtain ⟨b, hb, yes, no⟩ := w
    refine wpAny_handleBy_cons (codeAny_handlers_test (x.asked hf hc hb ?_)) (fun z => by cases z)
    cases b with
    | false => exact ih (no rfl)
    | true =>
      refine codeAny_handlers_suite (HandSPX.lands_againZ x.fly fun h f u => ?_)
      have y := x.moved f u
      obtain ⟨ob, z, hv, _, S⟩ := y.inSuite hf
      exact wpAny_mono ((hsu a ob cls d (X.pn ++ pn) z hv).run [] _ _ G _ S (yes rfl a x.na)) (fun f s1 e => endO_none ok e) fun _ _ z => z.elim
  | @named _ n _ _ _ _ _ _ _ _ _ hi hl hc hsu r ih =>
    obtain ⟨b, hb, yes, no⟩ := w
    refine wpAny_handleBy_cons (codeAny_handlers_test (x.asked hf hc hb ?_)) (fun z => by cases z)
    cases b with
    | false => exact ih (no rfl)
    | true =>
      refine codeAny_handlers_suite_as (HandSPX.lands_againZ x.fly fun h f u => ?_)
      have y := x.moved f u
      obtain ⟨ob, z, hv, _, S⟩ := y.inSuite hf
      have lc : Loc X.env.scope n := .inl hl
      refine store_ok (X := X.suite a ((a, ob) :: (X.pn ++ pn))) (v := .ref a) S hN hi lc rfl (fun s5 S5 => ?_) (.inr hl)
      exact wpAny_mono ((hsu a ob cls d (X.pn ++ pn) z hv).run [] s5 _ G _ S5 (yes rfl a x.na)) (fun f s1 e => endO_some ok hN hi hl e) fun _ _ z => z.elim
theorem ps_tryA (hs : X.stack = X.env :: X.outer) (hf : X.env.frame = some X.env.locals) (hN : X.N.Nodup) (tk : Takes X Wo)
    (hb : ∀ (W : WX) (pn : List (Addr × Obj)) (xe : Value → Shared → Prop), Takes (X.tr pn xe) W → PassesOwn (model X.prog X.w) X.A X.env xe → PSs (X.tr pn xe) body (tb W))
    (hh : HdsA X (hd :: hds) l) : PS X (.Try body (hd :: hds) [] [] pos) (fun Dn τ G => tb (wishA X.K Wo Dn l) Dn τ G) := by
  refine ⟨fun pn s τ G Dn I h => wpAny_Try_except ?_⟩
  have ok := I.ok
  have fr : X.A.frames = some (X.env :: X.outer) := by rw [ok.frames, hs]
  refine wpAny_mono ((hb (wishA X.K Wo Dn l) (X.pn ++ pn) (fun e s1 => wpAny (model X.prog X.w) X.A (noteFrame e X.env) (fun _ s2 => wpAny (model X.prog X.w) X.A (setFlight e none) (fun _ s3 =>
    wpAny (model X.prog X.w) X.A (handleBy e X.env (hd :: hds)) (SP X pn Dn) X.xe s3) X.xe s2) X.xe s1) (fun u s1 z => ?_) PassesOwn.looking).run [] s τ G Dn (I.toTry _) h) (fun f s1 z => ?_) fun _ _ z => z
  · obtain ⟨a, B, q, pn2, t2, G2, cls, d, rfl, I2, low, up, sky, na, os, ag, w⟩ := z
    have sky : Sky B (X.env :: X.outer) a (Zc cls d) X.env.locals s1.heap := by rw [← hs]; exact sky
    exact Sky.land Zc.steady fr hf sky fun h fl u => hds_run (s := { s1 with heap := h }) hs hf hN tk ok ⟨I2.ofTry ok, low, up.trans u, fl, na, os, ag⟩ hh w
  · cases f with
    | next => obtain ⟨t1, G1, J, k⟩ := z; exact wpAny_execs_nil ⟨t1, G1, J.ofTry ok, k⟩
    | brk => obtain ⟨t1, G1, J, k⟩ := z; exact ⟨t1, G1, J.ofTry ok, k⟩
    | cont => obtain ⟨t1, G1, J, k⟩ := z; exact ⟨t1, G1, J.ofTry ok, k⟩
    | ret u => obtain ⟨v, t1, G1, J, r, k⟩ := z; exact ⟨v, t1, G1, J.ofTry ok, r, k⟩
end
/-! ### the deep rule -/
def tTryA (K : PySem.W.Frag) (tb : WX → TS) (Wo : WX) (l : List HdA) : TS := fun Dn τ G => tb (wishA K Wo Dn l) Dn τ G
def endD (o : Option Nat) (D1 : EndD) : EndD := match o with
  | none => D1
  | some i => { nx := fun E C => D1.nx (E.set i none) C, rt := D1.rt, bk := fun E C => D1.bk (E.set i none) C, ct := fun E C => D1.ct (E.set i none) C }
def envO (o : Option Nat) (a : Addr) (E : EnvD) : EnvD := match o with
  | none => E
  | some i => E.set i (some (.ref a))
/-- what the clauses do with an error -/
def HdDA (K : PySem.W.Frag) (mg : Str → Option Value) (B0 : Gr) (E : EnvD) (D1 : EndD) (PXo : Exn → CH → Prop) : List HdA → Exn → CH → Prop
  | [], x, C => PXo x C
  | (c, o, ts) :: r, x, C => ∀ (B : Hp) (cls : Value) (d : Option Addr), ExnOk mg B x cls d → Same B0.b B → ∃ b, PySem.W.exmOne K cls c = some b ∧ (b = true → ∀ a, WS ⟨B, B0.f⟩ (ts a cls d) (envO o a E) C (endD o D1)) ∧ (b = false → HdDA K mg B0 E D1 PXo r x C)
theorem ws_tryA {K : PySem.W.Frag} {mg : Str → Option Value} {B0 : Gr} {tb : WX → TS} {Wo : WX} {l : List HdA} {E : EnvD} {C : CH} {D1 : EndD} {PXo : Exn → CH → Prop} (PX : Exn → CH → Prop) (ho : XOk mg B0 (WE Wo) E PXo)
    (hb : ∀ (B1 : Gr) (W : WX), XOk mg B1 (WE W) E PX → WS B1 (tb W) E C D1) (hl : ∀ x C1, PX x C1 → HdDA K mg B0 E D1 PXo l x C1) : WS B0 (tTryA K tb Wo l) E C D1 := fun B F σ H sb rl re Dn ok => by
  refine hb ⟨B, F⟩ _ (fun B2 F2 σ2 H2 C2 sb2 rl2 re2 x c d hx p => ?_) B F σ H (Sb.refl B F) rl re Dn ok
  have z := hl x C2 p
  clear hl hb
  induction l with
  | nil => exact ho B2 F2 σ2 H2 C2 ⟨sb.1.trans sb2.1, sb.2.trans sb2.2⟩ rl2 re2 x c d hx z
  | cons q r ih =>
    obtain ⟨c1, o, ts⟩ := q
    obtain ⟨b, h1, h2, h3⟩ := z B2 c d hx (sb.1.trans sb2.1)
    refine ⟨b, h1, fun hb a ha => ?_, fun hb => ih (h3 hb)⟩
    cases o with
    | none =>
      exact h2 hb a B2 F σ2 H2 ⟨Same.refl B2, sb.2⟩ (rl2.less sb2.2) re2 Dn ⟨fun σ' E1 B' C' H' s rl' re' k => ok.nx σ' E1 B' C' H' (sb2.1.trans s) rl' re' k, fun v d B' C' H' s rl' rp k => ok.rt v d B' C' H' (sb2.1.trans s) rl' rp k,
        fun σ' E1 B' C' H' s rl' re' k => ok.bk σ' E1 B' C' H' (sb2.1.trans s) rl' re' k, fun σ' E1 B' C' H' s rl' re' k => ok.ct σ' E1 B' C' H' (sb2.1.trans s) rl' re' k⟩
    | some i =>
      exact h2 hb a B2 F _ H2 ⟨Same.refl B2, sb.2⟩ (rl2.less sb2.2) (re2.set i .ref) _ ⟨fun σ' E1 B' C' H' s rl' re' k => ok.nx _ _ B' C' H' (sb2.1.trans s) rl' (re'.unset i) k, fun v d B' C' H' s rl' rp k => ok.rt v d B' C' H' (sb2.1.trans s) rl' rp k,
        fun σ' E1 B' C' H' s rl' re' k => ok.bk _ _ B' C' H' (sb2.1.trans s) rl' (re'.unset i) k, fun σ' E1 B' C' H' s rl' re' k => ok.ct _ _ B' C' H' (sb2.1.trans s) rl' (re'.unset i) k⟩
/-! ### isinstance(e, an own class) -/
def rIsX (K : PySem.W.Frag) (a : Addr) (cls : Value) (d : Option Addr) : List V → Hp → VK → Prop := fun xs G Q => ∃ De, cls = .ref De ∧ d = none ∧ ExcC K De ∧ rIsE K De a xs G Q
theorem call_isX {X : Cx} {a : Addr} {cls : Value} {d : Option Addr} {ob : Obj} {pn : List (Addr × Obj)} (hz : Zc cls d ob) (hf : ∃ vs, ob.data = .fields vs) : CallR (X.suite a ((a, ob) :: pn)) (.builtin "isinstance") (rIsX X.K a cls d) := by
  rintro pins s σ H xs us Q I r ⟨De, rfl, rfl, C, h⟩
  exact call_isE C hz hf pins s σ H xs us Q I r h
theorem call_isXK (K : PySem.W.Frag) {X : Cx} {a : Addr} {cls : Value} {d : Option Addr} {ob : Obj} {pn : List (Addr × Obj)} (hz : Zc cls d ob) (hf : ∃ vs, ob.data = .fields vs) (hK : X.K = K := by rfl) : CallR (X.suite a ((a, ob) :: pn)) (.builtin "isinstance") (rIsX K a cls d) := by
  subst hK
  exact call_isX hz hf
/-- a class of the text, by its name -/
def ClsG (mg : Str → Option Value) (x : Str) : Prop := ∃ a : Addr, mg x = some (.ref a)
def clsAd (mg : Str → Option Value) (x : Str) : Addr := match mg x with
  | some (.ref a) => a
  | _ => 0
theorem ClsG.at {mg : Str → Option Value} {x : Str} (h : ClsG mg x) : mg x = some (.ref (clsAd mg x)) := by
  obtain ⟨a, h⟩ := h
  unfold clsAd
  rw [h]
theorem pe_clsG {mg : Str → Option Value} {X : Cx} {x : Str} {pos : Pos} (h : ClsG mg x) (hm : X.mg = mg := by rfl) (hg : Gl X x := by rfl) (hd : (x == ("__debug__" : Str)) = false := by decide) : PE X (.Name x pos) (tC (.ref (clsAd mg x))) := by
  subst hm
  exact pe_glob hg h.at rfl hd
theorem nm_cls {X : Cx} {x : Str} (h : ClsG X.mg x) (hg : Gl X x := by rfl) (hd : (x == ("__debug__" : Str)) = false := by decide) : Names X x (.ref (clsAd X.mg x)) := ⟨hg, hd, .inl h.at⟩
theorem ps_tryK (K : PySem.W.Frag) {X : Cx} {body : List Stmt} {hd : ExceptHandler} {hds : List ExceptHandler} {l : List HdA} {pos : Pos} {tb : WX → TS} {Wo : WX} (hs : X.stack = X.env :: X.outer) (hf : X.env.frame = some X.env.locals) (hN : X.N.Nodup) (tk : Takes X Wo)
    (hb : ∀ (W : WX) (pn : List (Addr × Obj)) (xe : Value → Shared → Prop), Takes (X.tr pn xe) W → PassesOwn (model X.prog X.w) X.A X.env xe → PSs (X.tr pn xe) body (tb W))
    (hh : HdsA X (hd :: hds) l) (hK : X.K = K := by rfl) : PS X (.Try body (hd :: hds) [] [] pos) (tTryA K tb Wo l) := by
  subst hK
  exact ps_tryA hs hf hN tk hb hh
theorem wc_isX {K : PySem.W.Frag} {B0 : Gr} {C : CH} {P : D → CH → Prop} {a De FE : Addr} {b : Bool} (hc : ExcC K De) (hk : PySem.W.kitOne K (.ref De) (.ref FE) = some b) (k : P (.bl b) C) : WC B0 (rIsX K a (.ref De) none) [.ref a, .ref FE] C P := fun B F H vs sb rl rs Q q => by
  cases rs with
  | cons r1 rs =>
    cases rs with
    | cons r2 rs =>
      cases rs
      cases r1
      cases r2
      exact ⟨De, rfl, rfl, hc, .ref FE, .ref FE, b, rfl, fun u z => z, hk, q _ _ B C H (Same.refl B) rl .bl k⟩
/-! ### defs whose code object is known -/
structure FunL (K : PySem.W.Frag) (x qual : Str) (st : Stmt) (f : Addr) (fd : FuncData) (cd : Addr) : Prop where
  ex : ∃ (oc : Value) (od : Option Addr) (kV doc pm : Value) (an : Option Addr) (ct : Value) (osl : Array (Option Value)),
    fd = PySem.W.fnOf x qual (defArgs st) (defBody st) (defScope st) .none kV doc pm an (.ref cd) ct ∧ K.lookup f = some ⟨oc, od, .func fd, osl⟩ ∧ PySem.W.codeIn K (.ref cd) qual = true
  kp : PySem.W.keepIn K (.ref f) = true
def DefAtL (K : PySem.W.Frag) (mg : Str → Option Value) (x : Str) (st : Stmt) (ps : List Str) (cd : Addr) : Prop :=
  ∃ f fd, FunL K x x st f fd cd ∧ mg x = some (.ref f) ∧ Binds K fd ps []
section
variable {P : Program} {w : World} {K : PySem.W.Frag} {mg : Str → Option Value} {base : Heap}
theorem funL_mk {x qual : Str} {st : Stmt} {f : Addr} {oc kV doc pm ct : Value} {od an : Option Addr} {cd : Addr} {sl : Array (Option Value)} (h : K.lookup f = some ⟨oc, od, .func (PySem.W.fnOf x qual (defArgs st) (defBody st) (defScope st) .none kV doc pm an (.ref cd) ct), sl⟩)
    (hc : PySem.W.codeIn K (.ref cd) qual = true) (hk : PySem.W.keepIn K (.ref f) = true) : FunL K x qual st f (PySem.W.fnOf x qual (defArgs st) (defBody st) (defScope st) .none kV doc pm an (.ref cd) ct) cd := ⟨⟨oc, od, kV, doc, pm, an, ct, sl, rfl, h, hc⟩, hk⟩
theorem has_ofXL {x : Str} {st : Stmt} {N ps : List Str} {k : Nat} {g : SpX} {cd : Addr} (Df : DefAtL K mg x st ps cd) (S : FnScope N ps (defScope st)) (len : ∀ ds C P PX, g ds C P PX → ds.length = ps.length)
    (hbody : ∀ (f : Addr) (A : Around) (outer : List PySem.Env) (s : Shared) (H : Hp) (E : XK), Room k (A.deeper (PyProof.Rows.envOfC x (defScope st) s.heap.objs.size f (.ref cd))) →
      ∃ t, PSs (cxOf (L2.CX P w) P w K mg base N x (defScope st) f (.ref cd) A outer s H E) (defBody st) t ∧ ∀ (B : Gr) ds C PD PX, g ds C PD PX → XOkF mg B E PX → WS B t (startD N.length ds) C { nx := fun _ C' => PD .non C', rt := PD }) :
    HasX P w K mg base (k + 1) x ps (spX mg g) := by
  obtain ⟨f, fd, F, hm, hb⟩ := Df
  obtain ⟨oc, od, kV, doc, pm, an, ct, osl, rfl, lk, hcd⟩ := F.ex
  refine ⟨f, _, fn_of lk hcd S ?_ fun A outer s H vs Q E hr h => ?_, hm, F.kp, hb⟩
  · rintro vs H Q E ⟨B, F, C, ds, P, PX, _, rp, h, _⟩
    rw [rp.length]
    exact len _ _ _ _ h
  · obtain ⟨t, h1, h2⟩ := hbody f A outer s H E hr
    obtain ⟨B, F, C, ds, P, PX, rl, rp, hg, q, qx⟩ := h
    refine ⟨t, h1, h2 ⟨B, F⟩ ds C P PX hg (fun B' F' H' C' sb rl' x c d ok p => qx x c d B' C' H' sb.1 (rl'.less sb.2) ok p) B F _ H (Sb.refl B F) rl (RelE.begin rp) _ ⟨?_, ?_, ?_, ?_⟩⟩
    · exact fun σ' E' B' C' H' e rl' _ p => q .non .non B' C' H' e rl' .non p
    · exact fun v d B' C' H' e rl' rp' p => q v d B' C' H' e rl' rp' p
    · exact fun _ _ _ _ _ _ _ _ z => z
    · exact fun _ _ _ _ _ _ _ _ z => z
/-! ### the end with tables -/
def tabC (cs : List (Addr × Str)) : CH := fun b => (cs.find? fun p => decide (p.1 = b)).map fun p => .tab p.2
def spLawT (K : PySem.W.Frag) (cs : List (Addr × Str)) : Sp := fun vs H Q _ => ∃ (a : Addr) (ns : List Int), vs = [.ref a] ∧ SqL K H a (ns.map V.int) ∧ (∀ p ∈ cs, H p.1 = some (.tbl #[])) ∧ ns.length ≤ 63 ∧ ∀ H', Q (.bl true) H'
theorem law_ofT {k : Nat} {f : Addr} {fd : FuncData} {ps : List Str} {cs : List (Addr × Str)} (F : FnOk P w K mg base CX0 k f fd ps (spScr K fun ns C P => ns.length ≤ 63 ∧ C = tabC cs ∧ ∀ C', P (.bl true) C')) : FnOk P w K mg base CX0 k f fd ps (spLawT K cs) :=
  F.imp fun vs H Q E ⟨a, ns, e, hs, ht, hl, q⟩ => by
    have tab : ∀ b c, tabC cs b = some c → H b = some (.tbl #[]) ∧ ∃ q, c = .tab q := fun b c z => by
      unfold tabC at z
      cases w : cs.find? fun p => decide (p.1 = b) with
      | none => rw [w] at z; cases z
      | some p =>
        rw [w] at z
        have eb : p.1 = b := by simpa using List.find?_some w
        have hp := ht p (List.mem_of_find?_eq_some w)
        rw [eb] at hp
        exact ⟨hp, p.2, by cases z; rfl⟩
    refine ⟨fun b => if (tabC cs b).isSome then none else H b, fun _ => none, tabC cs, a, ns, fun d _ => d = .bl true, ⟨fun b u z => ?_, (fun _ _ z => by cases z), (fun _ _ z => by cases z), (fun _ _ z => by cases z), fun b c z => ?_, fun b c z => ?_⟩, e, ?_,
      ⟨hl, rfl, fun _ => rfl⟩, fun v d B' C' H' _ _ rp e => by subst e; cases rp; exact q H'⟩
    · have z : (if (tabC cs b).isSome then none else H b) = some u := z
      split at z
      · cases z
      · exact z
    · show (if (tabC cs b).isSome then none else H b) = none
      rw [z]
      rfl
    · obtain ⟨h1, q, rfl⟩ := tab b c z
      exact ⟨_, h1, .tab True.intro fun pos cv z => by
        have z : codeAmong pos [] = some cv := z
        simp [codeAmong] at z⟩
    · have na : H a ≠ some (.tbl #[]) ∨ K.lookup a ≠ none := by
        rcases hs with (h1 | ⟨o, h1⟩) | ⟨o, _, _, h1, _⟩
        · left; rw [h1]; intro z; cases z
        · left; rw [h1]; intro z; cases z
        · right; rw [h1]; intro z; cases z
      rcases hs with (h1 | ⟨o, h1⟩) | h1
      · refine .inl (.inl ?_)
        have z : tabC cs a = none := by
          cases w : tabC cs a with
          | none => rfl
          | some c => rw [(tab a c w).1] at h1; cases h1
        show (if (tabC cs a).isSome then none else H a) = _
        rw [z]
        exact h1
      · refine .inl (.inr ⟨o, ?_⟩)
        have z : tabC cs a = none := by
          cases w : tabC cs a with
          | none => rfl
          | some c => rw [(tab a c w).1] at h1; cases h1
        show (if (tabC cs a).isSome then none else H a) = _
        rw [z]
        exact h1
      · exact .inr h1
end
theorem walk_ofTop {l : PySem.W.OpenLaw} {k : Nat} {q : Program} {loose : List Str} {XP : (Str → Option Value) → Heap → Prop} {YP : World → Heap → Prop} {d : DefRec} {K : Params → PySem.W.Frag} {ts : List Addr}
    (hn : l.most = some 63) (hdf : d.params.defaults = []) (hr : Room k callerA) (hY : ∀ (w : World) (h : Heap), YP w h → (K w.params).In h) (hT : ∀ (w : World) (h : Heap), YP w h → ∀ Pt ∈ ts, h.get? Pt = some (PySem.W.tabObj #[]))
    (F : ∀ (w : World) (mg : Str → Option Value) (fa : Addr) (h : Heap), (K w.params).In h → h.Ns mainGlobals mg → mg d.name = some (.ref fa) →
      ∃ (fd : FuncData) (cs : List (Addr × Addr)) (qs : List (Addr × Str)), (∀ p ∈ qs, ∃ c, (c, p.1) ∈ cs) ∧ (∀ p ∈ cs, PySem.W.codeHdIn (K w.params) p.1 p.2 = true ∧ p.2 ∈ ts) ∧ (∀ p ∈ cs, (K w.params).lookup p.2 = none) ∧ (∀ (s : Shared) (u : Value), BindsTo s fd ⟨[u], []⟩ [("_law_script", u)]) ∧
        ∀ base : Heap, (K w.params).In base → base.Ns mainGlobals mg → (∀ p ∈ cs, LamX.TabB base mg p.1 p.2) → FnOk l.prog w (K w.params) mg base CX0 k fa fd ["_law_script"] (spLawT (K w.params) qs)) :
    PySem.W.WalkO q loose XP YP l.row.toRowW d [] (fun f vs => PySem.call f vs) := by
  refine Att.attach_callB hn hdf fun w s₀ s₁ mg mb fa o pm cd doc a vs ns G Y ho hd hcd hmg hobj hints hlen hbits hg => ?_
  have KX := hY w _ Y
  have TX := hT w _ Y
  obtain ⟨fd, cs, qs, h1, h2, h3, h4, h5⟩ := F w mg fa _ KX G.T.g hmg
  exact LamX.law_callTs KX G.T.g G.T.b G.T.builtins G.T.nolimit hg (fun p hp => TX _ (h2 p hp).2) h3 (fun p hp => PySem.W.codeHd_of_K KX (h2 p hp).1) G.T.bmain hobj hints (Nat.le_trans hlen (by decide)) hr h5 h4
    (fun H hH hS => ⟨a, ns, rfl, hS, fun p hp => (h1 p hp).elim fun c hc => hH _ hc, hlen, fun _ => rfl⟩) fun H e s' z => z
theorem tk_of {P : Program} {w : World} {K : PySem.W.Frag} {mg : Str → Option Value} {base : Heap} {N : List Str} {x : Str} {sc : Scope} {f : Addr} {cdv : Value} {A : Around} {outer : List PySem.Env} {s : Shared} {H : Hp} {E : XK} :
    Takes (cxOf (L2.CX P w) P w K mg base N x sc f cdv A outer s H E) (fun cls d _ G => E cls d G) := takes_of rfl rfl rfl rfl
end Dv

set_option maxRecDepth 100000
set_option maxHeartbeats 1000000
/-! The program's way to do an edit, and the law's. -/
namespace Dv
open PySem L2
mutual
/-- the parts of the scroller n changed -/
def wpB (n : Int) (φ : List Box → List Box) : Box → Box
  | .block m h => .block m h
  | .scroller m h ps => .scroller m h (if m = n then φ (wps n φ ps) else wps n φ ps)
def wps (n : Int) (φ : List Box → List Box) : List Box → List Box
  | [] => []
  | p :: r => wpB n φ p :: wps n φ r
end
theorem wps_map (n : Int) (φ : List Box → List Box) : ∀ l, wps n φ l = l.map (wpB n φ)
  | [] => rfl
  | p :: r => by rw [wps, wps_map n φ r]; rfl
theorem wpB_num (n : Int) (φ : List Box → List Box) (b : Box) : (wpB n φ b).num = b.num := by cases b <;> rfl
mutual
/-- the height of the box n changed -/
def whB (n v : Int) : Box → Box
  | .block m h => .block m (if m = n then v else h)
  | .scroller m h ps => .scroller m (if m = n then v else h) (whs n v ps)
def whs (n v : Int) : List Box → List Box
  | [] => []
  | p :: r => whB n v p :: whs n v r
end
theorem whs_map (n v : Int) : ∀ l, whs n v l = l.map (whB n v)
  | [] => rfl
  | p :: r => by rw [whs, whs_map n v r]; rfl
def insB (i : Int) (x : Box) (l : List Box) : List Box := l.take i.toNat ++ [x] ++ l.drop i.toNat
def remB (n : Int) (l : List Box) : List Box := l.filter fun p => decide (p.num ≠ n)
mutual
theorem wp_ins (n i : Int) (x : Box) : ∀ b, wpB n (insB i x) b = withB (.ins n i x) b
  | .block m h => rfl
  | .scroller m h ps => by
    have e := wps_ins n i x ps
    rw [wpB, withB, e]
    show Box.scroller m h (if m = n then _ else _) = Box.scroller m h (if m = n then _ else _)
    rfl
theorem wps_ins (n i : Int) (x : Box) : ∀ l, wps n (insB i x) l = withs (.ins n i x) l
  | [] => rfl
  | p :: r => by
    rw [wps, wp_ins n i x p, wps_ins n i x r]
    rfl
end
mutual
theorem wh_res (n v : Int) : ∀ b, whB n v b = withB (.res n v) b
  | .block m h => rfl
  | .scroller m h ps => by
    have e := whs_res n v ps
    rw [whB, withB, e]
    rfl
theorem whs_res (n v : Int) : ∀ l, whs n v l = withs (.res n v) l
  | [] => rfl
  | p :: r => by
    rw [whs, wh_res n v p, whs_res n v r]
    rfl
end
theorem filter_wps (n : Int) (φ : List Box → List Box) (m : Int) : ∀ l, remB m (wps n φ l) = wps n φ (remB m l)
  | [] => rfl
  | p :: r => by
    have ih := filter_wps n φ m r
    unfold remB at ih ⊢
    rw [wps, List.filter_cons, List.filter_cons, wpB_num]
    split
    · rw [wps, ih]
    · exact ih
mutual
theorem wp_rem (n m : Int) : ∀ b : Box, (∀ p ∈ b.all, m ∈ p.parts.map Box.num → p.num = n) → wpB n (remB m) b = withB (.rem m) b
  | .block k h, _ => rfl
  | .scroller k h ps, H => by
    have hp : ∀ q ∈ alls ps, m ∈ q.parts.map Box.num → q.num = n := fun q hq => H q (by rw [Box.all]; simp [hq])
    have e := wps_rem n m ps hp
    have e2 : wps n (remB m) (remB m ps) = withs (.rem m) ps := e
    rw [wpB, withB]
    show Box.scroller k h _ = Box.scroller k h (withs (.rem m) ps)
    congr 1
    by_cases c : k = n
    · rw [if_pos c, filter_wps, e2]
    · rw [if_neg c, ← e2]
      have no : m ∉ ps.map Box.num := fun z => c (H (.scroller k h ps) (by rw [Box.all]; simp) z)
      have : remB m ps = ps := List.filter_eq_self.mpr fun a ha => by
        simp only [decide_eq_true_eq]
        intro z
        exact no (List.mem_map.mpr ⟨a, ha, z⟩)
      rw [this]
theorem wps_rem (n m : Int) : ∀ l : List Box, (∀ p ∈ alls l, m ∈ p.parts.map Box.num → p.num = n) → wps n (remB m) (remB m l) = withs (.rem m) l
  | [], _ => rfl
  | p :: r, H => by
    have h1 := wp_rem n m p fun q hq => H q (by rw [alls]; simp [hq])
    have h2 := wps_rem n m r fun q hq => H q (by rw [alls]; simp [hq])
    rw [withs]
    unfold remB at h1 h2 ⊢
    rw [List.filter_cons]
    show _ = if decide (p.num ≠ m) = true then _ else _
    split
    · rw [wps, h1, h2]
    · exact h2
end
/-! one parent -/
def kids (l : List Box) : List Int := l.flatMap fun p => p.parts.map Box.num
mutual
theorem kids_all (m : Int) : ∀ b : Box, (kids b.all).count m = ((alls b.parts).map Box.num).count m
  | .block n h => by simp [Box.all, kids, Box.parts, alls]
  | .scroller n h ps => by
    have e := kids_alls m ps
    show List.count m (kids (Box.scroller n h ps).all) = ((alls ps).map Box.num).count m
    rw [Box.all, e]
    show List.count m (ps.map Box.num ++ kids (alls ps)) = _
    rw [List.count_append]
theorem kids_alls (m : Int) : ∀ l : List Box, ((alls l).map Box.num).count m = (l.map Box.num).count m + (kids (alls l)).count m
  | [] => rfl
  | p :: r => by
    have h1 := kids_all m p
    have h2 := kids_alls m r
    rw [alls, List.map_append, List.count_append, h2]
    have e : kids (p.all ++ alls r) = kids p.all ++ kids (alls r) := by unfold kids; rw [List.flatMap_append]
    rw [e, List.count_append, h1, all_eq p, List.map_cons, List.map_cons, List.count_cons, List.count_cons]
    omega
end
theorem kids_two {m : Int} : ∀ {l : List Box} {p q : Box}, p ∈ l → q ∈ l → m ∈ p.parts.map Box.num → m ∈ q.parts.map Box.num → (kids l).count m ≤ 1 → p = q
  | [], _, _, hp, _, _, _, _ => by cases hp
  | x :: r, p, q, hp, hq, h1, h2, hc => by
    have e : kids (x :: r) = x.parts.map Box.num ++ kids r := rfl
    rw [e, List.count_append] at hc
    have pos : ∀ {y : Box}, y ∈ r → m ∈ y.parts.map Box.num → 0 < (kids r).count m := fun {y} hy hm => List.count_pos_iff.mpr (List.mem_flatMap.mpr ⟨y, hy, hm⟩)
    rcases List.mem_cons.mp hp with ep | hp2
    · rcases List.mem_cons.mp hq with eq | hq2
      · rw [ep, eq]
      · have := pos hq2 h2
        rw [ep] at h1
        have := List.count_pos_iff.mpr h1
        omega
    · rcases List.mem_cons.mp hq with eq | hq2
      · have := pos hp2 h1
        rw [eq] at h2
        have := List.count_pos_iff.mpr h2
        omega
      · exact kids_two hp2 hq2 h1 h2 (by omega)
theorem parentB_some : ∀ {l : List Box} {m n : Int}, parentB l m = some n → ∃ p ∈ l, m ∈ p.parts.map Box.num ∧ p.num = n
  | [], _, _, h => by cases h
  | x :: r, m, n, h => by
    rw [parentB] at h
    split at h
    · rename_i hm
      exact ⟨x, by simp, hm, Option.some.inj h⟩
    · obtain ⟨p, h1, h2, h3⟩ := parentB_some h
      exact ⟨p, by simp [h1], h2, h3⟩
theorem parentB_none : ∀ {l : List Box} {m : Int}, parentB l m = none → ∀ p ∈ l, m ∉ p.parts.map Box.num
  | [], _, _, p, hp => by cases hp
  | x :: r, m, h, p, hp => by
    rw [parentB] at h
    split at h
    · cases h
    · rename_i hm
      rcases List.mem_cons.mp hp with rfl | hp
      · exact hm
      · exact parentB_none h p hp
theorem kids_count {b : Box} (nd : (b.all.map Box.num).Nodup) (m : Int) : (kids b.all).count m ≤ 1 := by
  have h := List.nodup_iff_count.mp nd m
  rw [kids_all, all_eq, List.map_cons, List.count_cons] at *
  omega
theorem rem_parent {b : Box} {m n : Int} (nd : (b.all.map Box.num).Nodup) (h : parentB b.all m = some n) : wpB n (remB m) b = withB (.rem m) b := by
  obtain ⟨p, h1, h2, h3⟩ := parentB_some h
  refine wp_rem n m b fun q hq hm => ?_
  have := kids_two h1 hq h2 hm (kids_count nd m)
  rw [← this]
  exact h3
theorem root_parent {b : Box} {m : Int} (nd : (b.all.map Box.num).Nodup) : parentB b.all m = none ↔ (m = b.num ∨ m ∉ b.all.map Box.num) := by
  have key : (kids b.all).count m = ((alls b.parts).map Box.num).count m := kids_all m b
  have hc := List.nodup_iff_count.mp nd m
  rw [all_eq, List.map_cons, List.count_cons] at hc
  constructor
  · intro h
    have no := parentB_none h
    have z : (kids b.all).count m = 0 := by
      rw [List.count_eq_zero]
      intro hm
      obtain ⟨p, hp, hm⟩ := List.mem_flatMap.mp hm
      exact no p hp hm
    rw [key] at z
    by_cases c : m = b.num
    · exact .inl c
    · right
      rw [all_eq, List.map_cons, List.mem_cons]
      rintro (h | h)
      · exact c h
      · exact List.count_eq_zero.mp z h
  · intro h
    have z : (kids b.all).count m = 0 := by
      rw [key]
      rcases h with rfl | h
      · simp at hc
        first
          | exact hc
          | omega
      · rw [List.count_eq_zero]
        rw [all_eq, List.map_cons, List.mem_cons] at h
        exact fun hm => h (.inr hm)
    cases e : parentB b.all m with
    | none => rfl
    | some n =>
      obtain ⟨p, h1, h2, _⟩ := parentB_some e
      exact absurd (List.mem_flatMap.mpr ⟨p, h1, h2⟩) (List.count_eq_zero.mp z)
mutual
theorem nd_encB : ∀ b : Box, NoDic (encB b)
  | .block n h => .tup fun x hx => by
    simp only [List.mem_cons, List.not_mem_nil, or_false] at hx
    rcases hx with rfl | rfl | rfl
    · exact .str
    · exact .int
    · exact .int
  | .scroller n h ps => .tup fun x hx => by
    have := nd_encBs ps
    simp only [List.mem_cons, List.not_mem_nil, or_false] at hx
    rcases hx with rfl | rfl | rfl | rfl
    · exact .str
    · exact .int
    · exact .int
    · exact .tup this
theorem nd_encBs : ∀ l : List Box, ∀ x ∈ encBs l, NoDic x
  | [], _, h => by cases h
  | p :: r, x, h => by
    have h1 := nd_encB p
    have h2 := nd_encBs r
    rw [encBs] at h
    rcases List.mem_cons.mp h with rfl | h
    · exact h1
    · exact h2 x h
end
/-! errors by name -/
def errOf (z : Str) : Str := if z = "none" then "NoSuchBox" else if z = "block" then "NotAScroller" else "RefusedEdit"
def outE (P : D → CH → Prop) (PX : Exn → CH → Prop) (C : CH) : Str ⊕ Box → Prop
  | .inr l => P (encB l) C
  | .inl z => PX (.own (errOf z)) C
/-- as editR, before the whole is looked at -/
def editQ (b : Box) (e : Edit) : Str ⊕ Box := match findB b.all e.num with
  | none => .inl "none"
  | some s => if e.isIns && !s.isS then .inl "block" else if e.bad b s then .inl "refused" else .inr (withB e b)
theorem editR_Q (b : Box) (e : Edit) : editR b e = match editQ b e with
    | .inl z => .inl z
    | .inr l => if isDoc l then .inr l else .inl "refused" := by
  unfold editR editQ
  cases ef : findB b.all e.num with
  | none => rfl
  | some s =>
    cases h1 : (e.isIns && !s.isS) <;> cases h2 : e.bad b s <;> simp [h1, h2]
theorem editQ_inr {b l : Box} {e : Edit} (h : editQ b e = .inr l) : l = withB e b := by
  unfold editQ at h
  cases ef : findB b.all e.num with
  | none => rw [ef] at h; cases h
  | some s =>
    rw [ef] at h
    cases h1 : (e.isIns && !s.isS) <;> cases h2 : e.bad b s <;> simp [h1, h2] at h
    exact h.symm
theorem editR_inl {b : Box} {e : Edit} {z : Str} (h : editR b e = .inl z) : z = "none" ∨ z = "block" ∨ z = "refused" := by
  unfold editR at h
  cases ef : findB b.all e.num with
  | none => rw [ef] at h; cases h; exact .inl rfl
  | some s =>
    rw [ef] at h
    cases h1 : (e.isIns && !s.isS) <;> cases h2 : e.bad b s <;> cases h3 : isDoc (withB e b) <;> simp [h1, h2, h3] at h <;> subst h <;> simp
end Dv

set_option maxRecDepth 100000
set_option maxHeartbeats 1000000
/-! Deeds, plainly; a document with its offsets. -/
namespace Dv
open PySem L2
inductive Deed where
  | edit (e : Edit)
  | set (m v : Int)
  | moves (mv : List (Int × Int))
def encDd : Deed → D
  | .edit e => .tup [.str "edit", encE e]
  | .set m v => .tup [.str "set", .int m, .int v]
  | .moves mv => .tup [.str "moves", .tup (mv.map pairD)]
abbrev DocS := Box × List (Int × Int)
def encS (s : DocS) : D := .tup [encB s.1, .dic (encI s.2)]
def encDone : Str ⊕ DocS → D
  | .inl z => .str z
  | .inr s => encS s
def outD (P : D → CH → Prop) (PX : Exn → CH → Prop) (C : CH) : Str ⊕ DocS → Prop
  | .inr s => P (encS s) C
  | .inl z => PX (.own (errOf z)) C
def setR (b : Box) (O : List (Int × Int)) (m v : Int) : Str ⊕ DocS := match findB b.all m with
  | none => .inl "none"
  | some s => if s.isS then .inr (b, fitB (putI O m v) b) else .inl "block"
def editD (b : Box) (O : List (Int × Int)) : Str ⊕ Box → Str ⊕ DocS
  | .inl z => .inl z
  | .inr l => .inr (l, afterB b O l)
def doD (b : Box) (O : List (Int × Int)) : Deed → Str ⊕ DocS
  | .edit e => editD b O (editR b e)
  | .set m v => setR b O m v
  | .moves mv => .inr (b, movedL (rangesB b) mv O)
def Deed.Ok : Deed → Prop
  | .edit e => e.Ok
  | .set _ _ => True
  | .moves mv => mv.length ≤ 100
/-- a document with its offsets, each in its range -/
structure GoodS (b : Box) (O : List (Int × Int)) : Prop where
  lev : b.lev ≤ 5
  len : b.all.length ≤ 200
  nd : (b.all.map Box.num).Nodup
  keys : keysI O = (scrsB b).map Box.num
  rng : ∀ s ∈ scrsB b, 0 ≤ gI O s.num ∧ gI O s.num ≤ rangeB s
theorem GoodS.offs {b : Box} {O : List (Int × Int)} (h : GoodS b O) : OffsG b O where
  keys := h.keys
  pos := fun k => by
    by_cases e : k ∈ keysI O
    · rw [h.keys] at e
      obtain ⟨s, hs, rfl⟩ := List.mem_map.mp e
      exact (h.rng s hs).1
    · unfold gI
      rw [getI_none.mpr e]
      exact Int.le_refl _
theorem GoodS.ndO {b : Box} {O : List (Int × Int)} (h : GoodS b O) : (keysI O).Nodup := by rw [h.keys]; exact nodup_scrs h.nd
theorem GoodS.keysR {b : Box} {O : List (Int × Int)} (h : GoodS b O) : keysI O = keysI (rangesB b) := by rw [h.keys, rangesB_keys]
theorem scrs_len (b : Box) : (scrsB b).length ≤ b.all.length := List.length_filter_le _ _
theorem GoodS.lenO {b : Box} {O : List (Int × Int)} (h : GoodS b O) : O.length ≤ 200 := by
  have e := congrArg List.length h.keys
  have := scrs_len b
  have := h.len
  simp [keysI] at e
  omega
theorem gI_fit {b s : Box} (o : List (Int × Int)) (nd : (b.all.map Box.num).Nodup) (hs : s ∈ scrsB b) : gI (fitB o b) s.num = min (max (gI o s.num) 0) (rangeB s) := by
  have g := getI_mem (l := fitB o b) (p := (s.num, min (max ((getI o s.num).getD 0) 0) (rangeB s))) (by rw [fitB_keys _ nd]; exact nodup_scrs nd) (by rw [fitB_map _ nd]; exact List.mem_map.mpr ⟨s, hs, rfl⟩)
  unfold gI
  rw [g]
  rfl
theorem good_fit {b : Box} (o : List (Int × Int)) (hl : b.lev ≤ 5) (hz : b.all.length ≤ 200) (nd : (b.all.map Box.num).Nodup) : GoodS b (fitB o b) where
  lev := hl
  len := hz
  nd := nd
  keys := fitB_keys o nd
  rng := fun s hs => by
    have := rangeB_nonneg s
    rw [gI_fit o nd hs]
    omega
theorem good_moved {b : Box} : ∀ (mv O : List (Int × Int)), GoodS b O → GoodS b (movedL (rangesB b) mv O)
  | [], _, h => h
  | p :: r, O, h => by
    rw [movedL]
    by_cases z : p.1 ∈ keysI (rangesB b)
    · rw [if_pos z]
      refine good_moved r _ ⟨h.lev, h.len, h.nd, ?_, fun s hs => ?_⟩
      · rw [keys_put_mem (by rw [h.keysR]; exact z), h.keys]
      · rw [gI_put]
        by_cases e : s.num = p.1
        · rw [if_pos e, ← e, rangesB_at h.nd hs]
          have := rangeB_nonneg s
          unfold clampI
          omega
        · rw [if_neg e]
          exact h.rng s hs
    · rw [if_neg z]
      exact good_moved r O h
theorem good_do {b : Box} {O : List (Int × Int)} {d : Deed} {s : DocS} (h : GoodS b O) (e : doD b O d = .inr s) : GoodS s.1 s.2 := by
  cases d with
  | edit ed =>
    replace e : editD b O (editR b ed) = .inr s := e
    cases er : editR b ed with
    | inl z => rw [er] at e; cases e
    | inr l =>
      rw [er] at e
      obtain rfl := Sum.inr.inj e
      obtain ⟨_, hdoc⟩ := editR_doc er
      obtain ⟨f1, f2, f3, f4, f5, f6⟩ := isDoc_facts hdoc
      have f7 := lev_deep l
      exact good_fit _ (by show l.lev ≤ 5; omega) (by show l.all.length ≤ 200; omega) f4
  | set m v =>
    replace e : setR b O m v = .inr s := e
    unfold setR at e
    cases ef : findB b.all m with
    | none => rw [ef] at e; cases e
    | some q =>
      rw [ef] at e
      cases hq : q.isS with
      | false => simp [hq] at e
      | true =>
        simp only [hq, if_true] at e
        obtain rfl := Sum.inr.inj e
        exact good_fit _ h.lev h.len h.nd
  | moves mv =>
    obtain rfl := Sum.inr.inj e
    exact good_moved mv O h
theorem map_keys : ∀ {A : List (Int × Int)}, (keysI A).Nodup → A = (keysI A).map fun k => (k, gI A k)
  | [], _ => rfl
  | p :: r, h => by
    simp only [keysI, List.map_cons, List.nodup_cons] at h
    have e := map_keys h.2
    have g : gI (p :: r) p.1 = p.2 := by unfold gI; rw [getI_cons, if_pos rfl]; rfl
    simp only [keysI, List.map_cons]
    rw [g]
    congr 1
    conv => lhs; rw [e]
    apply List.map_congr_left
    intro k hk
    have ne : p.1 ≠ k := fun z => h.1 (by rw [z]; exact hk)
    have g2 : gI (p :: r) k = gI r k := by unfold gI; rw [getI_cons, if_neg ne]
    rw [g2]
theorem ext_keys {A B : List (Int × Int)} (hk : keysI A = keysI B) (hn : (keysI A).Nodup) (h : ∀ k ∈ keysI A, gI A k = gI B k) : A = B := by
  have hn2 : (keysI B).Nodup := hk ▸ hn
  have e : ((keysI A).map fun k => (k, gI A k)) = (keysI B).map fun k => (k, gI B k) := by
    rw [← hk]
    apply List.map_congr_left
    intro k hk2
    rw [h k hk2]
  exact (map_keys hn).trans (e.trans (map_keys hn2).symm)
/-- one offset set, as the law sets it -/
theorem set_fit {b s : Box} {O : List (Int × Int)} {m v : Int} (h : GoodS b O) (hf : findB b.all m = some s) (hs : s.isS = true) : fitB (putI O m v) b = putI O m (max 0 (min v (rangeB s))) := by
  obtain ⟨h1, h2⟩ := findB_is hf
  have hm : s ∈ scrsB b := List.mem_filter.mpr ⟨h1, hs⟩
  have hk : m ∈ keysI O := by rw [h.keys, ← h2]; exact List.mem_map.mpr ⟨s, hm, rfl⟩
  have r0 := rangeB_nonneg s
  refine ext_keys ?_ (by rw [fitB_keys _ h.nd]; exact nodup_scrs h.nd) fun k hk2 => ?_
  · rw [fitB_keys _ h.nd, keys_put_mem hk, h.keys]
  · rw [fitB_keys _ h.nd] at hk2
    obtain ⟨q, hq, rfl⟩ := List.mem_map.mp hk2
    rw [gI_fit _ h.nd hq, gI_put, gI_put]
    by_cases e : q.num = m
    · rw [if_pos e, if_pos e]
      have e2 : q = s := by
        have := findB_of h.nd (List.mem_filter.mp hq).1
        rw [e, hf] at this
        exact (Option.some.inj this).symm
      rw [e2]
      omega
    · rw [if_neg e, if_neg e]
      have := h.rng q hq
      omega
theorem clamp_law {i m : Int} (h : 0 ≤ m) : clampI i m = max 0 (min i m) := by
  unfold clampI
  omega
/-- deeds one after another -/
def runD : DocS → List Deed → Option DocS
  | s, [] => some s
  | s, d :: r => match doD s.1 s.2 d with
    | .inr t => runD t r
    | .inl _ => none
theorem runD_snoc : ∀ {l : List Deed} {s t u : DocS} {d : Deed}, runD s l = some t → doD t.1 t.2 d = .inr u → runD s (l ++ [d]) = some u
  | [], s, t, u, d, h, e => by
    obtain rfl := Option.some.inj h
    rw [List.nil_append, runD, e]
    rfl
  | c :: l, s, t, u, d, h, e => by
    rw [runD] at h
    rw [List.cons_append, runD]
    cases z : doD s.1 s.2 c with
    | inl _ => rw [z] at h; cases h
    | inr q =>
      rw [z] at h
      exact runD_snoc h e
theorem runD_good : ∀ {l : List Deed} {s t : DocS}, GoodS s.1 s.2 → runD s l = some t → GoodS t.1 t.2
  | [], s, t, g, h => by
    obtain rfl := Option.some.inj h
    exact g
  | d :: l, s, t, g, h => by
    rw [runD] at h
    cases z : doD s.1 s.2 d with
    | inl _ => rw [z] at h; cases h
    | inr q =>
      rw [z] at h
      exact runD_good (good_do g z) h
theorem doD_inl {b : Box} {O : List (Int × Int)} {d : Deed} {z : Str} (h : doD b O d = .inl z) : z = "none" ∨ z = "block" ∨ z = "refused" := by
  cases d with
  | edit e =>
    replace h : editD b O (editR b e) = .inl z := h
    cases er : editR b e with
    | inl y => rw [er] at h; cases h; exact editR_inl er
    | inr l => rw [er] at h; cases h
  | set m v =>
    replace h : setR b O m v = .inl z := h
    unfold setR at h
    cases ef : findB b.all m with
    | none => rw [ef] at h; cases h; exact .inl rfl
    | some q =>
      rw [ef] at h
      cases hq : q.isS <;> simp [hq] at h
      exact .inr (.inl h.symm)
  | moves mv => cases h
/-- a def that may raise, where it does not -/
theorem HasX.has {P : Program} {w : World} {K : PySem.W.Frag} {mg : Str → Option Value} {base : Heap} {k : Nat} {x : Str} {ps : List Str} {g : SpX} (h : HasX P w K mg base k x ps (spX mg g)) :
    Has P w K mg base k x ps (spD fun ds C Q => g ds C Q fun _ _ => False) := by
  obtain ⟨f, fd, F, hm, hk, hb⟩ := h
  refine ⟨f, fd, ⟨?_, ?_⟩, hm, hk, hb⟩
  · rintro vs H Q E ⟨B, F1, C, ds, PD, rl, rp, hg, q⟩
    exact F.len vs H Q (fun _ _ _ => False) ⟨B, F1, C, ds, PD, fun _ _ => False, rl, rp, hg, q, fun _ _ _ _ _ _ _ _ _ z => z⟩
  · rintro A outer s H args us vs Q E hr he hbd hv ⟨B, F1, C, ds, PD, rl, rp, hg, q⟩
    refine codeAny_mono (F.run A outer s H args us vs Q (fun _ _ _ => False) hr he hbd hv ⟨B, F1, C, ds, PD, fun _ _ => False, rl, rp, hg, q, fun _ _ _ _ _ _ _ _ _ z => z⟩) fun r s' h => ?_
    cases r with
    | ok c => cases c <;> exact h
    | error e =>
      obtain ⟨_, _, _, _, _, _, _, _, _, _, _, _, z⟩ := h
      exact z.elim
end Dv

set_option maxRecDepth 100000
set_option maxHeartbeats 1000000
/-! Fields as targets; walks over a list that stays a cell; lists times numbers. -/
namespace Dv
open PySem PySem.Spec L2
/-! ### o.f among targets -/
def gFld (K : PySem.W.Frag) (ta : TE) (f : Str) : TG := fun v σ H Q => ta σ H fun x H1 => ∃ a C dx fs, x = .ref a ∧ H1 a = some (.ins C dx fs) ∧ Cls K C ∧ NoAttr K C f ∧ fs.length < 1000 ∧ Q σ (upd H1 a (.ins C dx (putF f v fs)))
theorem pg_fldK {X : Cx} (K : PySem.W.Frag) {o : Expr} {f : Str} {pos : Pos} {ta : TE} (ho : PE X o ta) (h : X.K = K := by rfl)
    (ha : ∀ v, assign (.Attribute o f pos) X.env v = (do
      let ov ← holding [v] (eval o X.env)
      standAt pos.atName
      holding [v, ov] (setAttr ov f v)
      release [v, ov] []) := by intro _; rfl) : PG X (.Attribute o f pos) (gFld K ta f) := by
  subst h
  refine ⟨fun pins s σ H v u Q I r h => ?_⟩
  rw [ha]
  refine wpAny_bind (wpAny_holding (thn (ho.run pins s σ H _ I h) fun ov s1 ⟨x, H1, I1, r1, a, C, dx, fs, ex, ea, c, n, l, q1⟩ => ?_))
  subst ex
  obtain rfl : ov = Value.ref a := r1
  refine wpAny_bind (wpAny_standAt (wpAny_bind (wpAny_holding (setattr_ok I1 ea c n l r fun s3 I3 => ?_))))
  exact wpAny_release ⟨σ, _, I3, q1⟩
theorem wg_fld {B0 : Gr} {K : PySem.W.Frag} {ta : TE} {f : Str} {d : D} {E : EnvD} {C : CH} {N : EnvD → CH → Prop}
    (h : W B0 ta E C fun x C1 => ∃ a, x = .ref a ∧ ∃ c gs, C1 a = some (.ins c gs) ∧ FldOk K c f ∧ gs.length < 1000 ∧ N E (updC C1 a (.ins c (putFD f d gs)))) : WG B0 (gFld K ta f) d E C N := fun B F σ H v sb rl re rp Q q =>
  h B F σ H sb rl re _ fun u x B1 C1 H1 e1 rl1 rp1 ⟨a, hx, c, gs, hc, fo, hl, k⟩ => by
    subst hx
    cases rp1
    obtain ⟨dx, fs, h1, r⟩ := rel_ins rl1 hc
    exact ⟨a, c, dx, fs, rfl, h1, fo.cls, fo.no, by rw [repF_len r]; exact hl, q σ E B1 _ _ e1 (rl1.write hc (.ins (repF_put r (rp.mono e1)))) (re.mono e1) k⟩
/-! ### a walk over a list that is a cell, and is not changed meanwhile -/
structure JDI (J : L2.It) (B : Hp) (I : CH → Prop) (ds : List D) : Prop where
  go : ∀ (i : Nat) (B' F H : Hp) (C : CH), Same B B' → Rel B' C F H → I C → i < ds.length → J.go i H
  stop : ∀ (B' F H : Hp) (C : CH), Same B B' → Rel B' C F H → I C → J.stop ds.length H
  yld : ∀ (i : Nat) (x : V) (B' F H H' : Hp) (C : CH), Same B B' → Rel B' C F H → I C → i < ds.length → J.yld i H x H' → ∃ d B'', ds[i]? = some d ∧ Same B' B'' ∧ Rel B'' C F H' ∧ Rep B'' x d
theorem JD.jdi {J : L2.It} {B : Hp} {ds : List D} (j : JD J B ds) (I : CH → Prop) : JDI J B I ds where
  go := fun i B' F H C s rl _ hi => j.go i B' F H C s rl hi
  stop := fun B' F H C s rl _ => j.stop B' F H C s rl
  yld := fun i x B' F H H' C s rl _ hi y => j.yld i x B' F H H' C s rl hi y
theorem cell_lst {B C F H} (rl : Rel B C F H) {a : Addr} {ds : List D} (h : C a = some (.lst ds)) : ∃ vs, H a = some (.lst vs) ∧ Reps B vs ds := by
  obtain ⟨o, h1, h2⟩ := rl.own _ _ h
  cases h2 with | lst r => exact ⟨_, h1, r⟩
theorem jdi_cell {K : PySem.W.Frag} {B : Hp} {a : Addr} {ds : List D} : JDI (Itl K a) B (fun C => C a = some (.lst ds)) ds where
  go := fun i B' F H C s rl hc hi => by
    obtain ⟨vs, h, r⟩ := cell_lst rl hc
    have hi' : i < vs.length := by rw [r.length]; exact hi
    exact ⟨vs, vs[i], SqL.of h, by simp [hi']⟩
  stop := fun B' F H C s rl hc => by
    obtain ⟨vs, h, r⟩ := cell_lst rl hc
    exact ⟨vs, SqL.of h, by rw [r.length]; exact Nat.le_refl _⟩
  yld := fun i x B' F H H' C s rl hc hi y => by
    obtain ⟨vs, h, r⟩ := cell_lst rl hc
    obtain ⟨e, y⟩ := y
    subst e
    obtain ⟨d, h1, h2⟩ := r.getV (y vs (SqL.of h))
    exact ⟨d, B', h1, Same.refl _, rl, h2⟩
section
variable {B0 : Gr} {C : CH} {E : EnvD} {D1 : EndD} {te : TE} {g : TG} {tb : TS} {K : PySem.W.Frag}
theorem ws_forC (ds : List D) (c : Addr) (L : List D → EnvD → CH → Prop) (h : W B0 te E C fun d C1 => d = .ref c ∧ C1 c = some (.lst ds) ∧ L ds E C1) (hI : ∀ r E1 C1, L r E1 C1 → C1 c = some (.lst ds)) (hn : ∀ E1 C1, L [] E1 C1 → D1.nx E1 C1)
    (hs : ∀ x xs E1 C1, L (x :: xs) E1 C1 → WG B0 g x E1 C1 fun E2 C2 => WS B0 tb E2 C2 { D1 with nx := L xs, ct := L xs, bk := D1.nx }) : WS B0 (tFor (iSeq K te) g tb) E C D1 := fun B F σ H sb rl re Dn ok =>
  h B F σ H sb rl re _ fun v d B1 C1 H1 e1 rl1 rp1 ⟨hd, hc, l0⟩ => by
    subst hd
    cases rp1
    obtain ⟨vs0, hvs, rvs⟩ := cell_lst rl1 hc
    have jd : JDI (Itl K c) B1 (fun C => C c = some (.lst ds)) ds := jdi_cell
    refine ⟨c, rfl, .inl ⟨⟨vs0, SqL.of hvs⟩, ?_⟩⟩
    have main : ∀ (i : Nat) (σ' : St) (H' : Hp), (∃ B' C' E', Same B1 B' ∧ Rel B' C' F H' ∧ RelE B' σ' E' ∧ L (ds.drop i) E' C') → i < ds.length →
        ∀ x H2, (Itl K c).yld i H' x H2 → g x σ' H2 fun σ2 H2 => tb { Dn with
          nx := fun σ3 H3 => ∃ B' C' E', Same B1 B' ∧ Rel B' C' F H3 ∧ RelE B' σ3 E' ∧ L (ds.drop (i + 1)) E' C'
          ct := fun σ3 H3 => ∃ B' C' E', Same B1 B' ∧ Rel B' C' F H3 ∧ RelE B' σ3 E' ∧ L (ds.drop (i + 1)) E' C'
          bk := Dn.nx } σ2 H2 := by
      rintro i σ' H' ⟨B', C', E', s', rl', re', l⟩ hi x H2 y
      obtain ⟨d, B2, hd, s2, rl2, rp2⟩ := jd.yld i x B' F H' H2 C' s' rl' (hI _ _ _ l) hi y
      have e : ds.drop i = d :: ds.drop (i + 1) := by
        rw [List.drop_eq_getElem_cons hi]
        rw [List.getElem?_eq_getElem hi] at hd
        rw [Option.some.inj hd]
      rw [e] at l
      have sb2 : Same B B2 := (e1.trans s').trans s2
      refine hs d _ E' C' l B2 F σ' H2 x (sb.trans sb2) rl2 (re'.mono s2) rp2 _ fun σ3 E3 B3 C3 H3 s3 rl3 re3 w => ?_
      refine w B3 F σ3 H3 (sb.trans (sb2.trans s3)) rl3 re3 _ ⟨?_, ?_, ?_, ?_⟩
      · exact fun σ4 E4 B4 C4 H4 s4 rl4 re4 l4 => ⟨B4, C4, E4, ((s'.trans s2).trans s3).trans s4, rl4, re4, l4⟩
      · exact fun v d B4 C4 H4 s4 rl4 rp4 k => ok.rt v d B4 C4 H4 ((sb2.trans s3).trans s4) rl4 rp4 k
      · exact fun σ4 E4 B4 C4 H4 s4 rl4 re4 k => ok.nx σ4 E4 B4 C4 H4 ((sb2.trans s3).trans s4) rl4 re4 k
      · exact fun σ4 E4 B4 C4 H4 s4 rl4 re4 l4 => ⟨B4, C4, E4, ((s'.trans s2).trans s3).trans s4, rl4, re4, l4⟩
    refine ⟨fun i m σ' H' => m = ds.length - i ∧ i ≤ ds.length ∧ ∃ B' C' E', Same B1 B' ∧ Rel B' C' F H' ∧ RelE B' σ' E' ∧ L (ds.drop i) E' C',
      ⟨ds.length, by simp, Nat.zero_le _, B1, C1, E, Same.refl _, rl1, re.mono e1, by simpa using l0⟩, ?_⟩
    rintro i m σ' H' ⟨rfl, hi, z⟩
    by_cases hlt : i < ds.length
    · obtain ⟨B', C', E', s', rl', re', l⟩ := id z
      exact .inr ⟨jd.go i B' F H' C' s' rl' (hI _ _ _ l) hlt, _, fun σ2 H2 n => ⟨ds.length - (i + 1), by omega, rfl, hlt, n⟩, main i σ' H' z hlt⟩
    · obtain ⟨B', C', E', s', rl', re', l⟩ := z
      have e : i = ds.length := by omega
      subst e
      rw [List.drop_length] at l
      exact .inl ⟨jd.stop B' F H' C' s' rl' (hI _ _ _ l), ok.nx σ' E' B' C' H' (e1.trans s') rl' re' (hn _ _ l)⟩
end
/-! ### a list times a number; a truth value as a number -/
theorem wr_repL {B0 : Gr} {C : CH} {P : D → CH → Prop} {ds : List D} {k : Int} (hk : k ≤ 1000) (h0 : -1000 ≤ k) (hl : ds.length ≤ 1000) (q : P (.lst (List.replicate k.toNat ds).flatten) C) : WR B0 rRep (.lst ds) (.int k) C P := fun B F H vx vy _ rl hx hy Q qq => by
  cases hy
  cases hx with
  | @lst a vs _ ha r =>
    refine ⟨_, k, vs, rfl, rfl, rl.ex _ _ ha, by omega, by omega, ?_, fun p hp => ?_⟩
    · rw [r.length]
      have : ds.length * k.toNat ≤ 1000 * 1000 := Nat.mul_le_mul hl (by omega)
      exact Nat.le_trans this (by decide)
    · have s := same_upd (o := .lst (List.replicate k.toNat vs).flatten) (rl.noB hp)
      have go : ∀ n : Nat, Reps B (List.replicate n vs).flatten (List.replicate n ds).flatten := fun n => by
        induction n with
        | zero => exact .nil
        | succ n ih => rw [List.replicate_succ, List.replicate_succ, List.flatten_cons, List.flatten_cons]; exact reps_app r ih
      exact qq _ _ _ C _ s (rl.new hp) (.lst upd_same ((go k.toNat).mono s)) q
theorem wr_neC {B0 : Gr} {C : CH} {P : D → CH → Prop} {K : PySem.W.Frag} {x y : D} {xs ys : List D} {ps qs : List PyData} (hx : LstD C x xs) (hy : LstD C y ys) (h1 : toPys xs = some ps) (h2 : toPys ys = some qs) (s1 : SeqAt.shaped (.list ps) = true) (s2 : SeqAt.shaped (.list qs) = true) (k : P (.bl (!PyData.eqvAll ps qs)) C) : WR B0 (rNeU K) x y C P := fun B F H vx vy _ rl rx ry Q q => by
  obtain ⟨a, vs, rfl, ha, r1⟩ := lstD_rd rl rx hx
  obtain ⟨b, ws, rfl, hb, r2⟩ := lstD_rd rl ry hy
  exact .inr (.inl ⟨.list ps, .list qs, .lst (SqL.of ha) (toPys_ok rl.ex r1 h1), .lst (SqL.of hb) (toPys_ok rl.ex r2 h2), s1, s2, by rw [PyData.eqv]; exact q _ _ B C H (Same.refl B) rl .bl k⟩)
theorem wc_intB {B0 : Gr} {C : CH} {P : D → CH → Prop} {b : Bool} (k : P (.int (if b then 1 else 0)) C) : WC B0 rIntU [.bl b] C P := fun B F H vs _ rl r Q q => by
  cases r with
  | cons r1 r =>
    cases r; cases r1
    exact .inl (.inr ⟨b, rfl, q _ _ B C H (Same.refl B) rl .int k⟩)
/-! ### data that == looks at: the same are equal -/
inductive PyG : Nat → D → Prop
  | non {n : Nat} : PyG n .non
  | bl {n : Nat} {b : Bool} : PyG n (.bl b)
  | int {n : Nat} {i : Int} : PyG n (.int i)
  | str {n : Nat} {x : Str} (h : PyData.strOk x = true) : PyG n (.str x)
  | tup {n : Nat} {l : List D} : (∀ x ∈ l, PyG n x) → PyG (n + 1) (.tup l)
  | lst {n : Nat} {l : List D} : (∀ x ∈ l, PyG n x) → PyG (n + 1) (.lst l)
theorem PyG.mono {n m : Nat} (h : n ≤ m) {x : D} (g : PyG n x) : PyG m x := by
  induction g generalizing m with
  | non => exact .non
  | bl => exact .bl
  | int => exact .int
  | str hs => exact .str hs
  | tup _ ih =>
    obtain ⟨m, rfl⟩ : ∃ k, m = k + 1 := ⟨m - 1, by omega⟩
    exact .tup fun x hx => ih x hx (by omega)
  | lst _ ih =>
    obtain ⟨m, rfl⟩ : ∃ k, m = k + 1 := ⟨m - 1, by omega⟩
    exact .lst fun x hx => ih x hx (by omega)
theorem pys_of {n : Nat} : ∀ {l : List D}, (∀ x ∈ l, ∃ p, toPy x = some p ∧ p.canLay0 = true ∧ p.depth ≤ n) → ∃ ps, toPys l = some ps ∧ PyData.canLayAll0 ps = true ∧ PyData.depthAll ps ≤ n
  | [], _ => ⟨[], rfl, rfl, Nat.zero_le _⟩
  | x :: l, h => by
    obtain ⟨p, h1, h2, h3⟩ := h x (by simp)
    obtain ⟨ps, g1, g2, g3⟩ := pys_of fun y hy => h y (List.mem_cons_of_mem _ hy)
    refine ⟨p :: ps, ?_, ?_, ?_⟩
    · show (toPy x).bind (fun a => (toPys l).map fun b => a :: b) = _
      rw [h1, g1]
      rfl
    · rw [PyData.canLayAll0, h2, g2]; rfl
    · rw [PyData.depthAll]; omega
theorem PyG.py {n : Nat} {x : D} (g : PyG n x) : ∃ p, toPy x = some p ∧ p.canLay0 = true ∧ p.depth ≤ n := by
  induction g with
  | non => exact ⟨_, rfl, rfl, Nat.zero_le _⟩
  | bl => exact ⟨_, rfl, rfl, Nat.zero_le _⟩
  | int => exact ⟨_, rfl, rfl, Nat.zero_le _⟩
  | str h => exact ⟨_, rfl, h, Nat.zero_le _⟩
  | @tup n l _ ih =>
    obtain ⟨ps, h1, h2, h3⟩ := pys_of ih
    refine ⟨.tuple ps, ?_, h2, ?_⟩
    · show (toPys l).map PyData.tuple = _
      rw [h1]; rfl
    · rw [PyData.depth]; omega
  | @lst n l _ ih =>
    obtain ⟨ps, h1, h2, h3⟩ := pys_of ih
    refine ⟨.list ps, ?_, h2, ?_⟩
    · show (toPys l).map PyData.list = _
      rw [h1]; rfl
    · rw [PyData.depth]; omega
theorem shaped_of {p : PyData} (h1 : p.canLay0 = true) (h2 : p.depth ≤ 64) : SeqAt.shaped p = true := by
  unfold SeqAt.shaped
  rw [h1, decide_eq_true h2]
  rfl
section
variable {B0 : Gr} {C : CH} {P : D → CH → Prop} {K : PySem.W.Frag} {x y : D} {n : Nat} {xs : List D}
theorem wr_neG (g : PyG n x) (hn : n ≤ 64) (k : P (.bl false) C) : WR B0 (rNeU K) x x C P := by
  obtain ⟨p, h1, h2, h3⟩ := g.py
  refine wr_neP h1 h1 (shaped_of h2 (by omega)) (shaped_of h2 (by omega)) ?_
  rw [SeqAt.eqv_refl p h2]
  exact k
theorem wr_eqG (g : PyG n x) (hn : n ≤ 64) (k : P (.bl true) C) : WR B0 (rEqU K) x x C P := by
  obtain ⟨p, h1, h2, h3⟩ := g.py
  refine wr_eqP h1 h1 (shaped_of h2 (by omega)) (shaped_of h2 (by omega)) ?_
  rw [SeqAt.eqv_refl p h2]
  exact k
theorem wr_neL (hx : LstD C x xs) (hy : LstD C y xs) (g : ∀ z ∈ xs, PyG n z) (hn : n ≤ 60) (k : P (.bl false) C) : WR B0 (rNeU K) x y C P := by
  obtain ⟨ps, h1, h2, h3⟩ := pys_of fun z hz => (g z hz).py
  have e : SeqAt.shaped (.list ps) = true := shaped_of h2 (by rw [PyData.depth]; omega)
  refine wr_neC hx hy h1 h1 e e ?_
  rw [SeqAt.eqvAll_refl ps h2]
  exact k
end
/-- slots that are looked at no more -/
theorem ws_less {B0 : Gr} {C : CH} {E : EnvD} {t : TS} {D1 : EndD} (E2 : EnvD) (hl : E2.length = E.length) (h : ∀ (j : Nat) (d : D), E2[j]? = some (some d) → E[j]? = some (some d)) (k : WS B0 t E2 C D1) : WS B0 t E C D1 := fun B F σ H sb rl re Dn ok =>
  k B F σ H sb rl ⟨by rw [re.len, hl], fun j d e => re.get j d (h j d e)⟩ Dn ok
end Dv

set_option maxRecDepth 100000
set_option maxHeartbeats 1000000
/-! Documents as the laws of the threads draw them, and edits that keep them documents. -/
namespace Dv
open PySem L2
theorem levs_snoc (l : List Box) (p : Box) : levs (l ++ [p]) = max (levs l) p.lev := by rw [levs_app, levs, levs]; omega
theorem deeps_app : ∀ a b : List Box, deeps (a ++ b) = max (deeps a) (deeps b)
  | [], b => by rw [List.nil_append, deeps]; omega
  | p :: a, b => by rw [List.cons_append, deeps, deeps, deeps_app a b]; omega
theorem deeps_snoc (l : List Box) (p : Box) : deeps (l ++ [p]) = max (deeps l) p.deep := by rw [deeps_app, deeps, deeps]; omega
theorem alls_snoc (l : List Box) (p : Box) : alls (l ++ [p]) = alls l ++ p.all := by rw [alls_append, alls, alls, List.append_nil]
/-- parts as they are drawn: j of them, numbers behind z up to z1 -/
structure PsOk (k : Nat) (z z1 : Int) (l : List Box) (j : Nat) : Prop where
  up : ((alls l).map Box.num).Pairwise (· < ·)
  inr : ∀ p ∈ alls l, z < p.num ∧ p.num ≤ z1 ∧ 0 ≤ p.hgt ∧ p.hgt ≤ 40
  sz : ((alls l).length : Int) = z1 - z
  hi : z1 ≤ max z 13 + 3 * k + j
  dp : deeps l ≤ k
  lv : levs l ≤ k + 1
  ln : l.length = j
theorem PsOk.le {k : Nat} {z z1 : Int} {l : List Box} {j : Nat} (h : PsOk k z z1 l j) : z ≤ z1 := by
  have := h.sz
  omega
theorem PsOk.nil {k : Nat} {z : Int} : PsOk k z z [] 0 := ⟨List.Pairwise.nil, (fun p hp => by cases hp), by simp [alls], by omega, Nat.zero_le _, Nat.zero_le _, rfl⟩
theorem pw_app {l m : List Int} {z : Int} (h1 : l.Pairwise (· < ·)) (h2 : m.Pairwise (· < ·)) (a : ∀ x ∈ l, x ≤ z) (b : ∀ x ∈ m, z < x) : (l ++ m).Pairwise (· < ·) :=
  List.pairwise_append.mpr ⟨h1, h2, fun x hx y hy => by have := a x hx; have := b y hy; omega⟩
theorem PsOk.block {k : Nat} {z z1 h : Int} {l : List Box} {j : Nat} (p : PsOk k z z1 l j) (h0 : 0 ≤ h) (h1 : h ≤ 40) : PsOk k z (z1 + 1) (l ++ [.block (z1 + 1) h]) (j + 1) where
  up := by
    rw [alls_snoc, List.map_append]
    exact pw_app (z := z1) p.up (by simp [Box.all]) (fun x hx => by obtain ⟨q, hq, rfl⟩ := List.mem_map.mp hx; exact (p.inr q hq).2.1) (fun x hx => by simp [Box.all, Box.num] at hx; omega)
  inr := fun q hq => by
    have := p.le
    rw [alls_snoc] at hq
    rcases List.mem_append.mp hq with hq | hq
    · obtain ⟨a, b, c, d⟩ := p.inr q hq
      exact ⟨a, by omega, c, d⟩
    · simp [Box.all] at hq
      subst hq
      exact ⟨by show z < z1 + 1; omega, by show z1 + 1 ≤ z1 + 1; omega, h0, h1⟩
  sz := by
    have := p.sz
    rw [alls_snoc, List.length_append, Box.all]
    simp
    omega
  hi := by have := p.hi; omega
  dp := by have := p.dp; rw [deeps_snoc, Box.deep]; omega
  lv := by have := p.lv; rw [levs_snoc, Box.lev]; omega
  ln := by rw [List.length_append, p.ln]; rfl
theorem PsOk.scr {k : Nat} {z z1 z2 h : Int} {l ps : List Box} {j j2 : Nat} (p : PsOk (k + 1) z z1 l j) (q : PsOk k (z1 + 1) z2 ps j2) (hj : j2 ≤ 4) (hz : z1 + 1 ≤ 13) (h0 : 0 ≤ h) (h1 : h ≤ 40) : PsOk (k + 1) z z2 (l ++ [.scroller (z1 + 1) h ps]) (j + 1) where
  up := by
    rw [alls_snoc, List.map_append]
    refine pw_app (z := z1) p.up ?_ (fun x hx => by obtain ⟨q, hq, rfl⟩ := List.mem_map.mp hx; exact (p.inr q hq).2.1) (fun x hx => ?_)
    · rw [Box.all, List.map_cons]
      refine List.pairwise_cons.mpr ⟨fun x hx => ?_, q.up⟩
      obtain ⟨r, hr, rfl⟩ := List.mem_map.mp hx
      exact (q.inr r hr).1
    · rw [Box.all, List.map_cons] at hx
      rcases List.mem_cons.mp hx with rfl | hx
      · show z1 < z1 + 1; omega
      · obtain ⟨r, hr, rfl⟩ := List.mem_map.mp hx
        have := (q.inr r hr).1
        omega
  inr := fun r hr => by
    have := p.le
    have := q.le
    rw [alls_snoc] at hr
    rcases List.mem_append.mp hr with hr | hr
    · obtain ⟨a, b, c, d⟩ := p.inr r hr
      exact ⟨a, by omega, c, d⟩
    · rw [Box.all] at hr
      rcases List.mem_cons.mp hr with rfl | hr
      · exact ⟨by show z < z1 + 1; omega, by show z1 + 1 ≤ z2; omega, h0, h1⟩
      · obtain ⟨a, b, c, d⟩ := q.inr r hr
        exact ⟨by omega, b, c, d⟩
  sz := by
    have := p.sz
    have := q.sz
    rw [alls_snoc, List.length_append, Box.all, List.length_cons]
    omega
  hi := by have := p.hi; have := q.hi; omega
  dp := by have := p.dp; have := q.dp; rw [deeps_snoc, Box.deep]; omega
  lv := by have := p.lv; have := q.lv; rw [levs_snoc, Box.lev]; omega
  ln := by rw [List.length_append, p.ln]; rfl
/-- a document of the threads: its numbers are not beyond f -/
structure DocM (f : Int) (b : Box) : Prop where
  doc : isDoc b = true
  len : b.all.length ≤ 26
  num : ∀ p ∈ b.all, p.num ≤ f
  tall : b.num = 1 ∧ 20 ≤ b.hgt
theorem docM_of {h z : Int} {ps : List Box} {j : Nat} (p : PsOk 2 1 z ps j) (hj : j ≤ 4) (h0 : 20 ≤ h) (h1 : h ≤ 100) : DocM 100 (.scroller 1 h ps) where
  doc := by
    have := p.sz
    have := p.hi
    have := p.dp
    refine decide_eq_true ⟨rfl, ?_, ?_, ?_, ?_, ?_⟩
    · rw [Box.all, List.length_cons]; omega
    · rw [Box.deep]; omega
    · refine nodup_of_up ?_
      rw [Box.all, List.map_cons]
      refine List.pairwise_cons.mpr ⟨fun x hx => ?_, p.up⟩
      obtain ⟨r, hr, rfl⟩ := List.mem_map.mp hx
      exact (p.inr r hr).1
    · intro q hq
      rw [Box.all] at hq
      rcases List.mem_cons.mp hq with rfl | hq
      · exact ⟨by show (1 : Int) ≤ 1; decide, by show (1 : Int) ≤ 999; decide⟩
      · obtain ⟨a, b, c, d⟩ := p.inr q hq
        exact ⟨by omega, by omega⟩
    · intro q hq
      rw [Box.all] at hq
      rcases List.mem_cons.mp hq with rfl | hq
      · exact ⟨by show 0 ≤ h; omega, by show h ≤ 1000; omega⟩
      · obtain ⟨a, b, c, d⟩ := p.inr q hq
        exact ⟨c, by omega⟩
  len := by
    have := p.sz
    have := p.hi
    rw [Box.all, List.length_cons]; omega
  num := fun q hq => by
    have := p.hi
    rw [Box.all] at hq
    rcases List.mem_cons.mp hq with rfl | hq
    · show (1 : Int) ≤ 100; decide
    · obtain ⟨a, b, c, d⟩ := p.inr q hq
      omega
  tall := ⟨rfl, h0⟩
/-! ### edits -/
def Edit.news : Edit → List Box
  | .ins _ _ x => x.all
  | _ => []
def Edit.xdeep : Edit → Nat
  | .ins _ _ x => x.deep
  | _ => 0
def cnt (k : Int) (l : List Box) : Nat := (l.map Box.num).count k
theorem cnt_app (k : Int) (a b : List Box) : cnt k (a ++ b) = cnt k a + cnt k b := by unfold cnt; rw [List.map_append, List.count_append]
theorem cnt_cons (k : Int) (p : Box) (l : List Box) : cnt k (p :: l) = cnt k l + if p.num = k then 1 else 0 := by
  unfold cnt
  rw [List.map_cons, List.count_cons]
  by_cases h : p.num = k <;> simp [h]
theorem put_cnt (e : Edit) (n k : Int) (l : List Box) : cnt k (alls (e.put n l)) ≤ cnt k (alls l) + (if n = e.num then 1 else 0) * cnt k e.news := by
  cases e with
  | ins m i b =>
    rw [Edit.put, Edit.num, Edit.news]
    split
    · have h := alls_append (l.take i.toNat) (l.drop i.toNat)
      rw [List.take_append_drop] at h
      rw [alls_append, alls_append, alls, alls, h, List.append_nil, cnt_app, cnt_app, cnt_app]
      omega
    · omega
  | rem m => exact Nat.le_add_right _ _
  | res m h => exact Nat.le_add_right _ _
mutual
theorem with_cnt (e : Edit) (k : Int) : ∀ b : Box, cnt k (withB e b).all ≤ cnt k b.all + cnt e.num b.all * cnt k e.news
  | .block n h => by rw [withB, Box.all, Box.all, cnt_cons, cnt_cons]; exact Nat.le_add_right _ _
  | .scroller n h ps => by
    have h1 := withs_cnt e k ps
    have h2 := put_cnt e n k (withs e ps)
    rw [withB, Box.all, Box.all, cnt_cons, cnt_cons k, cnt_cons e.num, Nat.add_mul]
    show cnt k (alls (e.put n (withs e ps))) + (if n = k then 1 else 0) ≤ cnt k (alls ps) + (if n = k then 1 else 0) + (cnt e.num (alls ps) * cnt k e.news + (if n = e.num then 1 else 0) * cnt k e.news)
    omega
theorem withs_cnt (e : Edit) (k : Int) : ∀ ps : List Box, cnt k (alls (withs e ps)) ≤ cnt k (alls ps) + cnt e.num (alls ps) * cnt k e.news
  | [] => by rw [withs, alls]; exact Nat.zero_le _
  | p :: r => by
    have h1 := with_cnt e k p
    have h2 := withs_cnt e k r
    rw [withs, alls, cnt_app, cnt_app, Nat.add_mul]
    split
    · rw [alls, cnt_app]; omega
    · omega
end
theorem put_deep (e : Edit) (n : Int) (l : List Box) (hx : e.xdeep = 0) : deeps (e.put n l) ≤ deeps l := by
  cases e with
  | ins m i b =>
    rw [Edit.put]
    rw [Edit.xdeep] at hx
    split
    · have h := deeps_app (l.take i.toNat) (l.drop i.toNat)
      rw [List.take_append_drop] at h
      rw [deeps_app, deeps_app, deeps, deeps]
      omega
    · omega
  | rem m => exact Nat.le_refl _
  | res m h => exact Nat.le_refl _
mutual
theorem with_deep (e : Edit) (hx : e.xdeep = 0) : ∀ b : Box, (withB e b).deep ≤ b.deep
  | .block n h => by rw [withB, Box.deep, Box.deep]; omega
  | .scroller n h ps => by
    have h1 := withs_deep e hx ps
    have h2 := put_deep e n (withs e ps) hx
    rw [withB, Box.deep, Box.deep]
    omega
theorem withs_deep (e : Edit) (hx : e.xdeep = 0) : ∀ ps : List Box, deeps (withs e ps) ≤ deeps ps
  | [] => by rw [withs]; exact Nat.le_refl _
  | p :: r => by
    have h1 := with_deep e hx p
    have h2 := withs_deep e hx r
    rw [withs, deeps]
    split
    · rw [deeps]; omega
    · omega
end
/-- what stands in the later document -/
def FromB (e : Edit) (l : List Box) (q : Box) : Prop := (∃ p ∈ l, q.num = p.num ∧ q.hgt = e.newH p.num p.hgt) ∨ q ∈ e.news
theorem put_from (e : Edit) (n : Int) (l : List Box) : ∀ q ∈ alls (e.put n l), q ∈ alls l ∨ q ∈ e.news := by
  intro q hq
  cases e with
  | ins m i b =>
    rw [Edit.put] at hq
    split at hq
    · have h := alls_append (l.take i.toNat) (l.drop i.toNat)
      rw [List.take_append_drop] at h
      rw [alls_append, alls_append, alls, alls, List.append_nil] at hq
      rw [h]
      rcases List.mem_append.mp hq with hq | hq
      · rcases List.mem_append.mp hq with hq | hq
        · exact .inl (List.mem_append_left _ hq)
        · exact .inr hq
      · exact .inl (List.mem_append_right _ hq)
    · exact .inl hq
  | rem m => exact .inl hq
  | res m h => exact .inl hq
theorem FromB.mono {e : Edit} {l m : List Box} {q : Box} (h : FromB e l q) (s : ∀ p ∈ l, p ∈ m) : FromB e m q := by
  rcases h with ⟨p, h1, h2⟩ | h
  · exact .inl ⟨p, s p h1, h2⟩
  · exact .inr h
mutual
theorem with_from (e : Edit) : ∀ b : Box, ∀ q ∈ (withB e b).all, FromB e b.all q
  | .block n h => fun q hq => by
    rw [withB, Box.all] at hq
    simp at hq
    subst hq
    exact .inl ⟨.block n h, by rw [Box.all]; simp, rfl, rfl⟩
  | .scroller n h ps => fun q hq => by
    rw [withB, Box.all] at hq
    rw [Box.all]
    rcases List.mem_cons.mp hq with rfl | hq
    · exact .inl ⟨.scroller n h ps, by simp, rfl, rfl⟩
    · rcases put_from e n (withs e ps) q hq with hq | hq
      · exact (withs_from e ps q hq).mono fun p hp => List.mem_cons_of_mem _ hp
      · exact .inr hq
theorem withs_from (e : Edit) : ∀ ps : List Box, ∀ q ∈ alls (withs e ps), FromB e (alls ps) q
  | [] => fun q hq => by rw [withs, alls] at hq; cases hq
  | p :: r => fun q hq => by
    rw [withs] at hq
    rw [alls]
    split at hq
    · rw [alls] at hq
      rcases List.mem_append.mp hq with hq | hq
      · exact (with_from e p q hq).mono fun x hx => List.mem_append_left _ hx
      · exact (withs_from e r q hq).mono fun x hx => List.mem_append_right _ hx
    · exact (withs_from e r q hq).mono fun x hx => List.mem_append_right _ hx
end
/-- an edit that the laws of the threads draw; g: the next bound of numbers -/
def EditM (f g : Int) (b : Box) : Edit → Prop
  | .ins n i x => ∃ s h, s ∈ b.all ∧ s.isS = true ∧ s.num = n ∧ 0 ≤ i ∧ i ≤ (s.parts.length : Nat) ∧ x = .block g h ∧ f < g ∧ g ≤ 999 ∧ 0 ≤ h ∧ h ≤ 1000 ∧ b.all.length < 14
  | .rem m => (∃ p ∈ b.all, p.num = m) ∧ m ≠ b.num ∧ f ≤ g
  | .res m v => (∃ p ∈ b.all, p.num = m) ∧ 0 ≤ v ∧ v ≤ 1000 ∧ f ≤ g ∧ (m ≤ 1 → 20 ≤ v)
theorem EditM.xdeep {f g : Int} {b : Box} {e : Edit} (h : EditM f g b e) : e.xdeep = 0 := by
  cases e with
  | ins n i x => obtain ⟨s, h, _, _, _, _, _, rfl, _⟩ := h; rfl
  | rem _ => rfl
  | res _ _ => rfl
theorem EditM.le {f g : Int} {b : Box} {e : Edit} (h : EditM f g b e) : f ≤ g := by
  cases e with
  | ins n i x => obtain ⟨s, h, _, _, _, _, _, _, z, _⟩ := h; omega
  | rem _ => exact h.2.2
  | res _ _ => exact h.2.2.2.1
theorem EditM.ok {f g : Int} {b : Box} {e : Edit} (h : EditM f g b e) (hb : b.all.length ≤ 26) : e.Ok := by
  cases e with
  | ins n i x =>
    obtain ⟨s, h, h1, _, _, h2, h3, rfl, _⟩ := h
    have := parts_len h1
    exact ⟨by omega, by omega, by rw [Box.lev]; omega, by rw [Box.all]; simp⟩
  | rem _ => trivial
  | res _ _ => trivial
theorem editM_doc {f g : Int} {b : Box} {e : Edit} (d : DocM f b) (h : EditM f g b e) : DocM g (withB e b) := by
  obtain ⟨f1, f2, f3, f4, f5, f6⟩ := isDoc_facts d.doc
  have hd := with_deep e h.xdeep b
  have hl := with_len e b
  have hf := with_from e b
  have hnew : ∀ q ∈ e.news, f < q.num ∧ q.num ≤ g ∧ q.num ≤ 999 ∧ 0 ≤ q.hgt ∧ q.hgt ≤ 1000 := by
    intro q hq
    cases e with
    | ins n i x =>
      obtain ⟨s, h, _, _, _, _, _, rfl, z1, z2, z3, z4, _⟩ := h
      simp [Edit.news, Box.all] at hq
      subst hq
      exact ⟨z1, Int.le_refl _, z2, z3, z4⟩
    | rem _ => cases hq
    | res _ _ => cases hq
  have hnh : ∀ p ∈ b.all, 0 ≤ e.newH p.num p.hgt ∧ e.newH p.num p.hgt ≤ 1000 := by
    intro p hp
    have := f6 p hp
    cases e with
    | ins n i x => exact this
    | rem _ => exact this
    | res m v =>
      obtain ⟨_, z1, z2, _⟩ := h
      rw [Edit.newH]
      split
      · exact ⟨z1, z2⟩
      · exact this
  have h26 : (withB e b).all.length ≤ 26 := by
    cases e with
    | ins n i x =>
      obtain ⟨s, h, _, _, _, _, _, rfl, z1, z2, z3, z4, z5⟩ := h
      have e1 : (Edit.ins n i (.block g h)).xlen = 1 := rfl
      rw [e1] at hl
      omega
    | rem m =>
      have e1 : (Edit.rem m).xlen = 0 := rfl
      rw [e1] at hl
      have := d.len
      omega
    | res m v =>
      have e1 : (Edit.res m v).xlen = 0 := rfl
      rw [e1] at hl
      have := d.len
      omega
  have hle := h.le
  refine ⟨decide_eq_true ⟨by rw [with_isS]; exact f1, by omega, by omega, ?_, fun q hq => ?_, fun q hq => ?_⟩, h26, fun q hq => ?_, ?_⟩
  · refine List.nodup_iff_count.mpr fun k => ?_
    have c1 := with_cnt e k b
    have c2 : cnt k b.all ≤ 1 := List.nodup_iff_count.mp f4 k
    have c3 : cnt e.num b.all ≤ 1 := List.nodup_iff_count.mp f4 e.num
    show cnt k (withB e b).all ≤ 1
    by_cases hk : cnt k e.news = 0
    · rw [hk] at c1
      omega
    · have hk2 : k ∈ e.news.map Box.num := List.count_pos_iff.mp (Nat.pos_of_ne_zero hk)
      obtain ⟨q, hq, rfl⟩ := List.mem_map.mp hk2
      have c4 : cnt q.num b.all = 0 := by
        refine List.count_eq_zero.mpr fun z => ?_
        obtain ⟨p, hp, e1⟩ := List.mem_map.mp z
        have := d.num p hp
        have := (hnew q hq).1
        omega
      have c5 : cnt q.num e.news ≤ 1 := by
        cases e with
        | ins n i x =>
          obtain ⟨s, h, _, _, _, _, _, rfl, _⟩ := h
          show cnt q.num (Box.block g h).all ≤ 1
          rw [Box.all, cnt_cons]
          show 0 + _ ≤ 1
          split <;> omega
        | rem _ => exact Nat.zero_le _
        | res _ _ => exact Nat.zero_le _
      have : cnt e.num b.all * cnt q.num e.news ≤ 1 * 1 := Nat.mul_le_mul c3 c5
      omega
  · rcases hf q hq with ⟨p, hp, e1, e2⟩ | hq
    · rw [e1]; exact f5 p hp
    · obtain ⟨a1, a2, a3, a4, a5⟩ := hnew q hq
      have := f5 b (by rw [all_eq]; simp)
      have := d.num b (by rw [all_eq]; simp)
      exact ⟨by omega, a3⟩
  · rcases hf q hq with ⟨p, hp, e1, e2⟩ | hq
    · rw [e2]; exact hnh p hp
    · obtain ⟨a1, a2, a3, a4, a5⟩ := hnew q hq
      exact ⟨a4, a5⟩
  · rcases hf q hq with ⟨p, hp, e1, e2⟩ | hq
    · rw [e1]; have := d.num p hp; omega
    · exact (hnew q hq).2.1
  · obtain ⟨t1, t2⟩ := d.tall
    cases b with
    | block m k => cases f1
    | scroller m k ps =>
      replace t1 : m = 1 := t1
      replace t2 : 20 ≤ k := t2
      cases e with
      | ins n i x => rw [withB]; exact ⟨t1, t2⟩
      | rem n => rw [withB]; exact ⟨t1, t2⟩
      | res n v =>
        obtain ⟨_, _, _, _, z⟩ := h
        rw [withB]
        refine ⟨t1, ?_⟩
        show 20 ≤ (if m = n then v else k)
        split
        · exact z (by omega)
        · exact t2
theorem editM_R {f g : Int} {b : Box} {e : Edit} (d : DocM f b) (h : EditM f g b e) : editR b e = .inr (withB e b) := by
  obtain ⟨f1, f2, f3, f4, f5, f6⟩ := isDoc_facts d.doc
  have dd := (editM_doc d h).doc
  have hfind : ∀ p ∈ b.all, findB b.all p.num = some p := fun p hp => findB_of f4 hp
  cases e with
  | ins n i x =>
    obtain ⟨s, v, h1, h2, rfl, h4, h5, _⟩ := h
    unfold editR
    have ef : findB b.all (Edit.ins s.num i x).num = some s := hfind s h1
    have eb : (Edit.ins s.num i x).bad b s = false := by
      show (!(decide (0 ≤ i) && decide (i ≤ (s.parts.length : Nat)))) = false
      rw [decide_eq_true h4, decide_eq_true h5]
      rfl
    rw [ef]
    simp only [h2, eb, dd, Edit.isIns, Bool.not_true, Bool.and_false, Bool.false_eq_true, if_false, if_true]
  | rem m =>
    obtain ⟨⟨p, hp, rfl⟩, hm, _⟩ := h
    unfold editR
    have ef : findB b.all (Edit.rem p.num).num = some p := hfind p hp
    have eb : (Edit.rem p.num).bad b p = false := decide_eq_false hm
    rw [ef]
    simp only [eb, dd, Edit.isIns, Bool.false_and, Bool.false_eq_true, if_false, if_true]
  | res m v =>
    obtain ⟨⟨p, hp, rfl⟩, _⟩ := h
    unfold editR
    have ef : findB b.all (Edit.res p.num v).num = some p := hfind p hp
    have eb : (Edit.res p.num v).bad b p = false := rfl
    rw [ef]
    simp only [eb, dd, Edit.isIns, Bool.false_and, Bool.false_eq_true, if_false, if_true]
theorem pygB : ∀ (n : Nat) (b : Box), b.lev ≤ n → PyG (2 * n) (encB b)
  | 0, b, h => by cases b <;> simp [Box.lev] at h
  | n + 1, .block m k, _ => by
    rw [encB, Nat.mul_succ]
    refine .tup fun x hx => ?_
    simp at hx
    rcases hx with rfl | rfl | rfl
    · exact .str (by decide +kernel)
    · exact .int
    · exact .int
  | n + 1, .scroller m k ps, h => by
    rw [encB, Nat.mul_succ]
    refine .tup fun x hx => ?_
    simp at hx
    rcases hx with rfl | rfl | rfl | rfl
    · exact .str (by decide +kernel)
    · exact .int
    · exact .int
    · refine .tup fun x hx => ?_
      rw [encBs_map] at hx
      obtain ⟨p, hp, rfl⟩ := List.mem_map.mp hx
      exact pygB n p (lev_parts h hp)
theorem pygE {e : Edit} (h : e.Ok) : PyG 8 (encE e) := by
  cases e with
  | ins n i b =>
    refine .tup fun x hx => ?_
    simp at hx
    rcases hx with rfl | rfl | rfl | rfl
    · exact .str (by decide +kernel)
    · exact .int
    · exact .int
    · exact (pygB 3 b h.2.2.1).mono (by decide)
  | rem n =>
    refine .tup fun x hx => ?_
    simp at hx
    rcases hx with rfl | rfl
    · exact .str (by decide +kernel)
    · exact .int
  | res n v =>
    refine .tup fun x hx => ?_
    simp at hx
    rcases hx with rfl | rfl | rfl
    · exact .str (by decide +kernel)
    · exact .int
    · exact .int
theorem pygP (p : Int × Int) : PyG 1 (pairD p) := .tup fun x hx => by
  simp at hx
  rcases hx with rfl | rfl <;> exact .int
theorem pygD {d : Deed} (h : d.Ok) : PyG 9 (encDd d) := by
  cases d with
  | edit e =>
    refine .tup fun x hx => ?_
    simp at hx
    rcases hx with rfl | rfl
    · exact .str (by decide +kernel)
    · exact pygE h
  | set m v =>
    refine .tup fun x hx => ?_
    simp at hx
    rcases hx with rfl | rfl | rfl
    · exact .str (by decide +kernel)
    · exact .int
    · exact .int
  | moves mv =>
    refine .tup fun x hx => ?_
    simp at hx
    rcases hx with rfl | rfl
    · exact .str (by decide +kernel)
    · refine (PyG.tup (n := 1) fun x hx => ?_).mono (by decide)
      obtain ⟨p, _, rfl⟩ := List.mem_map.mp hx
      exact pygP p
/-! ### offsets moved all at once -/
def shiftI (O : List (Int × Int)) (n v : Int) : List (Int × Int) := O.map fun p => (p.1, p.2 + if p.1 = n then v else 0)
theorem shift_keys (O : List (Int × Int)) (n v : Int) : keysI (shiftI O n v) = keysI O := by simp [keysI, shiftI, List.map_map, Function.comp_def]
theorem getI_shift (n v k : Int) : ∀ O : List (Int × Int), getI (shiftI O n v) k = (getI O k).map fun x => x + if k = n then v else 0
  | [] => rfl
  | p :: r => by
    show getI ((p.1, p.2 + if p.1 = n then v else 0) :: shiftI r n v) k = _
    rw [getI_cons, getI_cons, getI_shift n v k r]
    by_cases h : p.1 = k
    · rw [if_pos h, if_pos h, ← h]; rfl
    · rw [if_neg h, if_neg h]
theorem gI_shift {O : List (Int × Int)} {n v k : Int} (h : k ∈ keysI O) : gI (shiftI O n v) k = gI O k + if k = n then v else 0 := by
  unfold gI
  rw [getI_shift, getI_key h]
  rfl
theorem shift_fit {b : Box} {O : List (Int × Int)} {n v : Int} (g : GoodS b O) : fitB (shiftI O n v) b = if n ∈ keysI (rangesB b) then putI O n (clampI (gI O n + v) (gI (rangesB b) n)) else O := by
  have key : ∀ q ∈ scrsB b, gI (fitB (shiftI O n v) b) q.num = if q.num = n then clampI (gI O n + v) (rangeB q) else gI O q.num := by
    intro q hq
    have hk : q.num ∈ keysI O := by rw [g.keys]; exact List.mem_map.mpr ⟨q, hq, rfl⟩
    rw [gI_fit _ g.nd hq, gI_shift hk]
    by_cases e : q.num = n
    · rw [if_pos e, if_pos e, e]; rfl
    · rw [if_neg e, if_neg e]
      have := g.rng q hq
      omega
  have kf := fitB_keys (shiftI O n v) g.nd
  by_cases hn : n ∈ keysI (rangesB b)
  · rw [if_pos hn]
    have hn2 : n ∈ keysI O := by rw [g.keysR]; exact hn
    refine ext_keys (by rw [kf, keys_put_mem hn2, g.keys]) (by rw [kf]; exact nodup_scrs g.nd) fun k hk => ?_
    rw [kf] at hk
    obtain ⟨q, hq, rfl⟩ := List.mem_map.mp hk
    rw [key q hq, gI_put]
    by_cases e : q.num = n
    · rw [if_pos e, if_pos e, ← e, rangesB_at g.nd hq]
    · rw [if_neg e, if_neg e]
  · rw [if_neg hn]
    refine ext_keys (by rw [kf, g.keys]) (by rw [kf]; exact nodup_scrs g.nd) fun k hk => ?_
    rw [kf] at hk
    obtain ⟨q, hq, rfl⟩ := List.mem_map.mp hk
    have e : ¬ q.num = n := fun z => hn (by rw [rangesB_keys, ← z]; exact List.mem_map.mpr ⟨q, hq, rfl⟩)
    rw [key q hq, if_neg e]
theorem good_moved1 {b : Box} {O : List (Int × Int)} {n v : Int} (g : GoodS b O) : GoodS b (if n ∈ keysI (rangesB b) then putI O n (clampI (gI O n + v) (gI (rangesB b) n)) else O) := by
  have := good_moved [(n, v)] O g
  exact this
theorem put_put' {O : List (Int × Int)} {n x y : Int} : putI (putI O n x) n y = putI O n y := by
  by_cases h : n ∈ keysI O
  · exact put_put h
  · have e : putI O n x = O ++ [(n, x)] := put_new h
    have h2 : n ∈ keysI (putI O n x) := by rw [e]; simp [keysI]
    have e3 : putI (O ++ [(n, x)]) n y = (O ++ [(n, x)]).map fun p => if p.1 = n then (p.1, y) else p := by
      rw [e] at h2
      unfold putI
      rw [if_pos ((any_keys _ n).mpr h2)]
    rw [put_new (v := y) h, e, e3, List.map_append]
    congr 1
    · conv => rhs; rw [← List.map_id O]
      apply List.map_congr_left
      intro p hp
      rw [if_neg fun z => h (by rw [← z]; exact List.mem_map.mpr ⟨p, hp, rfl⟩)]
      rfl
    · simp
end Dv

set_option maxRecDepth 100000
set_option maxHeartbeats 1000000
/-! Dicts with texts as keys. -/
namespace Dv
open PySem PySem.Spec L2
theorem valV_T : ∀ (fs : List (Str × V)) (f : Str), valV (keyT fs) (Sum.inr f) = fs.lookup f
  | [], _ => rfl
  | p :: r, f => by
    show valV ((Sum.inr p.1, p.2) :: keyT r) (Sum.inr f) = _
    by_cases e : p.1 = f
    · rw [valV_pos (by show (Sum.inr p.1 : Key) = Sum.inr f; rw [e]), List.lookup_cons, e, beq_self_eq_true]
    · have e2 : (f == p.1) = false := by simpa using fun z => e z.symm
      rw [valV_neg (fun z => e (Sum.inr.inj z)), valV_T r f, List.lookup_cons, e2]
/-- in its place, or at the end -/
def putT {α : Type} (fs : List (Str × α)) (f : Str) (v : α) : List (Str × α) :=
  if (fs.any fun p => decide (p.1 = f)) then fs.map fun p => if p.1 = f then (p.1, v) else p else fs ++ [(f, v)]
theorem any_T (fs : List (Str × V)) (f : Str) : ((keyT fs).any fun kv => decide (kv.1 = (Sum.inr f : Key))) = fs.any fun p => decide (p.1 = f) := by
  unfold keyT
  rw [List.any_map]
  congr 1
  funext p
  simp
theorem putK_T (fs : List (Str × V)) (f : Str) (v : V) : putK (keyT fs) (Sum.inr f) v = keyT (putT fs f v) := by
  unfold putK putT
  rw [any_T]
  split
  · unfold keyT
    rw [List.map_map, List.map_map]
    apply List.map_congr_left
    intro p _
    simp only [Function.comp_def]
    by_cases e : p.1 = f
    · rw [if_pos e, if_pos (by rw [e])]
    · rw [if_neg e, if_neg (fun z => e (Sum.inr.inj z))]
  · unfold keyT
    rw [List.map_append]
    rfl
theorem repF_any {B : Hp} {fs : List (Str × V)} {gs : List (Str × D)} (r : RepF B fs gs) (f : Str) : (fs.any fun p => decide (p.1 = f)) = gs.any fun p => decide (p.1 = f) := by
  induction r with
  | nil => rfl
  | @cons k v d vs ds h r ih => rw [List.any_cons, List.any_cons, ih]
theorem repF_map {B : Hp} {fs : List (Str × V)} {gs : List (Str × D)} (r : RepF B fs gs) {f : Str} {v : V} {d : D} (h : Rep B v d) : RepF B (fs.map fun p => if p.1 = f then (p.1, v) else p) (gs.map fun p => if p.1 = f then (p.1, d) else p) := by
  induction r with
  | nil => exact .nil
  | @cons k v' d' vs ds hv r ih =>
    rw [List.map_cons, List.map_cons]
    by_cases e : k = f
    · rw [if_pos e, if_pos e]; exact .cons h ih
    · rw [if_neg e, if_neg e]; exact .cons hv ih
theorem repF_snoc {B : Hp} {fs : List (Str × V)} {gs : List (Str × D)} (r : RepF B fs gs) {f : Str} {v : V} {d : D} (h : Rep B v d) : RepF B (fs ++ [(f, v)]) (gs ++ [(f, d)]) := by
  induction r with
  | nil => exact .cons h .nil
  | cons hv r ih => exact .cons hv ih
theorem repF_putT {B : Hp} {fs : List (Str × V)} {gs : List (Str × D)} (r : RepF B fs gs) {f : Str} {v : V} {d : D} (h : Rep B v d) : RepF B (putT fs f v) (putT gs f d) := by
  unfold putT
  rw [repF_any r f]
  split
  · exact repF_map r h
  · exact repF_snoc r h
theorem rel_tdic {B F H : Hp} {C : CH} {a : Addr} {gs : List (Str × D)} (rl : Rel B C F H) (h : C a = some (.tdic gs)) : ∃ fs, H a = some (.dK (keyT fs)) ∧ RepF B fs gs := by
  obtain ⟨o, h1, h2⟩ := rl.own _ _ h
  cases h2 with
  | tdic r => exact ⟨_, h1, r⟩
theorem keyT_len (fs : List (Str × V)) : (keyT fs).length = fs.length := List.length_map _
section
variable {B0 : Gr} {E : EnvD} {C : CH} {P : D → CH → Prop}
theorem w_tget {td ty : TE} (h : W B0 td E C fun x C1 => W B0 ty E C1 fun y C2 => ∃ a gs f d, x = .ref a ∧ y = .str f ∧ C2 a = some (.tdic gs) ∧ gs.lookup f = some d ∧ P d C2) : W B0 (tDGet td ty) E C P := fun B F σ H sb rl re Q q =>
  h B F σ H sb rl re _ fun v1 d1 B1 C1 H1 e1 rl1 rp1 h1 => h1 B1 F σ H1 (sb.trans e1) rl1 (re.mono e1) _ fun v2 d2 B2 C2 H2 e2 rl2 rp2 ⟨a, gs, f, d, hx, hy, hc, hl, p⟩ => by
    subst hx hy
    cases rp1; cases rp2
    obtain ⟨fs, ha, r⟩ := rel_tdic rl2 hc
    obtain ⟨v, g1, g2⟩ := repF_look r hl
    have g := DGet.k (k := Sum.inr f) ha
    rw [valV_T, g1] at g
    exact ⟨a, v, rfl, g, q v d B2 C2 H2 (e1.trans e2) rl2 g2 p⟩
theorem ws_tput {td ty tv : TE} {D1 : EndD} (h : W B0 tv E C fun v C1 => W B0 td E C1 fun x C2 => W B0 ty E C2 fun y C3 => ∃ a gs f, x = .ref a ∧ y = .str f ∧ C3 a = some (.tdic gs) ∧ gs.length < 1000 ∧ D1.nx E (updC C3 a (.tdic (putT gs f v)))) : WS B0 (sDPut td ty tv) E C D1 := fun B F σ H sb rl re Dn ok =>
  h B F σ H sb rl re _ fun v1 d1 B1 C1 H1 e1 rl1 rp1 h1 => h1 B1 F σ H1 (sb.trans e1) rl1 (re.mono e1) _ fun v2 d2 B2 C2 H2 e2 rl2 rp2 h2 =>
    h2 B2 F σ H2 (sb.trans (e1.trans e2)) rl2 (re.mono (e1.trans e2)) _ fun v3 d3 B3 C3 H3 e3 rl3 rp3 ⟨a, gs, f, hx, hy, hc, hl, n⟩ => by
      subst hx hy
      cases rp2; cases rp3
      obtain ⟨fs, ha, r⟩ := rel_tdic rl3 hc
      refine ⟨a, _, rfl, DPut.k (k := Sum.inr f) ha (by rw [keyT_len, repF_len r]; exact Nat.lt_trans hl (by decide)), ?_⟩
      rw [putK_T]
      exact ok.nx σ E B3 _ _ ((e1.trans e2).trans e3) (rl3.write hc (.tdic (repF_putT r (rp1.mono (e2.trans e3))))) (re.mono ((e1.trans e2).trans e3)) n
/-! displays -/
def WPT (B0 : Gr) (t : List (TE × TE)) (E : EnvD) (C : CH) (P : List (Str × D) → CH → Prop) : Prop :=
  ∀ (B F : Hp) (σ : St) (H : Hp), Sb B0 B F → Rel B C F H → RelE B σ E → ∀ Q : List (V × V) → Hp → Prop,
    (∀ fs gs B' C' H', Same B B' → Rel B' C' F H' → RepF B' fs gs → P gs C' → Q ((keyT fs).map fun kv => (kV kv.1, kv.2)) H') → tPairs t σ H Q
theorem wpt_nil {PL : List (Str × D) → CH → Prop} (k : PL [] C) : WPT B0 [] E C PL := fun B F σ H _ rl _ Q q => q [] [] B C H (Same.refl B) rl .nil k
theorem wpt_cons {PL : List (Str × D) → CH → Prop} {tk tv : TE} {r : List (TE × TE)} (h : W B0 tk E C fun x C1 => ∃ f, x = .str f ∧ W B0 tv E C1 fun y C2 => WPT B0 r E C2 fun ps C3 => PL ((f, y) :: ps) C3) : WPT B0 ((tk, tv) :: r) E C PL := fun B F σ H sb rl re Q q =>
  h B F σ H sb rl re _ fun v1 d1 B1 C1 H1 e1 rl1 rp1 ⟨f, hd, h1⟩ => by
    subst hd
    cases rp1
    exact h1 B1 F σ H1 (sb.trans e1) rl1 (re.mono e1) _ fun v2 d2 B2 C2 H2 e2 rl2 rp2 h2 =>
      h2 B2 F σ H2 ((sb.trans e1).trans e2) rl2 ((re.mono e1).mono e2) _ fun fs gs B3 C3 H3 e3 rl3 rp3 p => q ((f, v2) :: fs) _ B3 C3 H3 ((e1.trans e2).trans e3) rl3 (.cons (rp2.mono e3) rp3) p
def mergeT {α : Type} (l acc : List (Str × α)) : List (Str × α) := l.foldl (fun acc p => putT acc p.1 p.2) acc
theorem mergeK_T : ∀ (fs acc : List (Str × V)), mergeK (keyT acc) (keyT fs) = keyT (mergeT fs acc)
  | [], _ => rfl
  | p :: r, acc => by
    show mergeK (putK (keyT acc) (Sum.inr p.1) p.2) (keyT r) = keyT (mergeT r (putT acc p.1 p.2))
    rw [putK_T, mergeK_T r]
theorem repF_merge {B : Hp} {fs : List (Str × V)} {gs : List (Str × D)} (r : RepF B fs gs) : ∀ {acc : List (Str × V)} {ac : List (Str × D)}, RepF B acc ac → RepF B (mergeT fs acc) (mergeT gs ac) := by
  induction r with
  | nil => intro acc ac r0; exact r0
  | @cons k v d vs ds h r ih =>
    intro acc ac r0
    exact ih (repF_putT r0 h)
theorem w_dispT {trs : List (TE × TE)} (h : ∀ a, C a = none → WPT B0 trs E (updC C a (.tdic [])) fun ps C1 => C1 a = some (.tdic []) ∧ ps.length ≤ 15 ∧ P (.ref a) (updC C1 a (.tdic (mergeT ps [])))) : W B0 (tDisp trs) E C P := fun B F σ H sb rl re Q q a ha =>
  h a (rl.noC ha) B F σ _ sb (rl.newC ha (c := .tdic []) (.tdic (fs := []) .nil)) re _ fun fs gs B1 C1 H1 e1 rl1 rp ⟨hc, hl, p⟩ => by
    obtain ⟨fs0, h1, r0⟩ := rel_tdic rl1 hc
    cases r0
    refine ⟨h1, keyT fs, rfl, by rw [keyT_len, repF_len rp]; exact hl, ?_⟩
    have e : mergeK ([] : List (Key × V)) (keyT fs) = keyT (mergeT fs []) := mergeK_T fs []
    rw [e]
    exact q _ _ B1 _ _ e1 (rl1.write hc (.tdic (repF_merge rp .nil))) .ref p
end
end Dv

set_option maxRecDepth 100000
set_option maxHeartbeats 1000000
/-! Methods that raise; or by truth as a value; dicts with text keys among targets. -/
namespace Dv
open PySem PySem.Spec L2
/-! ### methods that raise -/
def tMethX (c : Addr) (m : Str) (sp : Sp) (E' : St → XK) (ta : TE) (t : TA) : TE := fun σ H Q => ta σ H fun x H1 => ∃ a dx fs, x = .ref a ∧ H1 a = some (.ins c dx fs) ∧ fs.lookup m = none ∧ t σ H1 fun vs H2 => sp (x :: vs) H2 Q (E' σ)
def HasXM (P : Program) (w : World) (K : PySem.W.Frag) (mg : Str → Option Value) (base : Heap) (k : Nat) (cn m : Str) (ps : List Str) (sp : Sp) : Prop :=
  ∃ f fd, FnOk P w K mg base (L2.CX P w) k f fd ps sp ∧ Meth K (clsA mg cn) m f ∧ Binds K fd ps []
theorem HasXM.mono {P : Program} {w : World} {K : PySem.W.Frag} {mg : Str → Option Value} {base : Heap} {j k : Nat} {x m : Str} {ps : List Str} {sp : Sp} (h : HasXM P w K mg base j x m ps sp) (l : j ≤ k) : HasXM P w K mg base k x m ps sp := by
  obtain ⟨f, fd, a, b, c⟩ := h
  exact ⟨f, fd, a.mono l, b, c⟩
section
variable {P : Program} {w : World} {K : PySem.W.Frag} {mg : Str → Option Value} {base : Heap}
theorem has_ofMX {cn m qual : Str} {st : Stmt} {N ps : List Str} {k : Nat} {g : SpX} (Df : MetAt K mg cn m qual st ps) (S : FnScope N ps (defScope st)) (len : ∀ ds C P PX, g ds C P PX → ds.length = ps.length)
    (hbody : ∀ (f : Addr) (cdv : Value) (A : Around) (outer : List PySem.Env) (s : Shared) (H : Hp) (E : XK), Room k (A.deeper (PyProof.Rows.envOfC qual (defScope st) s.heap.objs.size f cdv)) →
      ∃ t, PSs (cxOf (L2.CX P w) P w K mg base N qual (defScope st) f cdv A outer s H E) (defBody st) t ∧ ∀ (B : Gr) ds C PD PX, g ds C PD PX → XOkF mg B E PX → WS B t (startD N.length ds) C { nx := fun _ C' => PD .non C', rt := PD }) :
    HasXM P w K mg base (k + 1) cn m ps (spX mg g) := by
  obtain ⟨f, fd, F, hm, hb⟩ := Df
  refine ⟨f, fd, F.okX S ?_ ?_, hm, hb⟩
  · rintro vs H Q E ⟨B, F, C, ds, P, PX, _, rp, h, _⟩
    rw [rp.length]
    exact len _ _ _ _ h
  · intro cdv A outer s H vs Q E hr h
    obtain ⟨t, h1, h2⟩ := hbody f cdv A outer s H E hr
    obtain ⟨B, F, C, ds, P, PX, rl, rp, hg, q, qx⟩ := h
    refine ⟨t, h1, h2 ⟨B, F⟩ ds C P PX hg (fun B' F' H' C' sb rl' x c d ok p => qx x c d B' C' H' sb.1 (rl'.less sb.2) ok p) B F _ H (Sb.refl B F) rl (RelE.begin rp) _ ⟨?_, ?_, ?_, ?_⟩⟩
    · exact fun σ' E' B' C' H' e rl' _ p => q .non .non B' C' H' e rl' .non p
    · exact fun v d B' C' H' e rl' rp' p => q v d B' C' H' e rl' rp' p
    · exact fun _ _ _ _ _ _ _ _ z => z
    · exact fun _ _ _ _ _ _ _ _ z => z
end
section
variable {X : Cx} {x cn m : Str} {ps : List Str} {sp : Sp} {k j : Nat} {p pos apos : Pos} {o e : Expr} {es : List Expr} {t : TA} {ta : TE} {pl : Sem Bool}
theorem pe_mtX (mg : Str → Option Value) {W : WX} (h : HasXM X.prog X.w X.K X.mg X.base k cn m ps sp) (kc : Cls X.K (clsA X.mg cn)) (hr : Room k X.A) (he : PE X o ta) (ha : PA X (e :: es) t) (tk : Takes X W)
    (hst : starEach (e :: es) X.env = (false, eval e X.env) :: starEach es X.env := by rfl) (hpl : (backTo pos (starEach es X.env)).any (·.1) = false := by rfl)
    (ht : eval (.Call (.Attribute o m apos) (e :: es) [] pos) X.env = (do
      let ov ← eval o X.env
      standAt apos.atName
      let (f, first) ← holding [ov] (getMethod ov m pl)
      callWith pos f first (backTo pos (starEach (e :: es) X.env)) (backToKw pos (keywordEach [] X.env))) := by rfl) (hmg : X.mg = mg := by rfl) :
    PE X (.Call (.Attribute o m apos) (e :: es) [] pos) (tMethX (clsA mg cn) m sp (WE W) ta t) := by
  subst hmg
  obtain ⟨f, fd, F, hm, hb⟩ := h
  refine ⟨fun pins s σ H Q I h => ?_⟩
  refine PySem.W.methodCall_KW (pl := pl) (thn (he.run pins s σ H _ I h) fun u s1 ⟨x, H1, I1, rx, a, dx, fs, ex, ea, l, q⟩ => ?_) ht
  subst ex
  obtain rfl : u = Value.ref a := rx
  refine getmeth_ok I1 ea kc hm l ?_
  refine PySem.W.callWith_K (first := [.ref a]) (h₀ := X.base) I.ok.mod.kin hm.kp (thn (ha.run pos pins s1 σ H1 _ I1 q) fun us s2 ⟨vs, H2, I2, r, q2⟩ => ⟨I2.kIn, ?_⟩) hst hpl
  exact run_fnS (us := .ref a :: us) (vs := .ref a :: vs) (E := WE W) F hr hb (passAt tk σ) I2 (.cons rfl r) q2
theorem pe_mtX0 (mg : Str → Option Value) {W : WX} (h : HasXM X.prog X.w X.K X.mg X.base k cn m ps sp) (kc : Cls X.K (clsA X.mg cn)) (hr : Room k X.A) (he : PE X o ta) (tk : Takes X W)
    (ht : eval (.Call (.Attribute o m apos) [] [] pos) X.env = (do
      let ov ← eval o X.env
      standAt apos.atName
      let (f, first) ← holding [ov] (getMethod ov m pl)
      callWith pos f first (backTo pos (starEach [] X.env)) (backToKw pos (keywordEach [] X.env))) := by rfl) (hmg : X.mg = mg := by rfl) :
    PE X (.Call (.Attribute o m apos) [] [] pos) (tMethX (clsA mg cn) m sp (WE W) ta tNil) := by
  subst hmg
  obtain ⟨f, fd, F, hm, hb⟩ := h
  refine ⟨fun pins s σ H Q I h => ?_⟩
  refine PySem.W.methodCall_KW (pl := pl) (thn (he.run pins s σ H _ I h) fun u s1 ⟨x, H1, I1, rx, a, dx, fs, ex, ea, l, q⟩ => ?_) ht
  subst ex
  obtain rfl : u = Value.ref a := rx
  refine getmeth_ok I1 ea kc hm l ?_
  exact PySem.W.callWith_K0 (first := [.ref a]) I1.kIn hm.kp (run_fnS (us := [.ref a]) (vs := [.ref a]) (E := WE W) F hr hb (passAt tk σ) I1 (.cons rfl .nil) q)
end
theorem w_methX {mg : Str → Option Value} {B0 : Gr} {g : SpX} {c : Addr} {m : Str} {E' : St → XK} {ta : TE} {t : TA} {E : EnvD} {C : CH} {P : D → CH → Prop} {PX : Exn → CH → Prop} (hX : XOk mg B0 E' E PX)
    (h : W B0 ta E C fun x C1 => ∃ a, x = .ref a ∧ ∃ gs, C1 a = some (.ins c gs) ∧ gs.lookup m = none ∧ WA B0 t E C1 fun ds C2 => g (.ref a :: ds) C2 P PX) : W B0 (tMethX c m (spX mg g) E' ta t) E C P := fun B F σ H sb rl re Q q =>
  h B F σ H sb rl re _ fun v x B1 C1 H1 e1 rl1 rp1 ⟨a, hx, gs, hc, hl, h2⟩ => by
    subst hx
    cases rp1
    obtain ⟨dx, fs, h1, r⟩ := rel_ins rl1 hc
    refine ⟨a, dx, fs, rfl, h1, repF_none r hl, h2 B1 F σ H1 (sb.trans e1) rl1 (re.mono e1) _ fun vs ds B2 C2 H2 e2 rl2 rp2 p => ?_⟩
    exact ⟨B2, F, C2, _, P, PX, rl2, .cons .ref rp2, p, fun v d B' C' H' e => q v d B' C' H' ((e1.trans e2).trans e),
      fun x c d B' C' H' e rl' ok px => hX B' F σ H' C' (sb.trans ((e1.trans e2).trans e)) rl' (re.mono ((e1.trans e2).trans e)) x c d ok px⟩
/-! ### or as a value, by truth -/
theorem pe_orTK (K : PySem.W.Frag) {X : Cx} {a b : Expr} {rest : List Expr} {pos : Pos} {ta tb : TE} (ha : PE X a ta) (hb : PE X (.BoolOp .Or (b :: rest) pos) tb) (h : X.K = K := by rfl) : PE X (.BoolOp .Or (a :: b :: rest) pos) (tOrT K ta tb) := by
  subst h
  exact pe_orT ha hb
theorem w_orT {K : PySem.W.Frag} {B0 : Gr} {ta tb : TE} {E : EnvD} {C : CH} {P : D → CH → Prop} (h : W B0 ta E C fun x C1 => ∃ b, TruD C1 x = some b ∧ (b = true → P x C1) ∧ (b = false → W B0 tb E C1 P)) : W B0 (tOrT K ta tb) E C P := fun B F σ H sb rl re Q q =>
  h B F σ H sb rl re _ fun v x B1 C1 H1 e1 rl1 rp1 ⟨b, hb, h1, h2⟩ => by
    refine ⟨b, truD_ok rl1 rp1 hb, ?_⟩
    cases b with
    | true => exact q v x B1 C1 H1 e1 rl1 rp1 (h1 rfl)
    | false => exact h2 rfl B1 F σ H1 (sb.trans e1) rl1 (re.mono e1) Q fun v d B' C' H' e => q v d B' C' H' (e1.trans e)
/-! ### None in a list of numbers -/
theorem inV_non : ∀ ms : List Int, inV .non (ms.map V.int) = false
  | [] => by simp [inV]
  | m :: r => by
    have ih := inV_non r
    unfold inV at ih ⊢
    rw [List.map_cons, List.any_cons, ih]
    simp [eqV]
theorem wr_inN {K : PySem.W.Frag} {B0 : Gr} {C : CH} {P : D → CH → Prop} {y : D} {ms : List Int} (hy : SeqD C y (ms.map D.int)) (k : P (.bl false) C) : WR B0 (rInU K false) .non y C P := fun B F H vx vy _ rl hx h2 Q q => by
  cases hx
  obtain ⟨a, vs, rfl, hs, r⟩ := seqD_rd (K := K) rl h2 hy
  have e := r.ints
  subst e
  refine .inl ⟨a, _, rfl, hs, rfl, flat_ints ms, ?_⟩
  rw [if_neg Bool.false_ne_true]
  rw [inV_non]
  exact q _ _ B C H (Same.refl B) rl .bl k
/-! ### d["x"] = .. among targets -/
theorem wset_t {B0 : Gr} {C : CH} {a : Addr} {f : Str} {v : D} {gs : List (Str × D)} {N : CH → Prop} (h : C a = some (.tdic gs)) (hl : gs.length < 1000) (k : N (updC C a (.tdic (putT gs f v)))) : WSet B0 rSetD (.ref a) (.str f) v C N := fun B F H vo vi vv _ rl ho hi' hv Q q => by
  cases ho; cases hi'
  obtain ⟨fs, ha, r⟩ := rel_tdic rl h
  refine ⟨a, _, rfl, DPut.k (k := Sum.inr f) ha (by rw [keyT_len, repF_len r]; exact Nat.lt_trans hl (by decide)), ?_⟩
  rw [putK_T]
  exact q B _ _ (Same.refl B) (rl.write h (.tdic (repF_putT r hv))) k
/-- one way to a value, whatever the test -/
theorem w_to {B0 : Gr} {te : TE} {E : EnvD} {C : CH} {P : D → CH → Prop} (d0 : D) (h : W B0 te E C fun d C1 => d = d0 ∧ C1 = C) (k : P d0 C) : W B0 te E C P := fun B F σ H sb rl re Q q =>
  h B F σ H sb rl re Q fun v d B' C' H' e rl' rp ⟨h1, h2⟩ => by
    subst h1 h2
    exact q v _ B' _ H' e rl' rp k
end Dv

set_option maxRecDepth 100000
set_option maxHeartbeats 1000000
/-! The painter plainly: committed states, moves, waiting scrolls. -/
namespace Dv
open PySem L2
structure Tr where
  num : Int
  doc : Box
  base : List (Int × Int)
  held : List Int
  inc : Nat
  painted : List Int
  deeds : List Deed
def viewT (t : Tr) (mv : List (Int × Int)) : List (Int × Int) := movedL (rangesB t.doc) (mv.drop t.inc) t.base
def blksB (b : Box) : List Box := b.all.filter fun p => !p.isS
theorem blksB_num (b : Box) : (blksB b).map Box.num = blocksB b := rfl
theorem blks_len (b : Box) : (blksB b).length ≤ b.all.length := List.length_filter_le _ _
def visB (b : Box) (O : List (Int × Int)) (n : Int) : Bool := visN (winsOf O b) (.int n)
def shownB (b : Box) (O : List (Int × Int)) : List Int := (blocksB b).filter (visB b O)
def missT (t : Tr) (mv : List (Int × Int)) : List Int := (shownB t.doc (viewT t mv)).filter fun n => decide (n ∉ t.painted)
def restT (t : Tr) : List Int := (blocksB t.doc).filter fun n => decide (n ∉ t.painted)
theorem filter_map_int (f : D → Bool) (l : List Int) : (l.map D.int).filter f = (l.filter fun n => f (.int n)).map D.int := by
  rw [List.filter_map]
  rfl
theorem pict_fst {b : Box} {O : List (Int × Int)} : (pictD (winsOf O b) b).map fstD = (shownB b O).map D.int := by
  unfold pictD shownB
  rw [filter_map_int, List.map_map, List.map_map]
  apply List.map_congr_left
  intro n hn
  have hb := (List.mem_filter.mp hn).1
  obtain ⟨p, hp, rfl⟩ := blocks_mem hb
  obtain ⟨t, f, e, ht⟩ := winsOf_tri O hp
  simp [entN, ht, tri, fstD]
/-! sorted numbers -/
def srt (l : List Int) : List Int := l.mergeSort fun a b => decide (a ≤ b)
theorem srt_perm (l : List Int) : (srt l).Perm l := List.mergeSort_perm l _
theorem srt_up (l : List Int) : (srt l).Pairwise (· ≤ ·) := by
  have h := List.pairwise_mergeSort (le := fun (a b : Int) => decide (a ≤ b)) (fun a b c h1 h2 => by simp at *; omega) (fun a b => by simp; omega) l
  exact h.imp fun h => of_decide_eq_true h
theorem sorted_uniq : ∀ {a b : List Int}, a.Perm b → a.Pairwise (· ≤ ·) → b.Pairwise (· ≤ ·) → a = b
  | [], b, p, _, _ => (List.Perm.nil_eq p)
  | x :: a, [], p, _, _ => by have := p.length_eq; simp at this
  | x :: a, y :: b, p, ha, hb => by
    rw [List.pairwise_cons] at ha hb
    have e : x = y := by
      have h1 : x ∈ y :: b := p.subset (by simp)
      have h2 : y ∈ x :: a := p.symm.subset (by simp)
      have k1 : y ≤ x := by
        rcases List.mem_cons.mp h1 with h | h
        · omega
        · exact hb.1 x h
      have k2 : x ≤ y := by
        rcases List.mem_cons.mp h2 with h | h
        · omega
        · exact ha.1 y h
      omega
    subst e
    rw [sorted_uniq (List.Perm.cons_inv p) ha.2 hb.2]
theorem srt_eq {l m : List Int} (p : m.Perm l) (u : m.Pairwise (· ≤ ·)) : m = srt l := sorted_uniq (p.trans (srt_perm l).symm) u (srt_up l)
theorem srt_len (l : List Int) : (srt l).length = l.length := (srt_perm l).length_eq
/-! a committed state that is well -/
structure TrOk (t : Tr) : Prop where
  good : GoodS t.doc t.base
  root : t.doc.isS = true
  hh : ∀ p ∈ t.doc.all, 0 ≤ p.hgt
  hl : t.held.length ≤ 1000
  pl : t.painted.length ≤ 1000
theorem TrOk.view {t : Tr} (h : TrOk t) (mv : List (Int × Int)) : GoodS t.doc (viewT t mv) := good_moved _ _ h.good
theorem GoodS.allIn {b : Box} {O : List (Int × Int)} (h : GoodS b O) : AllIn O b := fun s hs hss => by
  rw [h.keys]
  exact List.mem_map.mpr ⟨s, List.mem_filter.mpr ⟨hs, hss⟩, rfl⟩
theorem GoodS.nn {b : Box} {O : List (Int × Int)} (h : GoodS b O) (k : Int) : 0 ≤ gI O k := h.offs.pos k
theorem TrOk.lenD {t : Tr} (h : TrOk t) : t.doc.all.length ≤ 200 := h.good.len
def hgtOf (a : Tr) (n : Int) : Option Int := if n ∈ a.painted then match findB a.doc.all n with
    | some (.block _ h) => some h
    | _ => none
  else none
def keptL (a : Tr) (b : Box) : List Int := ((blksB b).filter fun p => decide (hgtOf a p.num = some p.hgt)).map Box.num
/-! the painter -/
structure Pn where
  act : Tr
  pen : Option Tr
  mv : List (Int × Int)
  wt : List (List Int × Int)
def encW (p : List Int × Int) : D := .tup [.tup (p.1.map D.int), .int p.2]
def madeX (X : Pn) (path : List Int) (am : Int) : List (Int × Int) := (scrollL (gI (rangesB X.act.doc)) path (viewT X.act X.mv) am).2
def pushX (X : Pn) (path : List Int) (am : Int) : Pn := { X with mv := X.mv ++ madeX X path am }
def undX (X : Pn) (row : Int) : List Int × D := undB (viewT X.act X.mv) X.act.doc row []
def stuckX (X : Pn) (row : Int) : Bool := ((undX X row).1 ++ thereOf (undX X row).2).any fun n => decide (n ∈ X.act.held)
def scrollX (X : Pn) (row am : Int) : Pn × D :=
  if am = 0 then (X, .tup []) else if stuckX X row = true then ({ X with wt := X.wt ++ [((undX X row).1, am)] }, .non)
  else (pushX X (undX X row).1 am, .tup ((madeX X (undX X row).1 am).map pairD))
def thereX (X : Pn) (path : List Int) : List Int := path.filter fun n => decide (n ∈ (scrsB X.act.doc).map Box.num)
def answerX (X : Pn) (ok : Bool) : Option (Pn × D) := match X.wt with
  | [] => none
  | w :: r => some (if ok = true then (pushX { X with wt := r } (thereX X w.1) w.2, .tup ((madeX X (thereX X w.1) w.2).map pairD)) else ({ X with wt := r }, .tup []))
def chosenT (t : Tr) (mv : List (Int × Int)) : List Int := if missT t mv = [] then restT t else missT t mv
def addT (t : Tr) (n : Int) : Tr := { t with painted := srt (t.painted ++ [n]) }
def paintX (X : Pn) : Pn × D := match X.pen with
  | none => match chosenT X.act X.mv with
    | [] => (X, .non)
    | n :: _ => ({ X with act := addT X.act n }, .int n)
  | some t => match chosenT t X.mv with
    | [] => (X, .non)
    | n :: _ => ({ X with pen := some (addT t n) }, .int n)
def takeX (X : Pn) : Option (Pn × D) := match X.pen with
  | none => none
  | some t => if missT t X.mv = [] then some ({ X with act := t, pen := none }, .int t.num) else none
def entP (pt : List Int) : D → D := fun x => match x with
  | .tup (.int n :: l) => .tup (.int n :: l ++ [.bl (decide (n ∈ pt))])
  | _ => .non
def frameX (X : Pn) : D := .tup [.int X.act.num, .int (X.mv.length : Nat), .lst ((pictD (winsOf (viewT X.act X.mv) X.act.doc) X.act.doc).map (entP X.act.painted))]
def receiveX (X : Pn) (t : Tr) : Pn := { X with pen := some { t with painted := srt (keptL X.act t.doc) } }
/-! as cells -/
def stF (n : Int) (b : Box) (x h : D) (i : Int) (p : D) : List (Str × D) := [("number", .int n), ("document", encB b), ("base", x), ("held", h), ("included", .int i), ("painted", p)]
def stC (mg : Str → Option Value) (t : Tr) : Cell := .ins (clsA mg "State") (stF t.num t.doc (.dic (encI t.base)) (.lst (t.held.map D.int)) (t.inc : Nat) (.lst (t.painted.map D.int)))
def optR : Option Addr → D
  | none => .non
  | some a => .ref a
def pnF (s : Addr) (o : Option Addr) (X : Pn) : List (Str × D) := [("active", .ref s), ("pending", optR o), ("moves", .lst (X.mv.map pairD)), ("waiting", .lst (X.wt.map encW))]
def PenC (mg : Str → Option Value) (C : CH) (s : Addr) : Option Addr → Option Tr → Prop
  | none, none => True
  | some q, some t => C q = some (stC mg t) ∧ q ≠ s
  | _, _ => False
structure PnC (mg : Str → Option Value) (C : CH) (p s : Addr) (o : Option Addr) (X : Pn) : Prop where
  cp : C p = some (.ins (clsA mg "Painter") (pnF s o X))
  cs : C s = some (stC mg X.act)
  co : PenC mg C s o X.pen
theorem ins_ne {mg : Str → Option Value} {C : CH} {p q : Addr} {c : Addr} {t : Tr} {s : Addr} {o : Option Addr} {X : Pn} (h1 : C p = some (.ins c (pnF s o X))) (h2 : C q = some (stC mg t)) : p ≠ q := fun e => by
  subst e
  rw [h1] at h2
  unfold stC stF pnF at h2
  injection h2 with h2
  injection h2 with _ h2
  injection h2 with h2
  injection h2 with h2
  exact absurd h2 (by decide)
theorem PnC.ps {mg : Str → Option Value} {C : CH} {p s : Addr} {o : Option Addr} {X : Pn} (h : PnC mg C p s o X) : p ≠ s := ins_ne h.cp h.cs
theorem PnC.pq {mg : Str → Option Value} {C : CH} {p s q : Addr} {X : Pn} (h : PnC mg C p s (some q) X) : p ≠ q ∧ q ≠ s ∧ ∃ t, X.pen = some t ∧ C q = some (stC mg t) := by
  have z := h.co
  cases e : X.pen with
  | none => rw [e] at z; exact z.elim
  | some t =>
    rw [e] at z
    exact ⟨ins_ne h.cp z.1, z.2, t, rfl, z.1⟩
theorem PnC.keep {mg : Str → Option Value} {C C' : CH} {p s : Addr} {o : Option Addr} {X : Pn} (h : PnC mg C p s o X) (h1 : C' p = C p) (h2 : C' s = C s) (h3 : ∀ q, o = some q → C' q = C q) : PnC mg C' p s o X := by
  refine ⟨by rw [h1]; exact h.cp, by rw [h2]; exact h.cs, ?_⟩
  have z := h.co
  cases o with
  | none => cases e : X.pen <;> rw [e] at z <;> exact z
  | some q =>
    cases e : X.pen with
    | none => rw [e] at z; exact z
    | some t => rw [e] at z; exact ⟨by rw [h3 q rfl]; exact z.1, z.2⟩
structure PnOk (X : Pn) : Prop where
  act : TrOk X.act
  pen : ∀ t, X.pen = some t → TrOk t
  ml : X.mv.length ≤ 1000
  wl : X.wt.length ≤ 1000
  wp : ∀ w ∈ X.wt, w.1.length ≤ 1000
/-! what lies under a row: the path -/
mutual
theorem und_path (O : List (Int × Int)) : ∀ (b : Box) (r : Int) (path : List Int), (∀ k ∈ (undB O b r path).1, k ∈ path ∨ k ∈ (b.all.filter Box.isS).map Box.num) ∧ (undB O b r path).1.length ≤ path.length + b.lev
  | .block n h, r, path => ⟨fun k hk => .inl hk, Nat.le_add_right _ _⟩
  | .scroller n h ps, r, path => by
    obtain ⟨h1, h2⟩ := unds_path O ps (r + gI O n) (n :: path)
    rw [undB]
    refine ⟨fun k hk => ?_, ?_⟩
    · rw [Box.all, List.filter_cons, if_pos (show (Box.scroller n h ps).isS = true from rfl), List.map_cons]
      rcases h1 k hk with z | z
      · rcases List.mem_cons.mp z with z | z
        · subst z; exact .inr (by simp [Box.num])
        · exact .inl z
      · exact .inr (List.mem_cons_of_mem _ z)
    · rw [Box.lev]
      rw [List.length_cons] at h2
      omega
theorem unds_path (O : List (Int × Int)) : ∀ (ps : List Box) (r : Int) (path : List Int), (∀ k ∈ (undPs O ps r path).1, k ∈ path ∨ k ∈ ((alls ps).filter Box.isS).map Box.num) ∧ (undPs O ps r path).1.length ≤ path.length + levs ps
  | [], r, path => ⟨fun k hk => .inl hk, Nat.le_add_right _ _⟩
  | p :: rest, r, path => by
    rw [undPs]
    split
    · obtain ⟨h1, h2⟩ := und_path O p r path
      refine ⟨fun k hk => (h1 k hk).imp id fun z => ?_, by rw [levs]; omega⟩
      rw [alls, List.filter_append, List.map_append]
      exact List.mem_append_left _ z
    · obtain ⟨h1, h2⟩ := unds_path O rest (r - p.hgt) path
      refine ⟨fun k hk => (h1 k hk).imp id fun z => ?_, by rw [levs]; omega⟩
      rw [alls, List.filter_append, List.map_append]
      exact List.mem_append_right _ z
end
theorem undX_path {X : Pn} (h : TrOk X.act) (row : Int) : (∀ k ∈ (undX X row).1, k ∈ (scrsB X.act.doc).map Box.num) ∧ (undX X row).1.length ≤ 5 := by
  obtain ⟨h1, h2⟩ := und_path (viewT X.act X.mv) X.act.doc row []
  exact ⟨fun k hk => (h1 k hk).elim (fun z => by cases z) id, by have := h.good.lev; simp at h2; exact Nat.le_trans h2 this⟩
def heldD (hs : List Int) : D → Bool := fun x => match x with | .int n => decide (n ∈ hs) | _ => false
theorem any_empty {l : List D} {f : D → Bool} : (!(l.filter f).isEmpty) = l.any f := by
  induction l with
  | nil => rfl
  | cons x l ih =>
    rw [List.filter_cons, List.any_cons, ← ih]
    cases f x <;> simp
theorem stuck_any {path : List Int} {tg : D} {hs : List Int} (h : tg = .non ∨ ∃ n, tg = .int n) : ((path.map D.int) ++ [tg]).any (heldD hs) = (path ++ thereOf tg).any fun n => decide (n ∈ hs) := by
  rw [List.any_append, List.any_append, List.any_map]
  rcases h with rfl | ⟨n, rfl⟩ <;> simp [heldD, thereOf, Function.comp_def]
theorem scroll_len (rg : Int → Int) : ∀ (path : List Int) (O : List (Int × Int)) (am : Int), (scrollL rg path O am).2.length ≤ path.length
  | [], _, _ => Nat.le_refl _
  | n :: r, O, am => by
    rw [scrollL]
    split
    · exact Nat.le_succ_of_le (scroll_len rg r O am)
    · exact Nat.succ_le_succ (scroll_len rg r _ _)
theorem made_len (X : Pn) (path : List Int) (am : Int) : (madeX X path am).length ≤ path.length := scroll_len _ _ _ _
/-! found scrollers -/
def findD (b : Box) : D → D := fun x => match x with | .int n => encO (findB b.all n) | _ => .non
def isSO : D → Bool := fun x => match x with | .tup (.str k :: _) => decide (k = "scroller") | _ => false
theorem find_scr {b : Box} (nd : (b.all.map Box.num).Nodup) (n : Int) : isSO (encO (findB b.all n)) = decide (n ∈ (scrsB b).map Box.num) := by
  cases e : findB b.all n with
  | none =>
    refine (decide_eq_false fun z => ?_).symm
    obtain ⟨s, hs, rfl⟩ := List.mem_map.mp z
    have := findB_of nd (List.mem_filter.mp hs).1
    rw [e] at this
    cases this
  | some p =>
    obtain ⟨h1, h2⟩ := findB_is e
    cases p with
    | scroller m h ps => exact (decide_eq_true (List.mem_map.mpr ⟨_, List.mem_filter.mpr ⟨h1, rfl⟩, h2⟩)).symm
    | block m h =>
      refine (decide_eq_false fun z => ?_).symm
      obtain ⟨s, hs, e2⟩ := List.mem_map.mp z
      obtain ⟨g1, g2⟩ := List.mem_filter.mp hs
      have := findB_of nd g1
      rw [e2, e] at this
      injection this with this
      subst this
      cases g2
theorem there_enc {b : Box} (nd : (b.all.map Box.num).Nodup) (path : List Int) : (((path.map D.int).map (findD b)).filter isSO).map numD = (path.filter fun n => decide (n ∈ (scrsB b).map Box.num)).map D.int := by
  rw [List.map_map, List.filter_map, List.map_map]
  have e : path.filter (isSO ∘ (findD b ∘ D.int)) = path.filter fun n => decide (n ∈ (scrsB b).map Box.num) := List.filter_congr fun n _ => find_scr nd n
  rw [e]
  apply List.map_congr_left
  intro n hn
  have h := (List.mem_filter.mp hn).2
  rw [← find_scr nd n] at h
  show numD (encO (findB b.all n)) = D.int n
  cases z : findB b.all n with
  | none => rw [z] at h; cases h
  | some p =>
    obtain ⟨_, h2⟩ := findB_is z
    rw [← h2]
    cases p <;> rfl
/-! heights of what is painted -/
def hL (pt : List Int) (l : List Box) : List (Int × Int) := (l.filter fun p => decide (p.num ∈ pt)).map fun p => (p.num, p.hgt)
theorem hL_keys (pt : List Int) (l : List Box) : keysI (hL pt l) = (l.filter fun p => decide (p.num ∈ pt)).map Box.num := by simp [hL, keysI, List.map_map, Function.comp_def]
theorem hL_get {t : Tr} (nd : (t.doc.all.map Box.num).Nodup) (n : Int) : getI (hL t.painted (blksB t.doc)) n = hgtOf t n := by
  have ndk : (keysI (hL t.painted (blksB t.doc))).Nodup := by
    rw [hL_keys]
    exact nd.sublist (List.Sublist.map _ (List.filter_sublist.trans List.filter_sublist))
  have key : n ∈ keysI (hL t.painted (blksB t.doc)) ↔ n ∈ t.painted ∧ ∃ h, findB t.doc.all n = some (.block n h) := by
    rw [hL_keys]
    constructor
    · intro z
      obtain ⟨p, hp, e⟩ := List.mem_map.mp z
      obtain ⟨h1, h2⟩ := List.mem_filter.mp hp
      obtain ⟨h3, h4⟩ := List.mem_filter.mp h1
      have hf := findB_of nd h3
      rw [e] at hf
      cases p with
      | scroller _ _ _ => cases h4
      | block m h =>
        cases e
        exact ⟨of_decide_eq_true h2, h, hf⟩
    · rintro ⟨z1, h, z2⟩
      obtain ⟨h1, h2⟩ := findB_is z2
      exact List.mem_map.mpr ⟨_, List.mem_filter.mpr ⟨List.mem_filter.mpr ⟨h1, rfl⟩, decide_eq_true z1⟩, rfl⟩
  unfold hgtOf
  by_cases hm : n ∈ keysI (hL t.painted (blksB t.doc))
  · obtain ⟨z1, h, z2⟩ := key.mp hm
    rw [if_pos z1, z2]
    obtain ⟨h1, h2⟩ := findB_is z2
    exact getI_mem (p := (n, h)) ndk (List.mem_map.mpr ⟨.block n h, List.mem_filter.mpr ⟨List.mem_filter.mpr ⟨h1, rfl⟩, decide_eq_true z1⟩, rfl⟩)
  · rw [getI_none.mpr hm]
    by_cases z1 : n ∈ t.painted
    · rw [if_pos z1]
      cases z2 : findB t.doc.all n with
      | none => rfl
      | some p =>
        cases p with
        | scroller _ _ _ => rfl
        | block m h =>
          have e := (findB_is z2).2
          cases e
          exact absurd (key.mpr ⟨z1, h, z2⟩) hm
    · rw [if_neg z1]
def keepD (a : Tr) : D → Bool := fun x => match x with | .tup [_, .int n, .int h] => decide (hgtOf a n = some h) | _ => false
theorem keep_enc (a : Tr) (b : Box) : ((encBs (blksB b)).filter (keepD a)).map numD = (keptL a b).map D.int := by
  unfold keptL
  rw [encBs_map, List.filter_map, List.map_map, List.map_map]
  have e : (blksB b).filter (keepD a ∘ encB) = (blksB b).filter fun p => decide (hgtOf a p.num = some p.hgt) := List.filter_congr fun p hp => by
    cases p with
    | block m h => rfl
    | scroller m h ps => have := (List.mem_filter.mp hp).2; cases this
  rw [e]
  apply List.map_congr_left
  intro p _
  cases p <;> rfl
theorem kept_len (a : Tr) (b : Box) : (keptL a b).length ≤ b.all.length := by
  unfold keptL
  rw [List.length_map]
  exact Nat.le_trans (List.length_filter_le _ _) (blks_len b)
end Dv

set_option maxRecDepth 100000
set_option maxHeartbeats 1000000
/-! Walks over a dict that is a cell of its own. -/
namespace Dv
open PySem PySem.Spec L2
theorem cell_ldic {B C F H} (rl : Rel B C F H) {a : Addr} {o : Obj} {vs : List (Key × V)} {ks : List (Int × D)} (h : C a = some (.ldic o vs ks)) : H a = some (.frz o (.dK vs)) ∧ RepK B vs ks := by
  obtain ⟨u, h1, h2⟩ := rl.own _ _ h
  cases h2 with | ldic r => exact ⟨h1, r⟩
section
variable {B0 : Gr} {C : CH} {E : EnvD} {D1 : EndD} {te : TE} {g : TG} {tb : TS} {K : PySem.W.Frag}
theorem ws_lockC {t : TS} {a : Addr} {ks : List (Int × D)} (hc : C a = some (.dic ks))
    (h : ∀ od vs, WS B0 t E (updC C a (.ldic od vs ks)) ⟨fun E1 C1 => C1 a = some (.ldic od vs ks) ∧ D1.nx E1 (updC C1 a (.dic ks)), fun d C1 => C1 a = some (.ldic od vs ks) ∧ D1.rt d (updC C1 a (.dic ks)), fun _ _ => False, fun _ _ => False⟩) : WS B0 (tLock t) E C D1 := fun B F σ H sb rl re Dn ok => by
  obtain ⟨u, h1, h2⟩ := rl.own _ _ hc
  cases h2 with
  | @dic vs _ r =>
  refine ⟨a, .dK vs, h1, trivial, fun od => ?_⟩
  refine h od vs B F σ _ sb (rl.write hc (.ldic r)) re _ ⟨?_, ?_, fun _ _ _ _ _ _ _ _ z => z.elim, fun _ _ _ _ _ _ _ _ z => z.elim⟩
  · rintro σ' E1 B' C' H' s rl' re' ⟨hc', k⟩
    obtain ⟨g1, g2⟩ := cell_ldic rl' hc'
    exact ⟨g1, ok.nx σ' E1 B' _ _ s (rl'.write hc' (.dic g2)) re' k⟩
  · rintro v d B' C' H' s rl' rp ⟨hc', k⟩
    obtain ⟨g1, g2⟩ := cell_ldic rl' hc'
    exact ⟨g1, ok.rt v d B' _ _ s (rl'.write hc' (.dic g2)) rp k⟩
theorem jdi_k {B : Hp} {a : Addr} {od : Obj} {vs : List (Key × V)} {ks : List (Int × D)} : JDI (Itk a od vs) B (fun C => C a = some (.ldic od vs ks)) ((ks.map (·.1)).map D.int) where
  go := fun i B' F H C s rl hc hi => by
    obtain ⟨h, r⟩ := cell_ldic rl hc
    exact ⟨h, by rw [repK_len r]; simpa using hi⟩
  stop := fun B' F H C s rl hc => by
    obtain ⟨h, r⟩ := cell_ldic rl hc
    exact ⟨h, by rw [repK_len r]; simp⟩
  yld := fun i x B' F H H2 C s rl hc hi y => by
    obtain ⟨h, r⟩ := cell_ldic rl hc
    obtain ⟨e, k, z, hk, hx⟩ := y
    subst e hx
    have em := repK_keys r
    have g : (vs.map fun kv => kV kv.1)[i]? = some (kV k) := by rw [List.getElem?_map, hk]; rfl
    rw [em, List.getElem?_map] at g
    cases gi : (ks.map (·.1))[i]? with
    | none => rw [gi] at g; cases g
    | some n =>
      rw [gi] at g
      have ek : kV k = .int n := (Option.some.inj g).symm
      refine ⟨.int n, B', by rw [List.getElem?_map, gi]; rfl, Same.refl _, rl, ?_⟩
      rw [ek]
      exact .int
theorem ws_forKC (ks : List (Int × D)) (od : Obj) (vs : List (Key × V)) (c : Addr) (L : List D → EnvD → CH → Prop) (h : W B0 te E C fun d C1 => d = .ref c ∧ C1 c = some (.ldic od vs ks) ∧ L ((ks.map (·.1)).map D.int) E C1) (hI : ∀ r E1 C1, L r E1 C1 → C1 c = some (.ldic od vs ks)) (hn : ∀ E1 C1, L [] E1 C1 → D1.nx E1 C1)
    (hs : ∀ x xs E1 C1, L (x :: xs) E1 C1 → WG B0 g x E1 C1 fun E2 C2 => WS B0 tb E2 C2 { D1 with nx := L xs, ct := L xs, bk := D1.nx }) : WS B0 (tFor (iKeys te) g tb) E C D1 := fun B F σ H sb rl re Dn ok =>
  h B F σ H sb rl re _ fun v d B1 C1 H1 e1 rl1 rp1 ⟨hd, hc, l0⟩ => by
    subst hd
    cases rp1
    obtain ⟨hvs, rvs⟩ := cell_ldic rl1 hc
    have jd : JDI (Itk c od vs) B1 (fun C => C c = some (.ldic od vs ks)) ((ks.map (·.1)).map D.int) := jdi_k
    generalize (ks.map (·.1)).map D.int = ds at jd l0
    refine ⟨c, od, rfl, .inl ⟨vs, hvs, ?_⟩⟩
    have main : ∀ (i : Nat) (σ' : St) (H' : Hp), (∃ B' C' E', Same B1 B' ∧ Rel B' C' F H' ∧ RelE B' σ' E' ∧ L (ds.drop i) E' C') → i < ds.length →
        ∀ x H2, (Itk c od vs).yld i H' x H2 → g x σ' H2 fun σ2 H2 => tb { Dn with
          nx := fun σ3 H3 => ∃ B' C' E', Same B1 B' ∧ Rel B' C' F H3 ∧ RelE B' σ3 E' ∧ L (ds.drop (i + 1)) E' C'
          ct := fun σ3 H3 => ∃ B' C' E', Same B1 B' ∧ Rel B' C' F H3 ∧ RelE B' σ3 E' ∧ L (ds.drop (i + 1)) E' C'
          bk := Dn.nx } σ2 H2 := by
      rintro i σ' H' ⟨B', C', E', s', rl', re', l⟩ hi x H2 y
      obtain ⟨d, B2, hd, s2, rl2, rp2⟩ := jd.yld i x B' F H' H2 C' s' rl' (hI _ _ _ l) hi y
      have e : ds.drop i = d :: ds.drop (i + 1) := by
        rw [List.drop_eq_getElem_cons hi]
        rw [List.getElem?_eq_getElem hi] at hd
        rw [Option.some.inj hd]
      rw [e] at l
      have sb2 : Same B B2 := (e1.trans s').trans s2
      refine hs d _ E' C' l B2 F σ' H2 x (sb.trans sb2) rl2 (re'.mono s2) rp2 _ fun σ3 E3 B3 C3 H3 s3 rl3 re3 w => ?_
      refine w B3 F σ3 H3 (sb.trans (sb2.trans s3)) rl3 re3 _ ⟨?_, ?_, ?_, ?_⟩
      · exact fun σ4 E4 B4 C4 H4 s4 rl4 re4 l4 => ⟨B4, C4, E4, ((s'.trans s2).trans s3).trans s4, rl4, re4, l4⟩
      · exact fun v d B4 C4 H4 s4 rl4 rp4 k => ok.rt v d B4 C4 H4 ((sb2.trans s3).trans s4) rl4 rp4 k
      · exact fun σ4 E4 B4 C4 H4 s4 rl4 re4 k => ok.nx σ4 E4 B4 C4 H4 ((sb2.trans s3).trans s4) rl4 re4 k
      · exact fun σ4 E4 B4 C4 H4 s4 rl4 re4 l4 => ⟨B4, C4, E4, ((s'.trans s2).trans s3).trans s4, rl4, re4, l4⟩
    refine ⟨fun i m σ' H' => m = ds.length - i ∧ i ≤ ds.length ∧ ∃ B' C' E', Same B1 B' ∧ Rel B' C' F H' ∧ RelE B' σ' E' ∧ L (ds.drop i) E' C',
      ⟨ds.length, by simp, Nat.zero_le _, B1, C1, E, Same.refl _, rl1, re.mono e1, by simpa using l0⟩, ?_⟩
    rintro i m σ' H' ⟨rfl, hi, z⟩
    by_cases hlt : i < ds.length
    · obtain ⟨B', C', E', s', rl', re', l⟩ := id z
      exact .inr ⟨jd.go i B' F H' C' s' rl' (hI _ _ _ l) hlt, _, fun σ2 H2 n => ⟨ds.length - (i + 1), by omega, rfl, hlt, n⟩, main i σ' H' z hlt⟩
    · obtain ⟨B', C', E', s', rl', re', l⟩ := z
      have e : i = ds.length := by omega
      subst e
      rw [List.drop_length] at l
      exact .inl ⟨jd.stop B' F H' C' s' rl' (hI _ _ _ l), ok.nx σ' E' B' C' H' (e1.trans s') rl' re' (hn _ _ l)⟩
theorem w_dgetL {td ty : TE} {P : D → CH → Prop} (h : W B0 td E C fun x C1 => W B0 ty E C1 fun y C2 => ∃ a od vs ks k d, x = .ref a ∧ C2 a = some (.ldic od vs ks) ∧ y = .int k ∧ lookD ks k = some d ∧ P d C2) : W B0 (tDGet td ty) E C P := fun B F σ H sb rl re Q q =>
  h B F σ H sb rl re _ fun v1 d1 B1 C1 H1 e1 rl1 rp1 h1 => h1 B1 F σ H1 (sb.trans e1) rl1 (re.mono e1) _ fun v2 d2 B2 C2 H2 e2 rl2 rp2 ⟨a, od, vs, ks, k, d, hd, hc, hk, hl, p⟩ => by
    subst hk hd
    cases rp1
    cases rp2
    obtain ⟨ha, r⟩ := cell_ldic rl2 hc
    obtain ⟨v, g1, g2⟩ := (repK_look r k).2 d hl
    exact ⟨a, v, rfl, .inl ⟨vs, Sum.inl k, .inr ⟨od, ha⟩, rfl, g1.symm⟩, q v d B2 C2 H2 (e1.trans e2) rl2 g2 p⟩
end
end Dv

set_option maxRecDepth 100000
set_option maxHeartbeats 1000000
/-! The law's windows, its way to what lies under a row, its scrolls. -/
namespace Dv
open PySem L2
mutual
/-- the entries of a box and of all within, in their order -/
def winL (O : List (Int × Int)) : Box → Int → Int → Int → List (Int × D)
  | .block n _, t, f, e => [(n, tri t f e)]
  | .scroller n _ ps, t, f, e => (n, tri t f e) :: winPsL O ps (t - gI O n) f e
def winPsL (O : List (Int × Int)) : List Box → Int → Int → Int → List (Int × D)
  | [], _, _, _ => []
  | p :: r, z, f, e => winL O p z (max z f) (min (z + p.hgt) e) ++ winPsL O r (z + p.hgt) f e
end
def putsD (acc l : List (Int × D)) : List (Int × D) := l.foldl (fun a p => putD a p.1 p.2) acc
theorem putsD_app (acc a b : List (Int × D)) : putsD acc (a ++ b) = putsD (putsD acc a) b := List.foldl_append
mutual
theorem winB_puts (O : List (Int × Int)) : ∀ (b : Box) (t f e : Int) (acc : List (Int × D)), winB O b t f e acc = putsD acc (winL O b t f e)
  | .block n h, t, f, e, acc => by rw [winB, winL]; rfl
  | .scroller n h ps, t, f, e, acc => by rw [winB, winL, winPs_puts O ps]; rfl
theorem winPs_puts (O : List (Int × Int)) : ∀ (ps : List Box) (z f e : Int) (acc : List (Int × D)), winPs O ps z f e acc = putsD acc (winPsL O ps z f e)
  | [], z, f, e, acc => by rw [winPs, winPsL]; rfl
  | p :: r, z, f, e, acc => by rw [winPs, winPsL, putsD_app, winPs_puts O r, winB_puts O p]
end
mutual
theorem winL_keys (O : List (Int × Int)) : ∀ (b : Box) (t f e : Int), (winL O b t f e).map (·.1) = b.all.map Box.num
  | .block n h, t, f, e => by rw [winL, Box.all]; rfl
  | .scroller n h ps, t, f, e => by rw [winL, Box.all, List.map_cons, List.map_cons, winPsL_keys O ps]; rfl
theorem winPsL_keys (O : List (Int × Int)) : ∀ (ps : List Box) (z f e : Int), (winPsL O ps z f e).map (·.1) = (alls ps).map Box.num
  | [], z, f, e => by rw [winPsL, alls]; rfl
  | p :: r, z, f, e => by rw [winPsL, alls, List.map_append, List.map_append, winL_keys O p, winPsL_keys O r]
end
theorem winL_len (O : List (Int × Int)) (b : Box) (t f e : Int) : (winL O b t f e).length = b.all.length := by
  have := congrArg List.length (winL_keys O b t f e)
  simpa using this
theorem putD_fresh {l : List (Int × D)} {k : Int} {d : D} (h : k ∉ l.map (·.1)) : putD l k d = l ++ [(k, d)] := by
  unfold putD
  rw [if_neg]
  intro z
  obtain ⟨p, hp, e⟩ := List.any_eq_true.mp z
  exact h (List.mem_map.mpr ⟨p, hp, of_decide_eq_true e⟩)
theorem putsD_fresh : ∀ (l acc : List (Int × D)), ((acc ++ l).map (·.1)).Nodup → putsD acc l = acc ++ l
  | [], acc, _ => by rw [List.append_nil]; rfl
  | p :: r, acc, h => by
    show putsD (putD acc p.1 p.2) r = _
    have h2 := h
    rw [List.map_append, List.nodup_append] at h2
    have hp : p.1 ∉ acc.map (·.1) := fun z => h2.2.2 p.1 z p.1 (by simp) rfl
    rw [putD_fresh hp, putsD_fresh r _ (by simpa using h)]
    simp
theorem winB_L {O : List (Int × Int)} {b : Box} {t f e : Int} (nd : (b.all.map Box.num).Nodup) : winB O b t f e [] = winL O b t f e := by
  rw [winB_puts, putsD_fresh _ _ (by rw [List.nil_append, winL_keys]; exact nd), List.nil_append]
theorem look_nd {l pre post : List (Int × D)} {k : Int} {d : D} (e : l = pre ++ (k, d) :: post) (nd : (l.map (·.1)).Nodup) : lookD l k = some d := by
  subst e
  unfold lookD
  rw [List.find?_append]
  have : pre.find? (fun p => decide (p.1 = k)) = none := by
    rw [List.find?_eq_none]
    intro p hp z
    rw [List.map_append, List.nodup_append] at nd
    exact nd.2.2 p.1 (List.mem_map.mpr ⟨p, hp, rfl⟩) k (by simp) (of_decide_eq_true z)
  rw [this]
  simp
/-! what lies under a row, by all boxes' windows -/
def lund1 (W : List (Int × D)) (row : Int) (s : List Int × D) (p : Box) : List Int × D := if hasN W row p.num then (if p.isS then (p.num :: s.1, s.2) else (s.1, .int p.num)) else s
def lund (W : List (Int × D)) (row : Int) (l : List Box) (s : List Int × D) : List Int × D := l.foldl (lund1 W row) s
theorem lund_app (W : List (Int × D)) (row : Int) (a b : List Box) (s : List Int × D) : lund W row (a ++ b) s = lund W row b (lund W row a s) := List.foldl_append
mutual
theorem lund_out (O : List (Int × Int)) {W : List (Int × D)} {row : Int} : ∀ {b : Box} {t f e : Int} (s : List Int × D), WinOk O W b t f e → ¬ (f ≤ row ∧ row < e) → lund W row b.all s = s
  | .block n h, t, f, e, s, k, c => by
    rw [WinOk] at k
    show lund1 W row s (.block n h) = s
    unfold lund1
    rw [show hasN W row (Box.block n h).num = false by rw [show (Box.block n h).num = n from rfl, hasN_tri k]; exact decide_eq_false c]
    rfl
  | .scroller n h ps, t, f, e, s, k, c => by
    rw [WinOk] at k
    rw [Box.all]
    show lund W row (alls ps) (lund1 W row s (.scroller n h ps)) = s
    unfold lund1
    rw [show hasN W row (Box.scroller n h ps).num = false by rw [show (Box.scroller n h ps).num = n from rfl, hasN_tri k.1]; exact decide_eq_false c]
    exact lund_outs O s k.2 (.inl c)
theorem lund_outs (O : List (Int × Int)) {W : List (Int × D)} {row : Int} : ∀ {ps : List Box} {z f e : Int} (s : List Int × D), WinPsOk O W ps z f e → ¬ (f ≤ row ∧ row < e) ∨ (row < z ∧ ∀ p ∈ ps, 0 ≤ p.hgt) → lund W row (alls ps) s = s
  | [], _, _, _, _, _, _ => rfl
  | p :: r, z, f, e, s, k, c => by
    rw [WinPsOk] at k
    rw [alls, lund_app, lund_out O s k.1 (by omega)]
    exact lund_outs O s k.2 (c.imp id fun ⟨c1, c2⟩ => ⟨by have := c2 p (by simp); omega, fun q hq => c2 q (by simp [hq])⟩)
end
mutual
theorem lund_in {O : List (Int × Int)} (hO : ∀ k, 0 ≤ gI O k) {W : List (Int × D)} {row : Int} : ∀ {b : Box} {t f e : Int} (path : List Int), WinOk O W b t f e → (∀ p ∈ b.all, 0 ≤ p.hgt) → t ≤ row → f ≤ row → row < e →
    lund W row b.all (path, .non) = undB O b (row - t) path
  | .block n h, t, f, e, path, k, _, _, c1, c2 => by
    rw [WinOk] at k
    show lund1 W row (path, .non) (.block n h) = _
    unfold lund1
    rw [show hasN W row (Box.block n h).num = true by rw [show (Box.block n h).num = n from rfl, hasN_tri k]; exact decide_eq_true ⟨c1, c2⟩, undB]
    rfl
  | .scroller n h ps, t, f, e, path, k, hh, ct, c1, c2 => by
    rw [WinOk] at k
    have hn := hO n
    rw [Box.all] at hh
    rw [Box.all]
    show lund W row (alls ps) (lund1 W row (path, .non) (.scroller n h ps)) = _
    unfold lund1
    rw [show hasN W row (Box.scroller n h ps).num = true by rw [show (Box.scroller n h ps).num = n from rfl, hasN_tri k.1]; exact decide_eq_true ⟨c1, c2⟩]
    have := lund_ins hO (n :: path) k.2 (fun p hp => hh p (List.mem_cons_of_mem _ hp)) (by omega) c1 c2
    rw [undB, show row - t + gI O n = row - (t - gI O n) by omega, ← this]
    rfl
theorem lund_ins {O : List (Int × Int)} (hO : ∀ k, 0 ≤ gI O k) {W : List (Int × D)} {row : Int} : ∀ {ps : List Box} {z f e : Int} (path : List Int), WinPsOk O W ps z f e → (∀ p ∈ alls ps, 0 ≤ p.hgt) → z ≤ row → f ≤ row → row < e →
    lund W row (alls ps) (path, .non) = undPs O ps (row - z) path
  | [], _, _, _, path, _, _, _, _, _ => by rw [undPs]; rfl
  | p :: r, z, f, e, path, k, hh, cz, c1, c2 => by
    rw [WinPsOk] at k
    rw [alls] at hh
    have hp : 0 ≤ p.hgt := hh p (by rw [all_eq]; simp)
    have hr : ∀ q ∈ r, 0 ≤ q.hgt := fun q hq => hh q (List.mem_append_right _ (by rw [alls_flat]; exact List.mem_flatMap.mpr ⟨q, hq, by rw [all_eq]; simp⟩))
    rw [alls, lund_app, undPs]
    by_cases c : row - z < p.hgt
    · rw [if_pos c, lund_in hO path k.1 (fun q hq => hh q (List.mem_append_left _ hq)) cz (by omega) (by omega)]
      exact lund_outs O _ k.2 (.inr ⟨by omega, hr⟩)
    · rw [if_neg c, lund_out O _ k.1 (by omega), lund_ins hO path k.2 (fun q hq => hh q (List.mem_append_right _ hq)) (by omega) c1 c2]
      rw [show row - z - p.hgt = row - (z + p.hgt) by omega]
end
theorem lund_root {O : List (Int × Int)} (hO : ∀ k, 0 ≤ gI O k) {b : Box} {row : Int} (nd : (b.all.map Box.num).Nodup) (hh : ∀ p ∈ b.all, 0 ≤ p.hgt) (h0 : 0 ≤ row) (h1 : row < b.hgt) :
    lund (winsOf O b) row b.all ([], .non) = undB O b row [] := by
  have := lund_in hO (row := row) [] (winB_ok O b 0 0 b.hgt [] nd) hh h0 h0 h1
  rw [show row - 0 = row by omega] at this
  exact this
theorem lund_kind (W : List (Int × D)) (row : Int) : ∀ (l : List Box) (s : List Int × D), (s.2 = .non ∨ ∃ n, s.2 = .int n) → ((lund W row l s).2 = .non ∨ ∃ n, (lund W row l s).2 = .int n)
  | [], s, h => h
  | p :: r, s, h => by
    show (lund W row r (lund1 W row s p)).2 = _ ∨ _
    refine lund_kind W row r _ ?_
    unfold lund1
    split
    · split
      · exact h
      · exact .inr ⟨_, rfl⟩
    · exact h
theorem lund_len (W : List (Int × D)) (row : Int) : ∀ (l : List Box) (s : List Int × D), (lund W row l s).1.length ≤ s.1.length + l.length
  | [], s => Nat.le_refl _
  | p :: r, s => by
    show (lund W row r (lund1 W row s p)).1.length ≤ _
    refine Nat.le_trans (lund_len W row r _) ?_
    unfold lund1
    split
    · split
      · simp; omega
      · simp
    · simp
/-! a scroll by moves of one scroller each -/
theorem moved_one {b : Box} {O : List (Int × Int)} {n am : Int} (hn : n ∈ keysI (rangesB b)) : movedL (rangesB b) [(n, am)] O = putI O n (clampI (gI O n + am) (gI (rangesB b) n)) := by
  rw [movedL, movedL, if_pos hn]
theorem scroll_step {b : Box} {O : List (Int × Int)} {n am : Int} {r : List Int} (g : GoodS b O) (hn : n ∈ keysI (rangesB b)) :
    (scrollL (gI (rangesB b)) (n :: r) O am).2 = (if gI (movedL (rangesB b) [(n, am)] O) n = gI O n then [] else [(n, gI (movedL (rangesB b) [(n, am)] O) n - gI O n)]) ++
      (scrollL (gI (rangesB b)) r (movedL (rangesB b) [(n, am)] O) (am - (gI (movedL (rangesB b) [(n, am)] O) n - gI O n))).2 := by
  have e : gI (movedL (rangesB b) [(n, am)] O) n = clampI (gI O n + am) (gI (rangesB b) n) := by rw [moved_one hn, gI_put, if_pos rfl]
  rw [e, scrollL]
  by_cases z : clampI (gI O n + am) (gI (rangesB b) n) = gI O n
  · rw [if_pos z, if_pos z, moved_one hn, z, put_self g.ndO (by rw [g.keysR]; exact hn), Int.sub_self, Int.sub_zero]
    rfl
  · rw [if_neg z, if_neg z, moved_one hn]
    rfl
end Dv

set_option maxRecDepth 100000
set_option maxHeartbeats 1000000
/-! The law's own state as dicts with text keys. -/
namespace Dv
open PySem PySem.Spec L2
theorem tdicAny {C : CH} {a : Addr} {gs : List (Str × D)} (h : C a = some (.tdic gs)) : C a = some (.tdic gs) := h
section
variable {B0 : Gr} {E : EnvD} {C : CH} {P : D → CH → Prop}
theorem w_tgetS {td : TE} {f : Str} (h : W B0 td E C fun x C1 => ∃ a, x = .ref a ∧ ∃ gs, (C1 a = some (Cell.tdic gs)) ∧ ∃ d, gs.lookup f = some d ∧ P d C1) : W B0 (tDGet td (tC (.str f))) E C P :=
  w_tget fun B F σ H sb rl re Q q => h B F σ H sb rl re Q fun v d B' C' H' e rl' rp ⟨a, hx, gs, hc, d2, hl, p⟩ =>
    q v d B' C' H' e rl' rp fun B2 F2 σ2 H2 sb2 rl2 re2 Q2 q2 => w_str (P := fun y C2 => ∃ a gs f d_1, d = .ref a ∧ y = .str f ∧ C2 a = some (.tdic gs) ∧ gs.lookup f = some d_1 ∧ P d_1 C2) ⟨a, gs, f, d2, hx, rfl, hc, hl, p⟩ B2 F2 σ2 H2 sb2 rl2 re2 Q2 q2
theorem ws_tputS {td tv : TE} {f : Str} {D1 : EndD} (h : W B0 tv E C fun v C1 => W B0 td E C1 fun x C2 => ∃ a, x = .ref a ∧ ∃ gs, (C2 a = some (Cell.tdic gs)) ∧ gs.length < 1000 ∧ D1.nx E (updC C2 a (.tdic (putT gs f v)))) : WS B0 (sDPut td (tC (.str f)) tv) E C D1 :=
  ws_tput fun B F σ H sb rl re Q q => h B F σ H sb rl re Q fun v d B' C' H' e rl' rp h2 => q v d B' C' H' e rl' rp fun B2 F2 σ2 H2 sb2 rl2 re2 Q2 q2 => h2 B2 F2 σ2 H2 sb2 rl2 re2 Q2 fun v3 d3 B3 C3 H3 e3 rl3 rp3 ⟨a, hx, gs, hc, hl, n⟩ =>
    q2 v3 d3 B3 C3 H3 e3 rl3 rp3 fun B4 F4 σ4 H4 sb4 rl4 re4 Q4 q4 => w_str (P := fun y C3 => ∃ a gs f, d3 = .ref a ∧ y = .str f ∧ C3 a = some (.tdic gs) ∧ gs.length < 1000 ∧ D1.nx E (updC C3 a (.tdic (putT gs f d)))) ⟨a, gs, f, hx, rfl, hc, hl, n⟩ B4 F4 σ4 H4 sb4 rl4 re4 Q4 q4
end
theorem pg_lstK (K : PySem.W.Frag) {X : Cx} {pos : Pos} {es : List Expr} {k : Nat} {t : TGs} {n : Nat} (hp : PGs X es t) (h : X.K = K := by rfl) (hc : X.calm = true := by rfl)
    (hn : (assignEach es X.env).length = n := by rfl) (hst : (assignEach es X.env).findIdx? (·.1) = none := by rfl) : PG X (.Tuple es k pos) (gLst K n t) := by
  subst h
  exact pg_lst hc hp hn hst
theorem wg_lst {B0 : Gr} {E : EnvD} {C : CH} {N : EnvD → CH → Prop} {K : PySem.W.Frag} {n : Nat} {gs : TGs} {ds : List D} (hl : ds.length = n) (h : WGs B0 gs ds E C N) : WG B0 (gLst K n gs) (.lst ds) E C N := fun B F σ H v sb rl re rp Q q => by
  cases rp with
  | lst ha r => exact ⟨_, _, rfl, SqL.of (rl.ex _ _ ha), by rw [r.length]; exact hl, h B F σ H _ sb rl re r Q q⟩
/-! the law's state -/
structure Ls where
  doc : Box
  off : List (Int × Int)
  held : List Int
  deeds : List Deed
  told : Nat
  dirty : Bool
  begun : Bool
  made : Int
  pn : Pn
  fresh : Int
def lsD (doc off held deeds told dirty begun made active pending moves waiting fresh : D) : List (Str × D) :=
  [("doc", doc), ("off", off), ("held", held), ("deeds", deeds), ("told", told), ("dirty", dirty), ("begun", begun), ("made", made), ("active", active), ("pending", pending), ("moves", moves), ("waiting", waiting), ("fresh", fresh)]
def trD (number doc base held included deeds painted : D) : List (Str × D) :=
  [("number", number), ("doc", doc), ("base", base), ("held", held), ("included", included), ("deeds", deeds), ("painted", painted)]
def lsF (s : Addr) (o : Option Addr) (L : Ls) : List (Str × D) :=
  lsD (encB L.doc) (.dic (encI L.off)) (.lst (L.held.map D.int)) (.lst (L.deeds.map encDd)) (.int (L.told : Nat)) (.bl L.dirty) (.bl L.begun) (.int L.made) (.ref s) (optR o) (.lst (L.pn.mv.map pairD)) (.lst (L.pn.wt.map encW)) (.int L.fresh)
def trF (t : Tr) : List (Str × D) := trD (.int t.num) (encB t.doc) (.dic (encI t.base)) (.lst (t.held.map D.int)) (.int (t.inc : Nat)) (.lst (t.deeds.map encDd)) (.lst (t.painted.map D.int))
def trC (t : Tr) : Cell := .tdic (trF t)
section
variable {a b c d e f g h i j k l m v : D}
theorem ls_doc : putT (lsD a b c d e f g h i j k l m) "doc" v = lsD v b c d e f g h i j k l m := rfl
theorem ls_off : putT (lsD a b c d e f g h i j k l m) "off" v = lsD a v c d e f g h i j k l m := rfl
theorem ls_held : putT (lsD a b c d e f g h i j k l m) "held" v = lsD a b v d e f g h i j k l m := rfl
theorem ls_deeds : putT (lsD a b c d e f g h i j k l m) "deeds" v = lsD a b c v e f g h i j k l m := rfl
theorem ls_told : putT (lsD a b c d e f g h i j k l m) "told" v = lsD a b c d v f g h i j k l m := rfl
theorem ls_dirty : putT (lsD a b c d e f g h i j k l m) "dirty" v = lsD a b c d e v g h i j k l m := rfl
theorem ls_begun : putT (lsD a b c d e f g h i j k l m) "begun" v = lsD a b c d e f v h i j k l m := rfl
theorem ls_made : putT (lsD a b c d e f g h i j k l m) "made" v = lsD a b c d e f g v i j k l m := rfl
theorem ls_active : putT (lsD a b c d e f g h i j k l m) "active" v = lsD a b c d e f g h v j k l m := rfl
theorem ls_pending : putT (lsD a b c d e f g h i j k l m) "pending" v = lsD a b c d e f g h i v k l m := rfl
theorem ls_moves : putT (lsD a b c d e f g h i j k l m) "moves" v = lsD a b c d e f g h i j v l m := rfl
theorem ls_waiting : putT (lsD a b c d e f g h i j k l m) "waiting" v = lsD a b c d e f g h i j k v m := rfl
theorem ls_fresh : putT (lsD a b c d e f g h i j k l m) "fresh" v = lsD a b c d e f g h i j k l v := rfl
theorem tr_painted : putT (trD a b c d e f g) "painted" v = trD a b c d e f v := rfl
end
theorem putT_new {fs : List (Str × D)} {f : Str} {v : D} (h : f ∉ fs.map (·.1)) : putT fs f v = fs ++ [(f, v)] := by
  unfold putT
  rw [if_neg]
  intro z
  obtain ⟨p, hp, e⟩ := List.any_eq_true.mp z
  exact h (List.mem_map.mpr ⟨p, hp, of_decide_eq_true e⟩)
theorem mergeT_nd : ∀ (l acc : List (Str × D)), ((acc ++ l).map (·.1)).Nodup → mergeT l acc = acc ++ l
  | [], acc, _ => by rw [List.append_nil]; rfl
  | p :: r, acc, h => by
    show mergeT r (putT acc p.1 p.2) = _
    have h2 := h
    rw [List.map_append, List.nodup_append] at h2
    have hp : p.1 ∉ acc.map (·.1) := fun z => h2.2.2 p.1 z p.1 (by simp) rfl
    rw [putT_new hp, mergeT_nd r _ (by simpa using h)]
    simp
section
variable {a b c d e f g h i j k l m : D}
theorem merge_tr : mergeT [("number", a), ("doc", b), ("base", c), ("held", d), ("included", e), ("deeds", f), ("painted", g)] [] = trD a b c d e f g :=
  mergeT_nd _ [] (show (["number", "doc", "base", "held", "included", "deeds", "painted"] : List Str).Nodup by decide +kernel)
theorem merge_ls : mergeT [("doc", a), ("off", b), ("held", c), ("deeds", d), ("told", e), ("dirty", f), ("begun", g), ("made", h), ("active", i), ("pending", j), ("moves", k), ("waiting", l), ("fresh", m)] [] = lsD a b c d e f g h i j k l m :=
  mergeT_nd _ [] (show (["doc", "off", "held", "deeds", "told", "dirty", "begun", "made", "active", "pending", "moves", "waiting", "fresh"] : List Str).Nodup by decide +kernel)
end
def PenL (C : CH) (s : Addr) : Option Addr → Option Tr → Prop
  | none, none => True
  | some q, some t => C q = some (trC t) ∧ q ≠ s
  | _, _ => False
structure LsC (C : CH) (S s : Addr) (o : Option Addr) (L : Ls) : Prop where
  cS : C S = some (.tdic (lsF s o L))
  cs : C s = some (trC L.pn.act)
  co : PenL C s o L.pn.pen
theorem td_ne {C : CH} {S q : Addr} {t : Tr} {s : Addr} {o : Option Addr} {L : Ls} (h1 : C S = some (.tdic (lsF s o L))) (h2 : C q = some (trC t)) : S ≠ q := fun e => by
  subst e
  rw [h1] at h2
  unfold trC trF trD lsF lsD at h2
  injection h2 with h2
  injection h2 with h2
  injection h2 with h2
  injection h2 with h2
  exact absurd h2 (by decide)
theorem LsC.ps {C : CH} {S s : Addr} {o : Option Addr} {L : Ls} (h : LsC C S s o L) : S ≠ s := td_ne h.cS h.cs
theorem LsC.pq {C : CH} {S s q : Addr} {L : Ls} (h : LsC C S s (some q) L) : S ≠ q ∧ q ≠ s ∧ ∃ t, L.pn.pen = some t ∧ C q = some (trC t) := by
  have z := h.co
  cases e : L.pn.pen with
  | none => rw [e] at z; exact z.elim
  | some t =>
    rw [e] at z
    exact ⟨td_ne h.cS z.1, z.2, t, rfl, z.1⟩
theorem LsC.pn0 {C : CH} {S s : Addr} {L : Ls} (h : LsC C S s none L) : L.pn.pen = none := by
  have z := h.co
  cases e : L.pn.pen with
  | none => rfl
  | some t => rw [e] at z; exact z.elim
theorem LsC.keep {C C' : CH} {S s : Addr} {o : Option Addr} {L : Ls} (h : LsC C S s o L) (h1 : C' S = C S) (h2 : C' s = C s) (h3 : ∀ q, o = some q → C' q = C q) : LsC C' S s o L := by
  refine ⟨by rw [h1]; exact h.cS, by rw [h2]; exact h.cs, ?_⟩
  have z := h.co
  cases o with
  | none => cases e : L.pn.pen <;> rw [e] at z <;> exact z
  | some q =>
    cases e : L.pn.pen with
    | none => rw [e] at z; exact z
    | some t => rw [e] at z; exact ⟨by rw [h3 q rfl]; exact z.1, z.2⟩
/-- the state's own cell is put anew -/
theorem LsC.put {C : CH} {S s : Addr} {o : Option Addr} {L L' : Ls} (h : LsC C S s o L) (ha : L'.pn.act = L.pn.act) (hp : L'.pn.pen = L.pn.pen) : LsC (updC C S (.tdic (lsF s o L'))) S s o L' := by
  refine ⟨updC_same, by rw [updC_ne (Ne.symm h.ps), ha]; exact h.cs, ?_⟩
  rw [hp]
  cases o with
  | none => rw [h.pn0]; trivial
  | some q =>
    obtain ⟨h1, h2, t, h3, h4⟩ := h.pq
    rw [h3]
    exact ⟨by rw [updC_ne (Ne.symm h1)]; exact h4, h2⟩
/-! plain: what is painted next, by the law -/
theorem near_eq (t : Tr) (mv : List (Int × Int)) : ((restT t).filter fun n => decide (n ∈ shownB t.doc (viewT t mv))) ++ ((restT t).filter fun n => decide (n ∉ shownB t.doc (viewT t mv))) =
    missT t mv ++ ((restT t).filter fun n => decide (n ∉ shownB t.doc (viewT t mv))) := by
  congr 1
  unfold missT restT shownB
  rw [List.filter_filter, List.filter_filter]
  apply List.filter_congr
  intro n hn
  have e : decide (n ∈ (blocksB t.doc).filter (visB t.doc (viewT t mv))) = visB t.doc (viewT t mv) n := by
    cases hv : visB t.doc (viewT t mv) n with
    | true => exact decide_eq_true (List.mem_filter.mpr ⟨hn, hv⟩)
    | false => exact decide_eq_false fun z => by rw [(List.mem_filter.mp z).2] at hv; cases hv
  rw [e, Bool.and_comm]
theorem near_none {t : Tr} {mv : List (Int × Int)} (h : missT t mv = []) : ((restT t).filter fun n => decide (n ∉ shownB t.doc (viewT t mv))) = restT t := by
  rw [List.filter_eq_self]
  intro n hn
  refine decide_eq_true fun z => ?_
  have : n ∈ missT t mv := List.mem_filter.mpr ⟨z, (List.mem_filter.mp hn).2⟩
  rw [h] at this
  cases this
theorem near_chosen (t : Tr) (mv : List (Int × Int)) : ∃ r, missT t mv ++ ((restT t).filter fun n => decide (n ∉ shownB t.doc (viewT t mv))) = chosenT t mv ++ r ∧ (chosenT t mv = [] → r = []) := by
  unfold chosenT
  by_cases h : missT t mv = []
  · rw [if_pos h, near_none h, h]
    exact ⟨[], by simp, fun _ => rfl⟩
  · rw [if_neg h]
    exact ⟨_, rfl, fun z => absurd z h⟩
theorem rest_len (t : Tr) : (restT t).length ≤ t.doc.all.length := Nat.le_trans (List.length_filter_le _ _) (blocks_len _)
theorem miss_len (t : Tr) (mv : List (Int × Int)) : (missT t mv).length ≤ t.doc.all.length := Nat.le_trans (List.length_filter_le _ _) (Nat.le_trans (List.length_filter_le _ _) (blocks_len _))
end Dv

set_option maxRecDepth 100000
set_option maxHeartbeats 4000000
namespace Dv
open PySem L2
def topS (i : Nat) : Stmt := PySem.Challenge.pw_asyncframes_k42_painters_alone.main.body.getD i (.Pass ⟨0, 0, 0, 0⟩)
structure Top (mg : Str → Option Value) : Prop where
  sum : mg "sum" = none
  max : mg "max" = none
  zip : mg "zip" = none
  min : mg "min" = none
  dict : mg "dict" = none
  tuple : mg "tuple" = none
  list : mg "list" = none
  len : mg "len" = none
  abs : mg "abs" = none
  int : mg "int" = none
  isinstance : mg "isinstance" = none
  str : mg "str" = none
  all : mg "all" = none
  bool : mg "bool" = none
  range : mg "range" = none
  sorted : mg "sorted" = none
  any : mg "any" = none

/-! steps as long as they are plain -/
local macro_rules
  | `(tactic| kwd_rel) => `(tactic| repeat (first
    | (with_reducible show W _ _ _ _ _; first
        | with_reducible refine w_var (by with_unfolding_all exact rfl) ?_
        | with_reducible refine w_int ?_
        | with_reducible refine w_op ?_
        | with_reducible refine w_str ?_
        | with_reducible refine w_cb ?_
        | with_reducible refine w_call ?_
        | with_reducible refine w_tup ?_
        | with_reducible refine w_ifExp ?_
        | with_reducible refine w_un ?_
        | with_reducible refine w_bl ?_
        | with_reducible refine w_non ?_
        | with_reducible refine w_ref ?_
        | with_reducible refine w_ty ?_
        | with_reducible refine w_notV ?_
        | with_reducible refine w_andV ?_
        | with_reducible refine w_orV ?_
        | with_reducible refine w_slice ?_
        | with_reducible refine w_chain ?_
        | with_reducible refine w_isN ?_
        | with_reducible refine w_notN ?_)
    | (with_reducible show WA _ _ _ _ _; first
        | with_reducible refine wa_cons ?_
        | with_reducible refine wa_nil ?_)
    | (with_reducible show WR _ _ _ _ _ _; first
        | with_reducible refine wr_bn ?_
        | with_reducible refine wr_bh ?_
        | (with_reducible show WR _ (rIx _) _ _ _ _; with_reducible refine wr_ix (by with_unfolding_all first | exact SeqD.tup | exact SeqD.lst | exact SeqD.cell updC_same | exact SeqD.cell (by assumption)) (by with_unfolding_all exact rfl) ?_)
        | with_reducible refine wr_intB ?_
        | with_reducible refine wr_ip ?_
        | with_reducible refine wr_int ?_
        | with_reducible refine wr_add ?_
        | (with_reducible show WR _ (rEqU _) _ _ _ _; with_reducible refine wr_eq (by with_unfolding_all exact rfl) ?_)
        | (with_reducible show WR _ (rNeU _) _ _ _ _; with_reducible refine wr_ne (by with_unfolding_all exact rfl) ?_)
        | (with_reducible show WR _ (rI _ _) _ _ _ _; with_reducible refine wr_mod (by first | assumption | decide | omega) ?_)
        | (with_reducible show WR _ (rI _ _) _ _ _ _; with_reducible refine wr_fdiv (by first | assumption | decide | omega) (by first | assumption | decide | omega) ?_)
        | (with_reducible show WR _ (rI _ _) _ _ _ _; with_reducible refine wr_mul (by omega) ?_)
        | with_reducible refine wr_pow (by decide) ?_
        | with_reducible refine wr_isN ?_
        | with_reducible refine wr_notN ?_)
    | (with_reducible show WS _ _ _ _ _; first
        | with_reducible refine ws_seq ?_
        | with_reducible refine ws_set ?_
        | with_reducible refine ws_ret ?_
        | with_reducible refine ws_if ?_
        | with_reducible refine ws_drop ?_
        | with_reducible refine ws_retN ?_
        | with_reducible refine ws_next ?_
        | with_reducible refine ws_break ?_
        | with_reducible refine ws_cont ?_
        | with_reducible refine ws_asg ?_
        | with_reducible refine ws_aug (by with_unfolding_all exact rfl) ?_)
    | (with_reducible show WT _ _ _ _ _; first
        | with_reducible refine wt_test ?_
        | with_reducible refine wt_B ?_
        | with_reducible refine wt_truth ?_
        | with_reducible refine wt_and ?_
        | with_reducible refine wt_or ?_
        | with_reducible refine wt_not ?_
        | with_reducible refine wt_yes ?_)
    | (with_reducible show WC _ _ _ _ _; first
        | (with_reducible show WC _ (rLenU _) _ _ _; with_reducible refine wc_len (by with_unfolding_all first | exact SeqD.tup | exact SeqD.lst | exact SeqD.cell updC_same | exact SeqD.cell (by assumption)) ?_)
        | with_reducible refine wc_int ?_
        | (with_reducible show WC _ (rIsiU _) _ _ _; with_reducible refine wc_isi2 (by with_unfolding_all exact rfl) (by with_reducible first | exact kit_NoneType_list | exact kit_NoneType_tuple | exact kit_NoneType_bool | exact kit_NoneType_str | exact kit_NoneType_int | exact kit_NoneType_dict | exact kit_bool_list | exact kit_bool_tuple | exact kit_bool_bool | exact kit_bool_str | exact kit_bool_int | exact kit_bool_dict | exact kit_int_list | exact kit_int_tuple | exact kit_int_bool | exact kit_int_str | exact kit_int_int | exact kit_int_dict | exact kit_str_list | exact kit_str_tuple | exact kit_str_bool | exact kit_str_str | exact kit_str_int | exact kit_str_dict | exact kit_tuple_list | exact kit_tuple_tuple | exact kit_tuple_bool | exact kit_tuple_str | exact kit_tuple_int | exact kit_tuple_dict | exact kit_list_list | exact kit_list_tuple | exact kit_list_bool | exact kit_list_str | exact kit_list_int | exact kit_list_dict | exact kit_dict_list | exact kit_dict_tuple | exact kit_dict_bool | exact kit_dict_str | exact kit_dict_int | exact kit_dict_dict) (by with_reducible first | exact kit_NoneType_list | exact kit_NoneType_tuple | exact kit_NoneType_bool | exact kit_NoneType_str | exact kit_NoneType_int | exact kit_NoneType_dict | exact kit_bool_list | exact kit_bool_tuple | exact kit_bool_bool | exact kit_bool_str | exact kit_bool_int | exact kit_bool_dict | exact kit_int_list | exact kit_int_tuple | exact kit_int_bool | exact kit_int_str | exact kit_int_int | exact kit_int_dict | exact kit_str_list | exact kit_str_tuple | exact kit_str_bool | exact kit_str_str | exact kit_str_int | exact kit_str_dict | exact kit_tuple_list | exact kit_tuple_tuple | exact kit_tuple_bool | exact kit_tuple_str | exact kit_tuple_int | exact kit_tuple_dict | exact kit_list_list | exact kit_list_tuple | exact kit_list_bool | exact kit_list_str | exact kit_list_int | exact kit_list_dict | exact kit_dict_list | exact kit_dict_tuple | exact kit_dict_bool | exact kit_dict_str | exact kit_dict_int | exact kit_dict_dict) ?_)
        | (with_reducible show WC _ (rIsiU _) _ _ _; with_reducible refine wc_isi (by with_unfolding_all exact rfl) (by with_reducible first | exact kit_NoneType_list | exact kit_NoneType_tuple | exact kit_NoneType_bool | exact kit_NoneType_str | exact kit_NoneType_int | exact kit_NoneType_dict | exact kit_bool_list | exact kit_bool_tuple | exact kit_bool_bool | exact kit_bool_str | exact kit_bool_int | exact kit_bool_dict | exact kit_int_list | exact kit_int_tuple | exact kit_int_bool | exact kit_int_str | exact kit_int_int | exact kit_int_dict | exact kit_str_list | exact kit_str_tuple | exact kit_str_bool | exact kit_str_str | exact kit_str_int | exact kit_str_dict | exact kit_tuple_list | exact kit_tuple_tuple | exact kit_tuple_bool | exact kit_tuple_str | exact kit_tuple_int | exact kit_tuple_dict | exact kit_list_list | exact kit_list_tuple | exact kit_list_bool | exact kit_list_str | exact kit_list_int | exact kit_list_dict | exact kit_dict_list | exact kit_dict_tuple | exact kit_dict_bool | exact kit_dict_str | exact kit_dict_int | exact kit_dict_dict) ?_)
        | with_reducible refine wc_abs ?_
        | with_reducible refine wc_max2 ?_
        | with_reducible refine wc_min2 ?_)
    | (with_reducible show WG _ _ _ _ _ _; first
        | with_reducible refine wg_name ?_
        | with_reducible refine wg_sub ?_)
    | (with_reducible show WU _ _ _ _ _; first
        | with_reducible refine wu_int ?_)
    | (with_reducible show WO _ _ _ _ _; first
        | with_reducible refine wo_none ?_
        | with_reducible refine wo_some ?_)
    | (with_reducible show WSl _ _ _ _ _ _ _; first
        | with_reducible refine wsl_tupE (by with_unfolding_all exact rfl) ?_
        | with_reducible refine wsl_lstE (by with_unfolding_all exact rfl) ?_)
    | (with_reducible show WSet _ _ _ _ _ _ _; first
        | with_reducible refine wset_list (by first | exact updC_same | assumption) (by with_unfolding_all exact rfl) ?_)
    | with_reducible refine ex_bl ?_
    | with_reducible refine tru_bl ?_
    | (with_reducible show ∃ _, _ ∧ _; with_reducible refine Exists.intro _ (And.intro (by with_unfolding_all first | exact rfl | exact SeqF.tup | exact SeqF.lst) ?_))
    | ((first | with_reducible show _ ≤ _ ∧ _ | with_reducible show _ < _ ∧ _); with_reducible refine And.intro (by with_unfolding_all exact Nat.le_of_ble_eq_true rfl) ?_)
    | with_reducible refine nx_show ?_
    | with_reducible refine rt_show ?_
    | with_reducible refine ct_show ?_
    | with_reducible refine bk_show ?_))
/-! a test's two ways; one that cannot be goes away -/
set_option hygiene false in
local macro_rules
  | `(tactic| kwd_less) => `(tactic| (refine ite_two (fun hc => ?_) (fun hc => ?_) <;> first | (exact absurd hc (by with_unfolding_all exact Bool.false_ne_true)) | (exact absurd hc (by with_unfolding_all exact Bool.noConfusion)) | (exact absurd hc (by decide +kernel)) | skip))
section
variable {P : Program} {w : World} {K : PySem.W.Frag} {mg : Str → Option Value} {base : Heap}
/-! parts_of -/
abbrev sparts_of : Stmt := topS 1
theorem scparts_of : FnScope ["box"] ["box"] (defScope sparts_of) := ⟨rfl, rfl, rfl, by decide +kernel, rfl, by decide +kernel, by decide +kernel⟩
def fParts : SpD := fun ds C P => ∃ b : Box, ds = [encB b] ∧ P (.tup (encBs b.parts)) C
theorem ok_parts_of (Df : DefAt K mg "parts_of" sparts_of ["box"]) (T : Top mg) : Has P w K mg base 1 "parts_of" ["box"] (spD fParts) := by
  refine has_of Df scparts_of (fun ds C P ⟨b, h, _⟩ => by rw [h]; rfl) fun f cdv A outer s H E hr => ⟨_, 
    (pss_one (ps_ret (pe_ifExp (pt_cmpR (op_eqK K hr) (pe_ix (ix_seqK K) (pv 0) pe_int (fun _ _ => rfl)) pe_str (nomark _)) (pe_ix (ix_seqK K) (pv 0) pe_int (fun _ _ => rfl)) (pe_tup pa_nil)))), fun B ds C P ⟨b, hd, k⟩ => ?_⟩
  subst hd
  cases b with
  | block n h =>
    kwd_rel
    kwd_less
    kwd_rel
    exact k
  | scroller n h ps =>
    kwd_rel
    kwd_less
    kwd_rel
    exact k
/-! all_boxes -/
abbrev sall_boxes : Stmt := topS 2
theorem scall_boxes : FnScope ["document", "found", "part"] ["document"] (defScope sall_boxes) := ⟨rfl, rfl, rfl, by decide +kernel, rfl, by decide +kernel, by decide +kernel⟩
def fAllB (n : Nat) : SpD := fun ds C P => ∃ b : Box, b.lev ≤ n ∧ b.all.length ≤ 100000 ∧ ds = [encB b] ∧ P (.lst (encBs b.all)) C
theorem ok_all_boxes (Df : DefAt K mg "all_boxes" sall_boxes ["document"]) (T : Top mg) (h_parts_of : Has P w K mg base 1 "parts_of" ["box"] (spD fParts)) : ∀ n, Has P w K mg base (n+2) "all_boxes" ["document"] (spD (fAllB n)) := by
  intro n
  induction n with
  | zero =>
    refine has_of Df scall_boxes (fun ds C P ⟨b, _, _, h, _⟩ => by rw [h]; rfl) fun f cdv A outer s H E hr => ⟨_, pss_never, fun B ds C P ⟨b, hl, _⟩ => ws_never ?_⟩
    cases b <;> simp [Box.lev] at hl
  | succ n h_all_boxes =>
    refine has_of Df scall_boxes (fun ds C P ⟨b, _, _, h, _⟩ => by rw [h]; rfl) fun f cdv A outer s H E hr => ⟨_, 
    (pss_cons (ps_nm 1 scall_boxes.nd (pe_lst (pa_cons (pv 0) pa_nil)))
    (pss_cons (ps_for PassesOwn.never rfl (pi_seqK K (pe_def h_parts_of (hr.mono (by omega)) (pa_cons (pv 0) pa_nil))) (pg_nm 2 scall_boxes.nd) 
      (pss_one (ps_expr (pe_bmK K PySem.F.plainAttrs_list PySem.F.slot_list_extend PySem.F.type_list_extend mt_extend (pv 1) (pa_cons (pe_def h_all_boxes (hr.mono (by omega)) (pa_cons (pv 2) pa_nil)) pa_nil)))))
    (pss_one (ps_ret (pv 1))))), fun B ds C P ⟨b, hl, hz, hd, k⟩ => ?_⟩
    subst hd
    kwd_rel
    refine w_lstC ?_
    kwd_rel
    intro a ha
    kwd_rel
    refine ws_for (fun rest E1 C1 => ∃ pre post x, b.parts = pre ++ post ∧ rest = encBs post ∧ E1 = [some (encB b), some (.ref a), x] ∧ C1 = updC C a (.lst (encBs (b :: alls pre)))) (wi_seq ?_) ?_ ?_
    · kwd_rel
      refine ⟨b, rfl, ?_⟩
      kwd_rel
      exact ⟨[], b.parts, none, rfl, rfl, rfl, rfl⟩
    · rintro E1 C1 ⟨pre, post, x, h1, h2, rfl, rfl⟩
      have e := encBs_nil h2
      subst e
      refine ws_ret (w_varF rfl updC_same ?_)
      rw [delC_updC ha]
      rw [List.append_nil] at h1
      rw [← h1, ← all_eq]
      exact k
    · rintro x xs E1 C1 ⟨pre, post, y, h1, h2, rfl, rfl⟩
      obtain ⟨p, q, rfl, rfl, rfl⟩ := encBs_cons h2
      have hp := all_len_part h1
      kwd_rel
      refine w_bmL ?_
      kwd_rel
      refine ⟨⟨_, .cell updC_same⟩, ?_⟩
      kwd_rel
      refine ⟨p, lev_parts hl (by rw [h1]; simp), by omega, rfl, ?_⟩
      kwd_rel
      refine wm_extend updC_same .lst (by rw [encBs_length, encBs_length]; omega) ?_
      rw [updC_updC]
      refine ⟨pre ++ [p], q, _, by simp [h1], rfl, rfl, ?_⟩
      rw [alls_append, ← encBs_append]
      simp [alls]
end
section
variable {P : Program} {w : World} {K : PySem.W.Frag} {mg : Str → Option Value} {base : Heap}
/-! find -/
abbrev sfind : Stmt := topS 3
theorem scfind : FnScope ["document", "number", "box"] ["document", "number"] (defScope sfind) := ⟨rfl, rfl, rfl, by decide +kernel, rfl, by decide +kernel, by decide +kernel⟩
def fFind (n : Nat) : SpD := fun ds C P => ∃ (b : Box) (i : Int), b.lev ≤ n ∧ b.all.length ≤ 100000 ∧ ds = [encB b, .int i] ∧ P (encO (findB b.all i)) C
theorem ok_find {n k : Nat} (Df : DefAt K mg "find" sfind ["document", "number"]) (T : Top mg) (h_all_boxes : Has P w K mg base k "all_boxes" ["document"] (spD (fAllB n))) : Has P w K mg base (k+1) "find" ["document", "number"] (spD (fFind n)) := by
  refine has_of Df scfind (fun ds C P ⟨b, i, _, _, h, _⟩ => by rw [h]; rfl) fun f cdv A outer s H E hr => ⟨_, 
    (pss_cons (ps_for PassesOwn.never rfl (pi_seqK K (pe_def h_all_boxes (hr.mono (by omega)) (pa_cons (pv 0) pa_nil))) (pg_nm 2 scfind.nd) 
      (pss_one (ps_if (pt_cmpR (op_eqK K hr) (pe_ix (ix_seqK K) (pv 2) pe_int (fun _ _ => rfl)) (pv 1) (nomark _)) 
        (pss_one (ps_ret (pv 2))) pss_nil)))
    (pss_one (ps_ret pe_non))), fun B ds C P ⟨b, i, hl, hz, hd, k⟩ => ?_⟩
  subst hd
  kwd_rel
  refine ws_for (fun rest E1 C1 => ∃ post x, findB b.all i = findB post i ∧ rest = encBs post ∧ E1 = [some (encB b), some (.int i), x] ∧ C1 = C) (wi_seq ?_) ?_ ?_
  · kwd_rel
    refine ⟨b, hl, hz, rfl, ?_⟩
    kwd_rel
    exact ⟨b.all, none, rfl, rfl, rfl, rfl⟩
  · rintro E1 C1 ⟨post, x, h1, h2, rfl, rfl⟩
    have e := encBs_nil h2
    subst e
    kwd_rel
    rw [h1] at k
    exact k
  · rintro x xs E1 C1 ⟨post, y, h1, h2, rfl, rfl⟩
    obtain ⟨p, q, rfl, rfl, rfl⟩ := encBs_cons h2
    kwd_rel
    kwd_less
    · kwd_rel
      have e : p.num = i := of_decide_eq_true hc
      rw [h1, findB, if_pos e] at k
      exact k
    · kwd_rel
      have e : ¬ p.num = i := of_decide_eq_false hc
      rw [findB, if_neg e] at h1
      exact ⟨q, _, h1, rfl, rfl, rfl⟩
end
structure TopK (K : PySem.W.Frag) (mg : Str → Option Value) : Prop where
  k_State : ClsOk K mg "State" ["number", "document", "base", "held", "included", "painted"]
  k_Painter : ClsOk K mg "Painter" ["active", "pending", "moves", "waiting"]
/-- the classes of errors -/
structure TopX (K : PySem.W.Frag) (mg : Str → Option Value) : Prop where
  e_Busy : ExcAt K mg "Busy"
  e_NoneWaiting : ExcAt K mg "NoneWaiting"
  e_NotReady : ExcAt K mg "NotReady"
  g_FrameError : ClsG mg "FrameError"
  g_Busy : ClsG mg "Busy"
  g_NoneWaiting : ClsG mg "NoneWaiting"
  g_NotReady : ClsG mg "NotReady"
  m_BB : PySem.W.exmOne K (.ref (clsAd mg "Busy")) (.ref (clsAd mg "Busy")) = some true
  m_NB : PySem.W.exmOne K (.ref (clsAd mg "NoneWaiting")) (.ref (clsAd mg "Busy")) = some false
  m_NN : PySem.W.exmOne K (.ref (clsAd mg "NoneWaiting")) (.ref (clsAd mg "NoneWaiting")) = some true
  m_RB : PySem.W.exmOne K (.ref (clsAd mg "NotReady")) (.ref (clsAd mg "Busy")) = some false
  m_RN : PySem.W.exmOne K (.ref (clsAd mg "NotReady")) (.ref (clsAd mg "NoneWaiting")) = some false
  m_RR : PySem.W.exmOne K (.ref (clsAd mg "NotReady")) (.ref (clsAd mg "NotReady")) = some true
  c_B : ExcC K (clsAd mg "Busy")
  c_N : ExcC K (clsAd mg "NoneWaiting")
  c_R : ExcC K (clsAd mg "NotReady")
  k_B : PySem.W.kitOne K (.ref (clsAd mg "Busy")) (.ref (clsAd mg "FrameError")) = some true
  k_N : PySem.W.kitOne K (.ref (clsAd mg "NoneWaiting")) (.ref (clsAd mg "FrameError")) = some true
  k_R : PySem.W.kitOne K (.ref (clsAd mg "NotReady")) (.ref (clsAd mg "FrameError")) = some true
section
variable {P : Program} {w : World} {K : PySem.W.Frag} {mg : Str → Option Value} {base : Heap}
/-! ### layout: lengths, ranges, scrollers -/
abbrev slength_of : Stmt := topS 11
theorem sclength_of : FnScope ["scroller", "part"] ["scroller"] (defScope slength_of) := ⟨rfl, rfl, rfl, by decide +kernel, rfl, by decide +kernel, by decide +kernel⟩
theorem ok_length_of (Df : DefAt K mg "length_of" slength_of ["scroller"]) (T : Top mg) : Has P w K mg base 1 "length_of" ["scroller"] (spD fLen) := by
  refine has_of Df sclength_of (fun ds C P ⟨b, _, _, h, _⟩ => by rw [h]; rfl) fun f cdv A outer s H E hr => ⟨_, 
    (pss_one (ps_ret (pe_callB (call_sumK K) (by rfl) T.sum bt_sum (pa_cons (pe_lc (own := [("part", 1)]) rfl sclength_of.nd (pi_seqK K (pe_ix (ix_seqK K) (pv 0) pe_int (fun _ _ => rfl))) (blkOk_by (N := ["scroller", "part"]) (sc := defScope slength_of) (by decide +kernel)) (fun _ _ _ _ _ => pg_nm 1 sclength_of.nd) (fun _ _ _ _ _ => pts_nil) (fun _ _ _ _ _ => (pe_ix (ix_seqK K) (pv 1) pe_int (fun _ _ => rfl)))) pa_nil)))), fun B ds C P ⟨b, hb, hl, hd, k⟩ => ?_⟩
  subst hd
  cases b with
  | block _ _ => cases hb
  | scroller m h ps =>
    kwd_rel
    refine w_lcMap hgtD (by simp) (wi_seq ?_)
    kwd_rel
    refine ⟨by rw [encBs_length]; exact Nat.le_trans hl (by decide), fun x hx => ?_, ?_⟩
    · obtain ⟨z, hz, rfl⟩ := encBs_mem hx
      kwd_rel
      exact ⟨hgtD_b z, rfl⟩
    · rw [hgtD_enc]
      kwd_rel
      refine wc_sum .lst ?_
      exact k
abbrev srange_of : Stmt := topS 12
theorem scrange_of : FnScope ["scroller"] ["scroller"] (defScope srange_of) := ⟨rfl, rfl, rfl, by decide +kernel, rfl, by decide +kernel, by decide +kernel⟩
theorem ok_range_of {k : Nat} (Df : DefAt K mg "range_of" srange_of ["scroller"]) (T : Top mg) (h_length_of : Has P w K mg base k "length_of" ["scroller"] (spD fLen)) : Has P w K mg base (k+1) "range_of" ["scroller"] (spD fRange) := by
  refine has_of Df scrange_of (fun ds C P ⟨b, _, _, h, _⟩ => by rw [h]; rfl) fun f cdv A outer s H E hr => ⟨_, 
    (pss_one (ps_ret (pe_callB (call_maxK K) (by rfl) T.max bt_max (pa_cons pe_int (pa_cons (pe_op op_sub (pe_def h_length_of (hr.mono (by omega)) (pa_cons (pv 0) pa_nil)) (pe_ix (ix_seqK K) (pv 0) pe_int (fun _ _ => rfl))) pa_nil))))), fun B ds C P ⟨b, hb, hl, hd, k⟩ => ?_⟩
  subst hd
  kwd_rel
  refine ⟨b, hb, hl, rfl, ?_⟩
  kwd_rel
  exact k
abbrev sscrollers_of : Stmt := topS 13
theorem scscrollers_of : FnScope ["document", "box"] ["document"] (defScope sscrollers_of) := ⟨rfl, rfl, rfl, by decide +kernel, rfl, by decide +kernel, by decide +kernel⟩
def fScrs (n : Nat) : SpD := fun ds C P => ∃ b : Box, b.lev ≤ n ∧ b.all.length ≤ 100000 ∧ ds = [encB b] ∧ P (.lst (encBs (scrsB b))) C
theorem ok_scrollers_of {n k : Nat} (Df : DefAt K mg "scrollers_of" sscrollers_of ["document"]) (T : Top mg) (h_all_boxes : Has P w K mg base k "all_boxes" ["document"] (spD (fAllB n))) : Has P w K mg base (k+1) "scrollers_of" ["document"] (spD (fScrs n)) := by
  refine has_of Df scscrollers_of (fun ds C P ⟨b, _, _, h, _⟩ => by rw [h]; rfl) fun f cdv A outer s H E hr => ⟨_, 
    (pss_one (ps_ret (pe_lc (own := [("box", 1)]) rfl scscrollers_of.nd (pi_seqK K (pe_def h_all_boxes (hr.mono (by omega)) (pa_cons (pv 0) pa_nil))) (blkOk_by (N := ["document", "box"]) (sc := defScope sscrollers_of) (by decide +kernel)) (fun _ _ _ _ _ => pg_nm 1 scscrollers_of.nd) (fun _ _ _ _ _ => (pts_one (pt_cmpR (op_eqK K hr) (pe_ix (ix_seqK K) (pv 1) pe_int (fun _ _ => rfl)) pe_str (nomark _)))) (fun _ _ _ _ _ => (pv 1))))), fun B ds C P ⟨b, hl, hz, hd, k⟩ => ?_⟩
  subst hd
  kwd_rel
  refine w_lcFilter id isSD (by simp) (wi_seq ?_)
  kwd_rel
  refine ⟨b, hl, hz, rfl, ?_⟩
  kwd_rel
  refine ⟨by rw [encBs_length]; omega, fun x hx => ?_, fun x hx hb => ?_, ?_⟩
  · obtain ⟨z, hz, rfl⟩ := encBs_mem hx
    cases z
    · kwd_rel
      exact ⟨rfl, rfl⟩
    · kwd_rel
      exact ⟨rfl, rfl⟩
  · kwd_rel
    exact ⟨rfl, rfl⟩
  · rw [List.map_id, encBs_filter]
    exact k
end
section
variable {P : Program} {w : World} {K : PySem.W.Frag} {mg : Str → Option Value} {base : Heap}
/-! ### layout: places -/
def fPlaces : SpD := fun ds C P => ∃ b : Box, b.isS = true ∧ b.parts.length ≤ 100000 ∧ ds = [encB b] ∧ P (.lst ((placesL 0 b.parts).map D.int)) C
abbrev splaces : Stmt := topS 10
theorem scplaces : FnScope ["scroller", "found", "place", "part"] ["scroller"] (defScope splaces) := ⟨rfl, rfl, rfl, by decide +kernel, rfl, by decide +kernel, by decide +kernel⟩
theorem ok_places (Df : DefAt K mg "places" splaces ["scroller"]) (T : Top mg) : Has P w K mg base 1 "places" ["scroller"] (spD fPlaces) := by
  refine has_of Df scplaces (fun ds C P ⟨b, _, _, h, _⟩ => by rw [h]; rfl) fun f cdv A outer s H E hr => ⟨_, 
    (pss_cons (ps_nm 1 scplaces.nd (pe_lst pa_nil))
    (pss_cons (ps_nm 2 scplaces.nd pe_int)
    (pss_cons (ps_for PassesOwn.never rfl (pi_seqK K (pe_ix (ix_seqK K) (pv 0) pe_int (fun _ _ => rfl))) (pg_nm 3 scplaces.nd) 
      (pss_cons (ps_expr (pe_bmK K PySem.F.plainAttrs_list PySem.F.slot_list_append PySem.F.type_list_append mt_append (pv 1) (pa_cons (pv 2) pa_nil)))
      (pss_one (ps_au 2 scplaces.nd (pe_ix (ix_seqK K) (pv 3) pe_int (fun _ _ => rfl)) ip_add))))
    (pss_one (ps_ret (pv 1)))))), fun B ds C P ⟨b, hb, hl, hd, k⟩ => ?_⟩
  subst hd
  cases b with
  | block _ _ => cases hb
  | scroller m h ps =>
    replace hl : ps.length ≤ 100000 := hl
    kwd_rel
    refine w_lstC ?_
    kwd_rel
    intro a ha
    kwd_rel
    refine ws_for (fun rest E1 C1 => ∃ pre post x, ps = pre ++ post ∧ rest = encBs post ∧ E1 = [some (encB (.scroller m h ps)), some (.ref a), some (.int (pre.map Box.hgt).sum), x] ∧ C1 = updC C a (.lst ((placesL 0 pre).map D.int))) (wi_seq ?_) ?_ ?_
    · kwd_rel
      exact ⟨[], ps, none, rfl, rfl, rfl, rfl⟩
    · rintro E1 C1 ⟨pre, post, x, h1, h2, rfl, rfl⟩
      have e := encBs_nil h2
      subst e
      refine ws_ret (w_varF rfl updC_same ?_)
      rw [delC_updC ha]
      rw [List.append_nil] at h1
      subst h1
      exact k
    · rintro x xs E1 C1 ⟨pre, post, y, h1, h2, rfl, rfl⟩
      obtain ⟨p, q, rfl, rfl, rfl⟩ := encBs_cons h2
      have hp : pre.length < 1000000 := by
        have := congrArg List.length h1
        simp at this
        omega
      kwd_rel
      refine w_bmL ?_
      kwd_rel
      refine ⟨⟨_, .cell updC_same⟩, ?_⟩
      kwd_rel
      refine wm_append updC_same (by rw [List.length_map, placesL_len]; exact hp) ?_
      kwd_rel
      rw [updC_updC]
      refine ⟨pre ++ [p], q, some (encB p), by simp [h1], rfl, by simp, ?_⟩
      rw [placesL_snoc]
      simp
end
section
variable {P : Program} {w : World} {K : PySem.W.Frag} {mg : Str → Option Value} {base : Heap}
/-! ### scrolling -/
abbrev sbrought : Stmt := topS 21
theorem scbrought : FnScope ["number", "most"] ["number", "most"] (defScope sbrought) := ⟨rfl, rfl, rfl, by decide +kernel, rfl, by decide +kernel, by decide +kernel⟩
def fBrought : SpD := fun ds C P => ∃ i m : Int, ds = [.int i, .int m] ∧ P (.int (clampI i m)) C
theorem ok_brought (Df : DefAt K mg "brought" sbrought ["number", "most"]) (T : Top mg) : Has P w K mg base 1 "brought" ["number", "most"] (spD fBrought) := by
  refine has_of Df scbrought (fun ds C P ⟨_, _, h, _⟩ => by rw [h]; rfl) fun f cdv A outer s H E hr => ⟨_, 
    (pss_one (ps_ret (pe_callB (call_minK K) (by rfl) T.min bt_min (pa_cons (pe_callB (call_maxK K) (by rfl) T.max bt_max (pa_cons (pv 0) (pa_cons pe_int pa_nil))) (pa_cons (pv 1) pa_nil))))), fun B ds C P ⟨i, m, hd, q⟩ => ?_⟩
  subst hd
  kwd_rel
  exact q
def fScrolled (n : Nat) : SpD := fun ds C P => ∃ (b : Box) (O : List (Int × Int)) (path : List Int) (am : Int) (x y : D), b.lev ≤ n ∧ b.all.length ≤ 100000 ∧ (b.all.map Box.num).Nodup ∧ ds = [encB b, x, y, .int am] ∧ DicD C x (encI O) ∧ SeqF y (path.map D.int) ∧
  path.length ≤ 100000 ∧ (∀ k ∈ path, k ∈ keysI O ∧ k ∈ keysI (rangesB b)) ∧ O.length ≤ 100000 ∧
  ∀ a, C a = none → P (.tup [.ref a, .tup ((scrollL (gI (rangesB b)) path O am).2.map pairD)]) (updC C a (.dic (encI (scrollL (gI (rangesB b)) path O am).1)))
theorem putI_len {O : List (Int × Int)} {k v : Int} (h : k ∈ keysI O) : (putI O k v).length = O.length := by
  have e := congrArg List.length (keys_put_mem (v := v) h)
  simpa [keysI] using e
abbrev sscrolled : Stmt := topS 22
theorem scscrolled : FnScope ["document", "offsets", "path", "amount", "found", "moves", "number", "offset"] ["document", "offsets", "path", "amount"] (defScope sscrolled) := ⟨rfl, rfl, rfl, by decide +kernel, rfl, by decide +kernel, by decide +kernel⟩
theorem ok_scrolled {n k : Nat} (Df : DefAt K mg "scrolled" sscrolled ["document", "offsets", "path", "amount"]) (T : Top mg) (h_find : Has P w K mg base k "find" ["document", "number"] (spD (fFind n))) (h_range_of : Has P w K mg base k "range_of" ["scroller"] (spD fRange)) (h_brought : Has P w K mg base k "brought" ["number", "most"] (spD fBrought)) : Has P w K mg base (k+1) "scrolled" ["document", "offsets", "path", "amount"] (spD (fScrolled n)) := by
  refine has_of Df scscrolled (fun ds C P ⟨_, _, _, _, _, _, _, _, _, h, _⟩ => by rw [h]; rfl) fun f cdv A outer s H E hr => ⟨_, 
    (pss_cons (ps_nm 4 scscrolled.nd (pe_callTy call_dictN (by rfl) T.dict bt_dict (pa_cons (pv 1) pa_nil)))
    (pss_cons (ps_nm 5 scscrolled.nd (pe_lst pa_nil))
    (pss_cons (ps_for PassesOwn.never rfl (pi_seqK K (pv 2)) (pg_nm 6 scscrolled.nd) 
      (pss_cons (ps_nm 7 scscrolled.nd (pe_def h_brought (hr.mono (by omega)) (pa_cons (pe_op (op_addK K) (pe_dget (hu_of hr) (pv 4) (pv 6) (fun _ _ => rfl)) (pv 3)) (pa_cons (pe_def h_range_of (hr.mono (by omega)) (pa_cons (pe_def h_find (hr.mono (by omega)) (pa_cons (pv 0) (pa_cons (pv 6) pa_nil))) pa_nil)) pa_nil))))
      (pss_one (ps_if (pt_cmpR (op_neK K hr) (pv 7) (pe_dget (hu_of hr) (pv 4) (pv 6) (fun _ _ => rfl)) (nomark _)) 
        (pss_cons (ps_expr (pe_bmK K PySem.F.plainAttrs_list PySem.F.slot_list_append PySem.F.type_list_append mt_append (pv 5) (pa_cons (pe_tup (pa_cons (pv 6) (pa_cons (pe_op op_sub (pv 7) (pe_dget (hu_of hr) (pv 4) (pv 6) (fun _ _ => rfl))) pa_nil))) pa_nil)))
        (pss_cons (ps_au 3 scscrolled.nd (pe_op op_sub (pv 7) (pe_dget (hu_of hr) (pv 4) (pv 6) (fun _ _ => rfl))) ip_sub)
        (pss_one (ps_dput (hu_of hr) (pv 4) (pv 6) (pv 7) rfl)))) pss_nil))))
    (pss_one (ps_ret (pe_tup (pa_cons (pv 4) (pa_cons (pe_callTy (call_tupK K) (by rfl) T.tuple bt_tuple (pa_cons (pv 5) pa_nil)) pa_nil)))))))), fun B ds C P ⟨b, O, path, am, xo, yp, hl, hz, nd, hd, hx, hy, hpl, hp, hOl, q⟩ => ?_⟩
  subst hd
  refine ws_weak ?_
  kwd_rel
  refine wc_dictC hx ?_
  intro a ha
  kwd_rel
  refine w_lstC ?_
  kwd_rel
  intro c hc
  have ac : a ≠ c := fun e => by rw [← e, updC_same] at hc; cases hc
  have hCc : C c = none := by rw [← hc, updC_ne (Ne.symm ac)]
  kwd_rel
  refine ws_for (fun rest E1 C1 => ∃ (post : List Int) (O1 mv : List (Int × Int)) (am1 : Int) (x6 x7 : Option D), rest = post.map D.int ∧ E1 = [some (encB b), some xo, some yp, some (.int am1), some (.ref a), some (.ref c), x6, x7] ∧
    (scrollL (gI (rangesB b)) path O am).1 = (scrollL (gI (rangesB b)) post O1 am1).1 ∧ (scrollL (gI (rangesB b)) path O am).2 = mv ++ (scrollL (gI (rangesB b)) post O1 am1).2 ∧ keysI O1 = keysI O ∧ (∀ k ∈ post, k ∈ path) ∧ mv.length + post.length ≤ 100000 ∧
    C1 a = some (.dic (encI O1)) ∧ C1 c = some (.lst (mv.map pairD)) ∧ ∀ z, z ≠ a → z ≠ c → C1 z = C z) (wi_seq ?_) ?_ ?_
  · kwd_rel
    exact ⟨_, hy, path, O, [], am, none, none, rfl, rfl, rfl, rfl, rfl, fun k hk => hk, by simpa using hpl, by rw [updC_ne ac]; exact updC_same, updC_same, fun z h1 h2 => by rw [updC_ne h2, updC_ne h1]⟩
  · rintro E1 C1 ⟨post, O1, mv, am1, x6, x7, h1, rfl, h2, h3, h4, h5, h6, h7, h8, h9⟩
    have e : post = [] := by
      cases post with
      | nil => rfl
      | cons _ _ => cases h1
    subst e
    refine ws_freeze (i := 5) rfl h8 ?_
    kwd_rel
    refine wc_tuple .lst ?_
    kwd_rel
    refine ⟨updC C a (.dic (encI O1)), fun z c' e => ?_, ?_⟩
    · by_cases za : z = a
      · subst za
        rw [updC_same] at e
        cases e
        unfold delC
        rw [if_neg ac]
        exact h7
      · rw [updC_ne za] at e
        have zc : z ≠ c := fun y => by subst y; rw [hCc] at e; cases e
        unfold delC
        rw [if_neg zc, h9 z za zc]
        exact e
    · have z := q a ha
      rw [h2, h3] at z
      simpa [scrollL] using z
  rintro x xs E1 C1 ⟨post, O1, mv, am1, x6, x7, h1, rfl, h2, h3, h4, h5, h6, h7, h8, h9⟩
  obtain ⟨i, r, rfl⟩ : ∃ i r, post = i :: r := by
    cases post with
    | nil => cases h1
    | cons i r => exact ⟨i, r, rfl⟩
  injection h1 with e1 e2
  subst e1 e2
  obtain ⟨k1, k2⟩ := hp i (h5 i (by simp))
  have k1' : i ∈ keysI O1 := by rw [h4]; exact k1
  obtain ⟨s, s1, s2, s3, s4, s5⟩ := find_range nd k2
  kwd_rel
  refine w_dget ?_
  kwd_rel
  refine ⟨_, i, _, .cell h7, rfl, look_key k1', ?_⟩
  kwd_rel
  refine ⟨b, i, hl, hz, rfl, ?_⟩
  rw [s4]
  kwd_rel
  refine ⟨s, s2, Nat.le_trans (parts_len s1) hz, rfl, ?_⟩
  rw [← s5]
  kwd_rel
  refine ⟨_, _, rfl, ?_⟩
  kwd_rel
  refine w_dget ?_
  kwd_rel
  refine ⟨_, i, _, .cell h7, rfl, look_key k1', ?_⟩
  kwd_rel
  rw [scrollL] at h2 h3
  kwd_less
  · have hne : ¬ clampI (gI O1 i + am1) (gI (rangesB b) i) = gI O1 i := by simpa using hc
    rw [if_neg hne] at h2 h3
    kwd_rel
    refine w_bmL ?_
    kwd_rel
    refine ⟨⟨_, .cell h8⟩, ?_⟩
    kwd_rel
    refine w_dget ?_
    kwd_rel
    refine ⟨_, i, _, .cell h7, rfl, look_key k1', ?_⟩
    kwd_rel
    refine wm_append h8 (by rw [List.length_map]; simp at h6; omega) ?_
    have h7' : updC C1 c (.lst (mv.map pairD ++ [.tup [.int i, .int (clampI (gI O1 i + am1) (gI (rangesB b) i) - gI O1 i)]])) a = some (.dic (encI O1)) := by rw [updC_ne ac]; exact h7
    kwd_rel
    refine w_dget ?_
    kwd_rel
    refine ⟨_, i, _, .cell h7', rfl, look_key k1', ?_⟩
    kwd_rel
    refine ws_dput ?_
    kwd_rel
    refine ⟨a, _, i, rfl, rfl, h7', ?_, ?_⟩
    · rw [encI_len]
      have e := congrArg List.length h4
      simp [keysI] at e
      omega
    rw [putD_encI]
    refine ⟨r, putI O1 i (clampI (gI O1 i + am1) (gI (rangesB b) i)), mv ++ [(i, clampI (gI O1 i + am1) (gI (rangesB b) i) - gI O1 i)], _, _, _, rfl, rfl, h2, ?_, ?_, fun k hk => h5 k (by simp [hk]), ?_, updC_same, ?_, fun z za zc => ?_⟩
    · rw [h3, List.append_assoc]; rfl
    · rw [keys_put_mem k1', h4]
    · simp at h6 ⊢; omega
    · rw [updC_ne (Ne.symm ac), updC_same, List.map_append]; rfl
    · rw [updC_ne za, updC_ne zc]; exact h9 z za zc
  · have he : clampI (gI O1 i + am1) (gI (rangesB b) i) = gI O1 i := by simpa using hc
    rw [if_pos he] at h2 h3
    kwd_rel
    exact ⟨r, O1, mv, am1, _, _, rfl, rfl, h2, h3, h4, fun k hk => h5 k (by simp [hk]), by simp at h6 ⊢; omega, h7, h8, h9⟩
def fMoved (n : Nat) : SpD := fun ds C P => ∃ (b : Box) (O mv : List (Int × Int)) (x y : D), b.lev ≤ n ∧ b.all.length ≤ 100000 ∧ (b.all.map Box.num).Nodup ∧ ds = [encB b, x, y] ∧ DicD C x (encI O) ∧ SeqF y (mv.map pairD) ∧
  (∀ k ∈ keysI (rangesB b), k ∈ keysI O) ∧ O.length ≤ 100000 ∧ ∀ a, C a = none → P (.ref a) (updC C a (.dic (encI (movedL (rangesB b) mv O))))
abbrev smoved : Stmt := topS 23
theorem scmoved : FnScope ["document", "offsets", "moves", "found", "ranges", "number", "amount", "scroller"] ["document", "offsets", "moves"] (defScope smoved) := ⟨rfl, rfl, rfl, by decide +kernel, rfl, by decide +kernel, by decide +kernel⟩
theorem ok_moved {n k : Nat} (Df : DefAt K mg "moved" smoved ["document", "offsets", "moves"]) (T : Top mg) (h_scrollers_of : Has P w K mg base k "scrollers_of" ["document"] (spD (fScrs n))) (h_range_of : Has P w K mg base k "range_of" ["scroller"] (spD fRange)) (h_brought : Has P w K mg base k "brought" ["number", "most"] (spD fBrought)) : Has P w K mg base (k+1) "moved" ["document", "offsets", "moves"] (spD (fMoved n)) := by
  refine has_of Df scmoved (fun ds C P ⟨_, _, _, _, _, _, _, _, h, _⟩ => by rw [h]; rfl) fun f cdv A outer s H E hr => ⟨_, 
    (pss_cons (ps_nm 3 scmoved.nd (pe_callTy call_dictN (by rfl) T.dict bt_dict (pa_cons (pv 1) pa_nil)))
    (pss_cons (ps_setDc (i := 4) (own := [("scroller", 7)]) rfl scmoved.nd rfl rfl (sw_trueD rfl rfl rfl (by decide +kernel)) (pi_seqK K (pe_def h_scrollers_of (hr.mono (by omega)) (pa_cons (pv 0) pa_nil))) (blkOk_by (N := ["document", "offsets", "moves", "found", "ranges", "number", "amount", "scroller"]) (sc := defScope smoved) (by decide +kernel)) (fun _ _ _ _ _ => pg_nm 7 scmoved.nd) (fun _ _ _ _ _ => pts_nil) (fun _ _ _ _ _ => (pe_ix (ix_seqK K) (pv 7) pe_int (fun _ _ => rfl))) (fun _ _ _ _ _ => (pe_def h_range_of (hr.mono (by omega)) (pa_cons (pv 7) pa_nil))))
    (pss_cons (ps_for PassesOwn.never rfl (pi_seqK K (pv 2)) (pg_tupK K (n := 2) (pgs_cons (pg_nm 5 scmoved.nd) (pgs_cons (pg_nm 6 scmoved.nd) pgs_nil))) 
      (pss_one (ps_if (pt_cmp (pc_din (hu_of hr) (pv 5) (pv 4))) 
        (pss_one (ps_dput (hu_of hr) (pv 3) (pv 5) (pe_def h_brought (hr.mono (by omega)) (pa_cons (pe_op (op_addK K) (pe_dget (hu_of hr) (pv 3) (pv 5) (fun _ _ => rfl)) (pv 6)) (pa_cons (pe_dget (hu_of hr) (pv 4) (pv 5) (fun _ _ => rfl)) pa_nil))) rfl)) pss_nil)))
    (pss_one (ps_ret (pv 3)))))), fun B ds C P ⟨b, O, mv, xo, ym, hl, hz, nd, hd, hx, hy, hk, hOl, q⟩ => ?_⟩
  subst hd
  refine ws_weak ?_
  kwd_rel
  refine wc_dictC hx ?_
  intro a ha
  kwd_rel
  refine w_dcC (fun rest acc C1 => ∃ pre post, scrsB b = pre ++ post ∧ rest = encBs post ∧ acc = encI (pre.map fun s => (s.num, rangeB s)) ∧ C1 = updC C a (.dic (encI O))) (sets_name (by simp)) (wi_seq ?_) ?_ ?_
  · kwd_rel
    refine ⟨b, hl, hz, rfl, ?_⟩
    kwd_rel
    have : (scrsB b).length ≤ b.all.length := List.length_filter_le _ _
    exact ⟨by rw [encBs_length]; omega, [], scrsB b, rfl, rfl, rfl, rfl⟩
  · rintro acc C1 ⟨pre, post, h1, h2, rfl, rfl⟩ c hc
    have e := encBs_nil h2
    subst e
    rw [List.append_nil] at h1
    subst h1
    have ac : a ≠ c := fun e => by rw [← e, updC_same] at hc; cases hc
    have hCc : C c = none := by rw [← hc, updC_ne (Ne.symm ac)]
    have er : ((scrsB b).map fun s => (s.num, rangeB s)) = rangesB b := rfl
    rw [er]
    kwd_rel
    refine ws_for (fun rest E1 C1 => ∃ (post O1 : List (Int × Int)) (x5 x6 : Option D), rest = post.map pairD ∧ E1 = [some (encB b), some xo, some ym, some (.ref a), some (.ref c), x5, x6, none] ∧
      movedL (rangesB b) mv O = movedL (rangesB b) post O1 ∧ keysI O1 = keysI O ∧ C1 a = some (.dic (encI O1)) ∧ C1 c = some (.dic (encI (rangesB b))) ∧ ∀ z, z ≠ a → z ≠ c → C1 z = C z) (wi_seq ?_) ?_ ?_
    · kwd_rel
      exact ⟨_, hy, mv, O, none, none, rfl, rfl, rfl, rfl, by rw [updC_ne ac]; exact updC_same, updC_same, fun z h1 h2 => by rw [updC_ne h2, updC_ne h1]⟩
    · rintro E1 C1 ⟨post, O1, x5, x6, h1, rfl, h2, h3, h4, h5, h6⟩
      have e : post = [] := by
        cases post with
        | nil => rfl
        | cons _ _ => cases h1
      subst e
      kwd_rel
      refine ⟨updC C a (.dic (encI O1)), fun z c' e => ?_, ?_⟩
      · by_cases za : z = a
        · subst za
          rw [updC_same] at e
          cases e
          exact h4
        · rw [updC_ne za] at e
          have zc : z ≠ c := fun y => by subst y; rw [hCc] at e; cases e
          rw [h6 z za zc]
          exact e
      · have z := q a ha
        rw [h2] at z
        exact z
    rintro x xs E1 C1 ⟨post, O1, x5, x6, h1, rfl, h2, h3, h4, h5, h6⟩
    obtain ⟨p, r, rfl⟩ : ∃ p r, post = p :: r := by
      cases post with
      | nil => cases h1
      | cons p r => exact ⟨p, r, rfl⟩
    injection h1 with e1 e2
    subst e1 e2
    obtain ⟨i, v⟩ := p
    rw [movedL] at h2
    unfold pairD
    refine wg_tup rfl (wgs_cons ?_)
    refine wg_name ?_
    refine wgs_cons ?_
    refine wg_name ?_
    refine wgs_nil ?_
    kwd_rel
    refine w_din ?_
    kwd_rel
    refine ⟨_, i, .cell h5, rfl, ?_⟩
    rw [look_some]
    kwd_rel
    kwd_less
    · have k2 : i ∈ keysI (rangesB b) := of_decide_eq_true hc
      have k1 : i ∈ keysI O1 := by rw [h3]; exact hk i k2
      rw [if_pos k2] at h2
      kwd_rel
      refine ws_dput ?_
      kwd_rel
      refine w_dget ?_
      kwd_rel
      refine ⟨_, i, _, .cell h4, rfl, look_key k1, ?_⟩
      kwd_rel
      refine w_dget ?_
      kwd_rel
      refine ⟨_, i, _, .cell h5, rfl, look_key k2, ?_⟩
      kwd_rel
      refine ⟨_, _, rfl, ?_⟩
      kwd_rel
      refine ⟨a, _, i, rfl, rfl, h4, ?_, ?_⟩
      · rw [encI_len]
        have e := congrArg List.length h3
        simp [keysI] at e
        omega
      rw [putD_encI]
      exact ⟨r, _, _, _, rfl, rfl, h2, by rw [keys_put_mem k1, h3], updC_same, by rw [updC_ne (Ne.symm ac)]; exact h5, fun z za zc => by rw [updC_ne za]; exact h6 z za zc⟩
    · have k2 : ¬ i ∈ keysI (rangesB b) := of_decide_eq_false hc
      rw [if_neg k2] at h2
      kwd_rel
      exact ⟨r, O1, _, _, rfl, rfl, h2, h3, h4, h5, h6⟩
  · rintro x xs acc C1 ⟨pre, post, h1, h2, rfl, rfl⟩
    obtain ⟨p, r, rfl, rfl, rfl⟩ := encBs_cons h2
    have hm : p ∈ scrsB b := by rw [h1]; simp
    obtain ⟨m1, m2⟩ := List.mem_filter.mp hm
    kwd_rel
    refine ⟨fun _ => ?_, fun z => by cases z⟩
    kwd_rel
    refine ⟨p, m2, Nat.le_trans (parts_len m1) hz, rfl, ?_⟩
    have hk : p.num ∉ keysI (pre.map fun s => (s.num, rangeB s)) := by
      have n2 := nodup_scrs nd
      rw [h1, List.map_append, List.nodup_append] at n2
      intro z
      simp only [keysI, List.map_map, Function.comp_def] at z
      exact n2.2.2 p.num z p.num (by simp) rfl
    refine ⟨pre ++ [p], r, by simp [h1], rfl, ?_, rfl⟩
    rw [putD_encI, put_new hk]
    simp
end
section
variable {P : Program} {w : World} {K : PySem.W.Frag} {mg : Str → Option Value} {base : Heap}
/-! ### layout: windows -/
def fAddW (n : Nat) : SpD := fun ds C P => ∃ (b : Box) (O : List (Int × Int)) (acc : List (Int × D)) (t f e : Int) (a : Addr), b.isS = true ∧ b.lev ≤ n ∧ b.all.length + acc.length ≤ 100000 ∧ ds = [encB b, .dic (encI O), .ref a] ∧ C a = some (.dic acc) ∧
  lookD acc b.num = some (tri t f e) ∧ (∀ s ∈ b.all, s.isS = true → s.num ∈ keysI O) ∧ P .non (updC C a (.dic (winPs O b.parts (t - gI O b.num) f e acc)))
abbrev sadd_windows : Stmt := topS 14
theorem scadd_windows : FnScope ["scroller", "offsets", "found", "top", "first", "behind", "place", "part", "at"] ["scroller", "offsets", "found"] (defScope sadd_windows) := ⟨rfl, rfl, rfl, by decide +kernel, rfl, by decide +kernel, by decide +kernel⟩
theorem ok_add_windows {k : Nat} (Df : DefAt K mg "add_windows" sadd_windows ["scroller", "offsets", "found"]) (T : Top mg) (h_places : Has P w K mg base 1 "places" ["scroller"] (spD fPlaces)) : ∀ n, Has P w K mg base (n+2) "add_windows" ["scroller", "offsets", "found"] (spD (fAddW n)) := by
  intro n
  induction n with
  | zero =>
    refine has_of Df scadd_windows (fun ds C P ⟨_, _, _, _, _, _, _, _, _, _, h, _⟩ => by rw [h]; rfl) fun f cdv A outer s H E hr => ⟨_, pss_never, fun B ds C P ⟨b, _, _, _, _, _, _, _, hl, _⟩ => ws_never ?_⟩
    cases b <;> simp [Box.lev] at hl
  | succ n h_add_windows =>
    refine has_of Df scadd_windows (fun ds C P ⟨_, _, _, _, _, _, _, _, _, _, h, _⟩ => by rw [h]; rfl) fun f cdv A outer s H E hr => ⟨_, 
    (pss_cons (ps_asg (pe_dget (hu_of hr) (pv 2) (pe_ix (ix_seqK K) (pv 0) pe_int (fun _ _ => rfl)) (fun _ _ => rfl)) (pg_tupK K (n := 3) (pgs_cons (pg_nm 3 scadd_windows.nd) (pgs_cons (pg_nm 4 scadd_windows.nd) (pgs_cons (pg_nm 5 scadd_windows.nd) pgs_nil)))))
    (pss_one (ps_for PassesOwn.never rfl (pi_zipK K T.zip (pa_cons (pe_def h_places (hr.mono (by omega)) (pa_cons (pv 0) pa_nil)) (pa_cons (pe_ix (ix_seqK K) (pv 0) pe_int (fun _ _ => rfl)) pa_nil))) (pg_tupK K (n := 2) (pgs_cons (pg_nm 6 scadd_windows.nd) (pgs_cons (pg_nm 7 scadd_windows.nd) pgs_nil))) 
      (pss_cons (ps_nm 8 scadd_windows.nd (pe_op op_sub (pe_op (op_addK K) (pv 3) (pv 6)) (pe_dget (hu_of hr) (pv 1) (pe_ix (ix_seqK K) (pv 0) pe_int (fun _ _ => rfl)) (fun _ _ => rfl))))
      (pss_cons (ps_dput (hu_of hr) (pv 2) (pe_ix (ix_seqK K) (pv 7) pe_int (fun _ _ => rfl)) (pe_tup (pa_cons (pv 8) (pa_cons (pe_callB (call_maxK K) (by rfl) T.max bt_max (pa_cons (pv 8) (pa_cons (pv 4) pa_nil))) (pa_cons (pe_callB (call_minK K) (by rfl) T.min bt_min (pa_cons (pe_op (op_addK K) (pv 8) (pe_ix (ix_seqK K) (pv 7) pe_int (fun _ _ => rfl))) (pa_cons (pv 5) pa_nil))) pa_nil)))) rfl)
      (pss_one (ps_if (pt_cmpR (op_eqK K hr) (pe_ix (ix_seqK K) (pv 7) pe_int (fun _ _ => rfl)) pe_str (nomark _)) 
        (pss_one (ps_expr (pe_def h_add_windows (hr.mono (by omega)) (pa_cons (pv 7) (pa_cons (pv 1) (pa_cons (pv 2) pa_nil)))))) pss_nil))))))), fun B ds C P ⟨b, O, acc, t, f1, e1, a, hb, hl, hz, hd, ha, hlk, hO, q⟩ => ?_⟩
    subst hd
    cases b with
    | block _ _ => cases hb
    | scroller m h ps =>
      replace hlk : lookD acc m = some (tri t f1 e1) := hlk
      have hm : m ∈ keysI O := hO (.scroller m h ps) (by rw [all_eq]; simp) rfl
      have hps : ps.length ≤ 100000 := Nat.le_trans (parts_len (b := .scroller m h ps) (p := .scroller m h ps) (by rw [all_eq]; simp)) (by omega)
      kwd_rel
      refine w_dget ?_
      kwd_rel
      refine ⟨acc, m, _, .cell ha, rfl, hlk, ?_⟩
      unfold tri
      refine wg_tup rfl (wgs_cons (wg_name (wgs_cons (wg_name (wgs_cons (wg_name (wgs_nil ?_)))))))
      kwd_rel
      refine ws_for (fun rest E1 C1 => ∃ (pre post : List Box) (x6 x7 x8 : Option D), ps = pre ++ post ∧ rest = zipD ((placesL (pre.map Box.hgt).sum post).map D.int) (encBs post) ∧
        E1 = [some (encB (.scroller m h ps)), some (.dic (encI O)), some (.ref a), some (.int t), some (.int f1), some (.int e1), x6, x7, x8] ∧ C1 = updC C a (.dic (winPs O pre (t - gI O m) f1 e1 acc))) (wi_zipM ?_) ?_ ?_
      · kwd_rel
        refine ⟨.scroller m h ps, rfl, hps, rfl, ?_⟩
        kwd_rel
        refine ⟨_, _, rfl, [], ps, none, none, none, rfl, rfl, rfl, ?_⟩
        rw [winPs, updC_self ha]
      · rintro E1 C1 ⟨pre, post, x6, x7, x8, h1, h2, rfl, rfl⟩
        have e := zip_nil h2
        subst e
        rw [List.append_nil] at h1
        subst h1
        kwd_rel
        exact q
      rintro x xs E1 C1 ⟨pre, post, x6, x7, x8, h1, h2, rfl, rfl⟩
      obtain ⟨p, r, rfl, rfl, rfl⟩ := zip_cons h2
      have hlen := winPs_len O pre (t - gI O m) f1 e1 acc
      have hpart := all_len_part (b := .scroller m h ps) (p := p) (pre := pre) (post := r) h1
      have hpre : (alls pre).length + p.all.length ≤ (Box.scroller m h ps).all.length := by
        rw [List.length_cons] at hpart
        omega
      refine wg_tup rfl (wgs_cons (wg_name (wgs_cons (wg_name (wgs_nil ?_)))))
      kwd_rel
      refine w_dget ?_
      kwd_rel
      refine ⟨_, m, _, .dic, rfl, look_key hm, ?_⟩
      kwd_rel
      have eat : t + (pre.map Box.hgt).sum - gI O m = t - gI O m + (pre.map Box.hgt).sum := by omega
      refine ws_dput ?_
      kwd_rel
      refine ⟨a, _, p.num, rfl, rfl, updC_same, by omega, ?_⟩
      rw [updC_updC, eat]
      have fin : ∀ (C2 : CH) (x8 : Option D), C2 = updC C a (.dic (winB O p (t - gI O m + (pre.map Box.hgt).sum) (max (t - gI O m + (pre.map Box.hgt).sum) f1) (min (t - gI O m + (pre.map Box.hgt).sum + p.hgt) e1) (winPs O pre (t - gI O m) f1 e1 acc))) →
          ∃ (pre2 post2 : List Box) (x6 x7 x9 : Option D), ps = pre2 ++ post2 ∧ zipD ((placesL ((pre.map Box.hgt).sum + p.hgt) r).map D.int) (encBs r) = zipD ((placesL (pre2.map Box.hgt).sum post2).map D.int) (encBs post2) ∧
          [some (encB (.scroller m h ps)), some (.dic (encI O)), some (.ref a), some (.int t), some (.int f1), some (.int e1), some (.int (pre.map Box.hgt).sum), some (encB p), x8] = [some (encB (.scroller m h ps)), some (.dic (encI O)), some (.ref a), some (.int t), some (.int f1), some (.int e1), x6, x7, x9] ∧
          C2 = updC C a (.dic (winPs O pre2 (t - gI O m) f1 e1 acc)) := by
        rintro C2 x8 rfl
        refine ⟨pre ++ [p], r, _, _, _, by simp [h1], by simp, rfl, ?_⟩
        rw [winPs_app, winPs, winPs]
      cases p with
      | block m2 h2 =>
        kwd_rel
        kwd_less
        kwd_rel
        exact fin _ _ rfl
      | scroller m2 h3 ps2 =>
        kwd_rel
        kwd_less
        kwd_rel
        have hmem : Box.scroller m2 h3 ps2 ∈ (Box.scroller m h ps).parts := by show _ ∈ ps; rw [h1]; simp
        have hap : 1 ≤ (Box.scroller m2 h3 ps2).all.length := by rw [all_eq]; simp
        refine ⟨.scroller m2 h3 ps2, O, _, _, _, _, a, rfl, lev_parts hl hmem, ?_, rfl, updC_same, by rw [putD_any]; exact if_pos rfl, fun s hs hss => hO s ?_ hss, ?_⟩
        · rw [List.length_cons] at hpart
          refine Nat.le_trans (Nat.add_le_add_left (putD_len _ _ _) _) ?_
          omega
        · rw [all_eq, alls_flat]
          exact List.mem_cons_of_mem _ (List.mem_flatMap.mpr ⟨_, hmem, hs⟩)
        · rw [updC_updC]
          kwd_rel
          exact fin _ _ rfl
abbrev swindows : Stmt := topS 15
theorem scwindows : FnScope ["document", "offsets", "found"] ["document", "offsets"] (defScope swindows) := ⟨rfl, rfl, rfl, by decide +kernel, rfl, by decide +kernel, by decide +kernel⟩
def fWindows (n : Nat) : SpD := fun ds C P => ∃ (b : Box) (O : List (Int × Int)), b.isS = true ∧ b.lev ≤ n ∧ b.all.length ≤ 50000 ∧ ds = [encB b, .dic (encI O)] ∧ (∀ s ∈ b.all, s.isS = true → s.num ∈ keysI O) ∧ ∀ a, C a = none → P (.ref a) (updC C a (.dic (winsOf O b)))
theorem ok_windows {n k : Nat} (Df : DefAt K mg "windows" swindows ["document", "offsets"]) (T : Top mg) (h_add_windows : Has P w K mg base k "add_windows" ["scroller", "offsets", "found"] (spD (fAddW n))) : Has P w K mg base (k+1) "windows" ["document", "offsets"] (spD (fWindows n)) := by
  refine has_of Df scwindows (fun ds C P ⟨_, _, _, _, _, h, _⟩ => by rw [h]; rfl) fun f cdv A outer s H E hr => ⟨_, 
    (pss_cons (ps_nm 2 scwindows.nd (pe_disp (pps_cons (pe_ix (ix_seqK K) (pv 0) pe_int (fun _ _ => rfl)) (pe_tup (pa_cons pe_int (pa_cons pe_int (pa_cons (pe_ix (ix_seqK K) (pv 0) pe_int (fun _ _ => rfl)) pa_nil)))) pps_nil) (by rfl) (by rfl) (fun z => by cases z) (by decide)))
    (pss_cons (ps_expr (pe_def h_add_windows (hr.mono (by omega)) (pa_cons (pv 0) (pa_cons (pv 1) (pa_cons (pv 2) pa_nil)))))
    (pss_one (ps_ret (pv 2))))), fun B ds C P ⟨b, O, hb, hl, hz, hd, hO, q⟩ => ?_⟩
  subst hd
  cases b with
  | block _ _ => cases hb
  | scroller m h ps =>
    kwd_rel
    refine w_dispC (fun a ha => wps_cons ?_)
    kwd_rel
    refine wps_nil ⟨updC_same, by simp, ?_⟩
    rw [updC_updC]
    kwd_rel
    refine ⟨.scroller m h ps, O, mergeD [(m, tri 0 0 h)] [], 0, 0, h, a, rfl, hl, by simp [mergeD, putD]; omega, rfl, updC_same, by simp [mergeD, putD, lookD, Box.num], hO, ?_⟩
    rw [updC_updC]
    kwd_rel
    exact q a ha
end
section
variable {P : Program} {w : World} {K : PySem.W.Frag} {mg : Str → Option Value} {base : Heap}
/-! ### pictures: picture -/
def fPicture (n : Nat) : SpD := fun ds C P => ∃ (b : Box) (O : List (Int × Int)), b.isS = true ∧ b.lev ≤ n ∧ b.all.length ≤ 50000 ∧ ds = [encB b, .dic (encI O)] ∧ AllIn O b ∧ P (.lst (pictD (winsOf O b) b)) C
abbrev spicture : Stmt := topS 17
theorem scpicture : FnScope ["document", "offsets", "found", "blocks", "box", "number"] ["document", "offsets"] (defScope spicture) := ⟨rfl, rfl, rfl, by decide +kernel, rfl, by decide +kernel, by decide +kernel⟩
theorem ok_picture {n k : Nat} (Df : DefAt K mg "picture" spicture ["document", "offsets"]) (T : Top mg) (h_all_boxes : Has P w K mg base k "all_boxes" ["document"] (spD (fAllB n))) (h_windows : Has P w K mg base k "windows" ["document", "offsets"] (spD (fWindows n))) : Has P w K mg base (k+1) "picture" ["document", "offsets"] (spD (fPicture n)) := by
  refine has_of Df scpicture (fun ds C P ⟨_, _, _, _, _, h, _⟩ => by rw [h]; rfl) fun f cdv A outer s H E hr => ⟨_, 
    (pss_cons (ps_nm 2 scpicture.nd (pe_def h_windows (hr.mono (by omega)) (pa_cons (pv 0) (pa_cons (pv 1) pa_nil))))
    (pss_cons (ps_setLc (i := 3) (own := [("box", 4)]) rfl scpicture.nd rfl rfl (sw_true rfl rfl rfl (by decide +kernel)) (pi_seqK K (pe_def h_all_boxes (hr.mono (by omega)) (pa_cons (pv 0) pa_nil))) (blkOk_by (N := ["document", "offsets", "found", "blocks", "box", "number"]) (sc := defScope spicture) (by decide +kernel)) (fun _ _ _ _ _ => pg_nm 4 scpicture.nd) (fun _ _ _ _ _ => (pts_one (pt_cmpR (op_eqK K hr) (pe_ix (ix_seqK K) (pv 4) pe_int (fun _ _ => rfl)) pe_str (nomark _)))) (fun _ _ _ _ _ => (pe_ix (ix_seqK K) (pv 4) pe_int (fun _ _ => rfl))))
    (pss_one (ps_ret (pe_lc (own := [("number", 5)]) rfl scpicture.nd (pi_seqK K (pv 3)) (blkOk_by (N := ["document", "offsets", "found", "blocks", "box", "number"]) (sc := defScope spicture) (by decide +kernel)) (fun _ _ _ _ _ => pg_nm 5 scpicture.nd) (fun _ _ _ _ _ => (pts_one (pt_cmpR op_lt (pe_ix (ix_seqK K) (pe_dget (hu_of hr) (pv 2) (pv 5) (fun _ _ => rfl)) pe_int (fun _ _ => rfl)) (pe_ix (ix_seqK K) (pe_dget (hu_of hr) (pv 2) (pv 5) (fun _ _ => rfl)) pe_int (fun _ _ => rfl)) (nomark _)))) (fun _ _ _ _ _ => (pe_tup (pa_cons (pv 5) (pa_starK K (pe_dget (hu_of hr) (pv 2) (pv 5) (fun _ _ => rfl)) pa_nil))))))))), fun B ds C P ⟨b, O, hb, hl, hz, hd, hO, q⟩ => ?_⟩
  subst hd
  refine ws_weak ?_
  kwd_rel
  refine ⟨b, O, hb, hl, hz, rfl, hO, fun a ha => ?_⟩
  kwd_rel
  refine w_lcFilter numD isBD (by simp) (wi_seq ?_)
  kwd_rel
  refine ⟨b, hl, by omega, rfl, ?_⟩
  kwd_rel
  refine ⟨by rw [encBs_length]; omega, fun x hx => ?_, fun x hx hb => ?_, ?_⟩
  · obtain ⟨z, hz, rfl⟩ := encBs_mem hx
    cases z
    · kwd_rel
      exact ⟨rfl, rfl⟩
    · kwd_rel
      exact ⟨rfl, rfl⟩
  · obtain ⟨z, hz, rfl⟩ := encBs_mem hx
    kwd_rel
    exact ⟨numD_b z, rfl⟩
  rw [blocks_enc]
  have hbl := blocks_len b
  kwd_rel
  refine w_lcFilter (entN (winsOf O b)) (visN (winsOf O b)) (by simp) (wi_seq ?_)
  kwd_rel
  refine ⟨by rw [List.length_map]; omega, fun x hx => ?_, fun x hx hv => ?_, ?_⟩
  · obtain ⟨n, hn, rfl⟩ := List.mem_map.mp hx
    obtain ⟨p, hp, rfl⟩ := blocks_mem hn
    obtain ⟨t, f1, e1, ht⟩ := winsOf_tri O hp
    have hv : visN (winsOf O b) (.int p.num) = decide (f1 < e1) := by simp [visN, ht, tri]
    kwd_rel
    refine w_dget ?_
    kwd_rel
    refine ⟨_, p.num, _, .cell updC_same, rfl, ht, ?_⟩
    unfold tri
    kwd_rel
    refine w_dget ?_
    kwd_rel
    refine ⟨_, p.num, _, .cell updC_same, rfl, ht, ?_⟩
    unfold tri
    kwd_rel
    exact ⟨hv.symm, rfl⟩
  · obtain ⟨n, hn, rfl⟩ := List.mem_map.mp hx
    obtain ⟨p, hp, rfl⟩ := blocks_mem hn
    obtain ⟨t, f1, e1, ht⟩ := winsOf_tri O hp
    have he : entN (winsOf O b) (.int p.num) = .tup [.int p.num, .int t, .int f1, .int e1] := by simp [entN, ht, tri]
    kwd_rel
    refine wa_star ?_
    refine w_dget ?_
    kwd_rel
    refine ⟨_, p.num, _, .cell updC_same, rfl, ht, ?_⟩
    unfold tri
    refine ⟨_, .tup, ?_⟩
    kwd_rel
    exact ⟨he.symm, rfl⟩
  kwd_rel
  exact ⟨C, sub_updC ha, q⟩
end
section
variable {P : Program} {w : World} {K : PySem.W.Frag} {mg : Str → Option Value} {base : Heap}
/-! ### pictures: part_under -/
def fPartUnder : SpD := fun ds C P => ∃ (b : Box) (O : List (Int × Int)) (W : List (Int × D)) (x : D) (row z f e : Int), b.isS = true ∧ ds = [encB b, x, .int row] ∧ DicD C x W ∧ WinPsOk O W b.parts z f e ∧ z ≤ row ∧ f ≤ row ∧ row < e ∧ P (encO ((pickP row z b.parts).map (·.1))) C
abbrev spart_under : Stmt := topS 18
theorem scpart_under : FnScope ["scroller", "found", "row", "part"] ["scroller", "found", "row"] (defScope spart_under) := ⟨rfl, rfl, rfl, by decide +kernel, rfl, by decide +kernel, by decide +kernel⟩
theorem ok_part_under (Df : DefAt K mg "part_under" spart_under ["scroller", "found", "row"]) (T : Top mg) : Has P w K mg base 1 "part_under" ["scroller", "found", "row"] (spD fPartUnder) := by
  refine has_of Df scpart_under (fun ds C P ⟨_, _, _, _, _, _, _, _, _, h, _⟩ => by rw [h]; rfl) fun f cdv A outer s H E hr => ⟨_, 
    (pss_cons (ps_for PassesOwn.never rfl (pi_seqK K (pe_ix (ix_seqK K) (pv 0) pe_int (fun _ _ => rfl))) (pg_nm 3 scpart_under.nd) 
      (pss_one (ps_if (pt_chain op_le op_lt (pe_ix (ix_seqK K) (pe_dget (hu_of hr) (pv 1) (pe_ix (ix_seqK K) (pv 3) pe_int (fun _ _ => rfl)) (fun _ _ => rfl)) pe_int (fun _ _ => rfl)) (pv 2) (pe_ix (ix_seqK K) (pe_dget (hu_of hr) (pv 1) (pe_ix (ix_seqK K) (pv 3) pe_int (fun _ _ => rfl)) (fun _ _ => rfl)) pe_int (fun _ _ => rfl))) 
        (pss_one (ps_ret (pv 3))) pss_nil)))
    (pss_one (ps_ret pe_non))), fun B ds C P ⟨b, O, W, x, row, z0, f1, e1, hb, hd, hx, hw, h0, h1, h2, q⟩ => ?_⟩
  subst hd
  cases b with
  | block _ _ => cases hb
  | scroller m h ps =>
    replace hw : WinPsOk O W ps z0 f1 e1 := hw
    replace q : P (encO ((pickP row z0 ps).map (·.1))) C := q
    kwd_rel
    refine ws_for (fun rest E1 C1 => ∃ (post : List Box) (z : Int) (x3 : Option D), rest = encBs post ∧ E1 = [some (encB (.scroller m h ps)), some x, some (.int row), x3] ∧ C1 = C ∧ WinPsOk O W post z f1 e1 ∧ z ≤ row ∧ pickP row z0 ps = pickP row z post) (wi_seq ?_) ?_ ?_
    · kwd_rel
      exact ⟨ps, z0, none, rfl, rfl, rfl, hw, h0, rfl⟩
    · rintro E1 C1 ⟨post, z, x3, g1, rfl, rfl, g3, g4, g5⟩
      have e := encBs_nil g1
      subst e
      kwd_rel
      rw [g5] at q
      exact q
    rintro y ys E1 C1 ⟨post, z, x3, g1, rfl, rfl, g3, g4, g5⟩
    obtain ⟨p, r, rfl, rfl, rfl⟩ := encBs_cons g1
    rw [WinPsOk] at g3
    have hp := winOk_at g3.1
    rw [pickP] at g5
    kwd_rel
    refine w_dget ?_
    kwd_rel
    refine ⟨W, p.num, _, hx, rfl, hp, ?_⟩
    unfold tri
    kwd_rel
    refine ite_two (fun c1 => ?_) (fun c1 => ?_)
    · kwd_rel
      refine w_dget ?_
      kwd_rel
      refine ⟨W, p.num, _, hx, rfl, hp, ?_⟩
      unfold tri
      kwd_rel
      refine ite_two (fun c2 => ?_) (fun c2 => ?_)
      · have c2 : row < min (z + p.hgt) e1 := of_decide_eq_true c2
        rw [if_pos (by omega)] at g5
        rw [g5] at q
        kwd_rel
        exact q
      · have c2 : ¬ row < min (z + p.hgt) e1 := of_decide_eq_false c2
        rw [if_neg (by omega)] at g5
        kwd_rel
        exact ⟨r, _, _, rfl, rfl, rfl, g3.2, by omega, g5⟩
    · have c1 : ¬ max z f1 ≤ row := of_decide_eq_false c1
      exact absurd (by omega : max z f1 ≤ row) c1
end
section
variable {P : Program} {w : World} {K : PySem.W.Frag} {mg : Str → Option Value} {base : Heap}
/-! ### pictures: under -/
def fUnder (n : Nat) : SpD := fun ds C P => ∃ (b : Box) (O : List (Int × Int)) (row : Int), b.isS = true ∧ b.lev ≤ n ∧ b.all.length ≤ 50000 ∧ (b.all.map Box.num).Nodup ∧ ds = [encB b, .dic (encI O), .int row] ∧ AllIn O b ∧ (∀ k, 0 ≤ gI O k) ∧ 0 ≤ row ∧ row < b.hgt ∧
  P (.tup [.tup ((undB O b row []).1.map D.int), (undB O b row []).2]) C
abbrev sunder : Stmt := topS 19
theorem scunder : FnScope ["document", "offsets", "row", "found", "path", "part"] ["document", "offsets", "row"] (defScope sunder) := ⟨rfl, rfl, rfl, by decide +kernel, rfl, by decide +kernel, by decide +kernel⟩
theorem ok_under {n k : Nat} (hn : n ≤ 1000) (Df : DefAt K mg "under" sunder ["document", "offsets", "row"]) (T : Top mg) (h_find : Has P w K mg base k "find" ["document", "number"] (spD (fFind n))) (h_windows : Has P w K mg base k "windows" ["document", "offsets"] (spD (fWindows n))) (h_part_under : Has P w K mg base k "part_under" ["scroller", "found", "row"] (spD fPartUnder)) : Has P w K mg base (k+1) "under" ["document", "offsets", "row"] (spD (fUnder n)) := by
  refine has_of Df scunder (fun ds C P ⟨_, _, _, _, _, _, _, h, _⟩ => by rw [h]; rfl) fun f cdv A outer s H E hr => ⟨_, 
    (pss_cons (ps_nm 3 scunder.nd (pe_def h_windows (hr.mono (by omega)) (pa_cons (pv 0) (pa_cons (pv 1) pa_nil))))
    (pss_cons (ps_nm 4 scunder.nd (pe_tup (pa_cons (pe_ix (ix_seqK K) (pv 0) pe_int (fun _ _ => rfl)) pa_nil)))
    (pss_cons (ps_nm 5 scunder.nd (pe_def h_part_under (hr.mono (by omega)) (pa_cons (pv 0) (pa_cons (pv 3) (pa_cons (pv 2) pa_nil)))))
    (pss_cons (ps_while PassesOwn.never (PW.pt (pw_and (pt_cmpR op_notN (pv 5) pe_non (nomark _)) (pw_and1 (pt_cmpR (op_eqK K hr) (pe_ix (ix_seqK K) (pv 5) pe_int (fun _ _ => rfl)) pe_str (nomark _))))) 
      (pss_cons (ps_nm 4 scunder.nd (pe_tup (pa_cons (pe_ix (ix_seqK K) (pv 5) pe_int (fun _ _ => rfl)) (pa_starK K (pv 4) pa_nil))))
      (pss_one (ps_nm 5 scunder.nd (pe_def h_part_under (hr.mono (by omega)) (pa_cons (pe_def h_find (hr.mono (by omega)) (pa_cons (pv 0) (pa_cons (pe_ix (ix_seqK K) (pv 5) pe_int (fun _ _ => rfl)) pa_nil))) (pa_cons (pv 3) (pa_cons (pv 2) pa_nil))))))))
    (pss_one (ps_ret (pe_tup (pa_cons (pv 4) (pa_cons (pe_ifExp (pt_cmpR op_isN (pv 5) pe_non (nomark _)) pe_non (pe_ix (ix_seqK K) (pv 5) pe_int (fun _ _ => rfl))) pa_nil))))))))), fun B ds C P ⟨b, O, row, hb, hl, hz, nd, hd, hO, hg, h0, h1, q⟩ => ?_⟩
  subst hd
  cases b with
  | block _ _ => cases hb
  | scroller m h ps =>
    refine ws_weak ?_
    kwd_rel
    refine ⟨.scroller m h ps, O, rfl, hl, hz, rfl, hO, fun a ha => ?_⟩
    have hw := winB_ok O (.scroller m h ps) 0 0 h [] nd
    have ew : winB O (.scroller m h ps) 0 0 h [] = winsOf O (.scroller m h ps) := rfl
    rw [ew] at hw
    generalize winsOf O (.scroller m h ps) = W at hw ⊢
    rw [WinOk] at hw
    have hm := hg m
    replace h1 : row < h := h1
    kwd_rel
    refine ⟨.scroller m h ps, O, W, _, row, 0 - gI O m, 0, h, rfl, rfl, .cell updC_same, hw.2, by omega, h0, h1, ?_⟩
    kwd_rel
    have e0 : undB O (.scroller m h ps) row [] = goOn O row [m] (pickP row (0 - gI O m) ps) := by
      have e := goOn_scroller O row 0 [] m h ps
      rw [goOn] at e
      have e2 : row - 0 = row := by omega
      rw [e2] at e
      exact e
    refine ws_while (fun mm E1 C1 => ∃ (path : List Int) (c : Option (Box × Int)), E1 = [some (encB (.scroller m h ps)), some (.dic (encI O)), some (.int row), some (.ref a), some (.tup (path.map D.int)), some (encO (c.map (·.1)))] ∧ C1 = updC C a (.dic W) ∧
      undB O (.scroller m h ps) row [] = goOn O row path c ∧ path.length + mm ≤ n + 1 ∧ ∀ p z, c = some (p, z) → p ∈ (Box.scroller m h ps).all ∧ p.lev ≤ mm ∧ ∃ f e, WinOk O W p z f e ∧ z ≤ row ∧ f ≤ row ∧ row < e) n ?_ ?_
    · refine ⟨[m], _, rfl, rfl, e0, by simp; omega, fun p z hp => ?_⟩
      obtain ⟨a1, a2, a3, a4, a5⟩ := pick_ok h0 h1 (by omega) hw.2 hp
      have hl2 := lev_le a1
      rw [Box.lev] at hl
      exact ⟨parts_mem (n + 1) (b := .scroller m h ps) (s := .scroller m h ps) (by rw [Box.lev]; omega) (by rw [all_eq]; simp) a1, by omega, _, _, a3, a2, a4, a5⟩
    rintro mm E1 C1 ⟨path, c, rfl, rfl, hu, hlen, hc⟩
    cases c with
    | none =>
      kwd_rel
      kwd_less
      kwd_rel
      kwd_less
      kwd_rel
      kwd_less
      kwd_rel
      refine ⟨C, sub_updC ha, ?_⟩
      rw [hu] at q
      exact q
    | some pz =>
      obtain ⟨p, z⟩ := pz
      obtain ⟨b1, b2, f2, e2, b3, b4, b5, b6⟩ := hc p z rfl
      cases p with
      | block n2 h2 =>
        kwd_rel
        kwd_less
        kwd_rel
        kwd_less
        kwd_rel
        kwd_less
        kwd_rel
        refine ⟨C, sub_updC ha, ?_⟩
        rw [hu] at q
        exact q
      | scroller n2 h2 ps2 =>
        rw [WinOk] at b3
        rw [goOn_scroller] at hu
        have hg2 := hg n2
        have hf := findB_of nd b1
        kwd_rel
        kwd_less
        kwd_rel
        kwd_less
        kwd_rel
        refine wa_star ?_
        kwd_rel
        refine ⟨by simp; omega, ?_⟩
        kwd_rel
        refine ⟨.scroller m h ps, n2, hl, by omega, rfl, ?_⟩
        have hf2 : findB (Box.scroller m h ps).all n2 = some (.scroller n2 h2 ps2) := hf
        rw [hf2]
        kwd_rel
        refine ⟨.scroller n2 h2 ps2, O, W, _, row, z - gI O n2, f2, e2, rfl, rfl, .cell updC_same, b3.2, by omega, b5, b6, ?_⟩
        rw [Box.lev] at b2
        refine ⟨mm - 1, by omega, n2 :: path, _, by simp; rfl, rfl, hu, by simp; omega, fun p z' hp => ?_⟩
        obtain ⟨a1, a2, a3, a4, a5⟩ := pick_ok b5 b6 (by omega) b3.2 hp
        have hl2 := lev_le a1
        exact ⟨parts_mem n hl b1 a1, by omega, _, _, a3, a2, a4, a5⟩
end
/-! steps as long as they are plain -/
set_option hygiene false in
local macro_rules
  | `(tactic| kwd_rel) => `(tactic| repeat (first
    | (with_reducible show W _ _ _ _ _; first
        | with_reducible refine w_var (by with_unfolding_all exact rfl) ?_
        | with_reducible refine w_int ?_
        | with_reducible refine w_op ?_
        | with_reducible refine w_str ?_
        | with_reducible refine w_cb ?_
        | with_reducible refine w_call ?_
        | with_reducible refine w_tup ?_
        | with_reducible refine w_ifExp ?_
        | with_reducible refine w_un ?_
        | with_reducible refine w_bl ?_
        | with_reducible refine w_non ?_
        | with_reducible refine w_ref ?_
        | with_reducible refine w_ty ?_
        | with_reducible refine w_notV ?_
        | with_reducible refine w_andV ?_
        | with_reducible refine w_orV ?_
        | with_reducible refine w_slice ?_
        | with_reducible refine w_chain ?_
        | with_reducible refine w_isN ?_
        | with_reducible refine w_notN ?_
        | with_reducible refine w_fld ?_
        | with_reducible refine w_meth ?_)
    | (with_reducible show WA _ _ _ _ _; first
        | with_reducible refine wa_cons ?_
        | with_reducible refine wa_nil ?_)
    | (with_reducible show WR _ _ _ _ _ _; first
        | with_reducible refine wr_bn ?_
        | with_reducible refine wr_bh ?_
        | (with_reducible show WR _ (rIx _) _ _ _ _; with_reducible refine wr_ix (by with_unfolding_all first | exact SeqD.tup | exact SeqD.lst | exact SeqD.cell updC_same | exact SeqD.cell (by assumption)) (by with_unfolding_all exact rfl) ?_)
        | with_reducible refine wr_intB ?_
        | with_reducible refine wr_ip ?_
        | with_reducible refine wr_int ?_
        | with_reducible refine wr_add ?_
        | (with_reducible show WR _ (rEqU _) _ _ _ _; with_reducible refine wr_eq (by with_unfolding_all exact rfl) ?_)
        | (with_reducible show WR _ (rNeU _) _ _ _ _; with_reducible refine wr_ne (by with_unfolding_all exact rfl) ?_)
        | (with_reducible show WR _ (rI _ _) _ _ _ _; with_reducible refine wr_mod (by first | assumption | decide | omega) ?_)
        | (with_reducible show WR _ (rI _ _) _ _ _ _; with_reducible refine wr_fdiv (by first | assumption | decide | omega) (by first | assumption | decide | omega) ?_)
        | (with_reducible show WR _ (rI _ _) _ _ _ _; with_reducible refine wr_mul (by omega) ?_)
        | with_reducible refine wr_pow (by decide) ?_
        | with_reducible refine wr_isN ?_
        | with_reducible refine wr_notN ?_)
    | (with_reducible show WS _ _ _ _ _; first
        | with_reducible refine ws_seq ?_
        | with_reducible refine ws_set ?_
        | with_reducible refine ws_ret ?_
        | with_reducible refine ws_if ?_
        | with_reducible refine ws_drop ?_
        | with_reducible refine ws_retN ?_
        | with_reducible refine ws_next ?_
        | with_reducible refine ws_break ?_
        | with_reducible refine ws_cont ?_
        | with_reducible refine ws_asg ?_
        | with_reducible refine ws_aug (by with_unfolding_all exact rfl) ?_
        | with_reducible refine ws_fldS ?_
        | with_reducible refine ws_fldAug ?_)
    | (with_reducible show WT _ _ _ _ _; first
        | with_reducible refine wt_test ?_
        | with_reducible refine wt_B ?_
        | with_reducible refine wt_truth ?_
        | with_reducible refine wt_and ?_
        | with_reducible refine wt_or ?_
        | with_reducible refine wt_not ?_
        | with_reducible refine wt_yes ?_)
    | (with_reducible show WC _ _ _ _ _; first
        | (with_reducible show WC _ (rLenU _) _ _ _; with_reducible refine wc_len (by with_unfolding_all first | exact SeqD.tup | exact SeqD.lst | exact SeqD.cell updC_same | exact SeqD.cell (by assumption)) ?_)
        | with_reducible refine wc_int ?_
        | (with_reducible show WC _ (rIsiU _) _ _ _; with_reducible refine wc_isi2 (by with_unfolding_all exact rfl) (by with_reducible first | exact kit_NoneType_list | exact kit_NoneType_tuple | exact kit_NoneType_bool | exact kit_NoneType_str | exact kit_NoneType_int | exact kit_NoneType_dict | exact kit_bool_list | exact kit_bool_tuple | exact kit_bool_bool | exact kit_bool_str | exact kit_bool_int | exact kit_bool_dict | exact kit_int_list | exact kit_int_tuple | exact kit_int_bool | exact kit_int_str | exact kit_int_int | exact kit_int_dict | exact kit_str_list | exact kit_str_tuple | exact kit_str_bool | exact kit_str_str | exact kit_str_int | exact kit_str_dict | exact kit_tuple_list | exact kit_tuple_tuple | exact kit_tuple_bool | exact kit_tuple_str | exact kit_tuple_int | exact kit_tuple_dict | exact kit_list_list | exact kit_list_tuple | exact kit_list_bool | exact kit_list_str | exact kit_list_int | exact kit_list_dict | exact kit_dict_list | exact kit_dict_tuple | exact kit_dict_bool | exact kit_dict_str | exact kit_dict_int | exact kit_dict_dict) (by with_reducible first | exact kit_NoneType_list | exact kit_NoneType_tuple | exact kit_NoneType_bool | exact kit_NoneType_str | exact kit_NoneType_int | exact kit_NoneType_dict | exact kit_bool_list | exact kit_bool_tuple | exact kit_bool_bool | exact kit_bool_str | exact kit_bool_int | exact kit_bool_dict | exact kit_int_list | exact kit_int_tuple | exact kit_int_bool | exact kit_int_str | exact kit_int_int | exact kit_int_dict | exact kit_str_list | exact kit_str_tuple | exact kit_str_bool | exact kit_str_str | exact kit_str_int | exact kit_str_dict | exact kit_tuple_list | exact kit_tuple_tuple | exact kit_tuple_bool | exact kit_tuple_str | exact kit_tuple_int | exact kit_tuple_dict | exact kit_list_list | exact kit_list_tuple | exact kit_list_bool | exact kit_list_str | exact kit_list_int | exact kit_list_dict | exact kit_dict_list | exact kit_dict_tuple | exact kit_dict_bool | exact kit_dict_str | exact kit_dict_int | exact kit_dict_dict) ?_)
        | (with_reducible show WC _ (rIsiU _) _ _ _; with_reducible refine wc_isi (by with_unfolding_all exact rfl) (by with_reducible first | exact kit_NoneType_list | exact kit_NoneType_tuple | exact kit_NoneType_bool | exact kit_NoneType_str | exact kit_NoneType_int | exact kit_NoneType_dict | exact kit_bool_list | exact kit_bool_tuple | exact kit_bool_bool | exact kit_bool_str | exact kit_bool_int | exact kit_bool_dict | exact kit_int_list | exact kit_int_tuple | exact kit_int_bool | exact kit_int_str | exact kit_int_int | exact kit_int_dict | exact kit_str_list | exact kit_str_tuple | exact kit_str_bool | exact kit_str_str | exact kit_str_int | exact kit_str_dict | exact kit_tuple_list | exact kit_tuple_tuple | exact kit_tuple_bool | exact kit_tuple_str | exact kit_tuple_int | exact kit_tuple_dict | exact kit_list_list | exact kit_list_tuple | exact kit_list_bool | exact kit_list_str | exact kit_list_int | exact kit_list_dict | exact kit_dict_list | exact kit_dict_tuple | exact kit_dict_bool | exact kit_dict_str | exact kit_dict_int | exact kit_dict_dict) ?_)
        | with_reducible refine wc_abs ?_
        | with_reducible refine wc_max2 ?_
        | with_reducible refine wc_min2 ?_)
    | (with_reducible show WG _ _ _ _ _ _; first
        | with_reducible refine wg_name ?_
        | with_reducible refine wg_sub ?_)
    | (with_reducible show WU _ _ _ _ _; first
        | with_reducible refine wu_int ?_)
    | (with_reducible show WO _ _ _ _ _; first
        | with_reducible refine wo_none ?_
        | with_reducible refine wo_some ?_)
    | (with_reducible show WSl _ _ _ _ _ _ _; first
        | with_reducible refine wsl_tupE (by with_unfolding_all exact rfl) ?_
        | with_reducible refine wsl_lstE (by with_unfolding_all exact rfl) ?_)
    | (with_reducible show WSet _ _ _ _ _ _ _; first
        | with_reducible refine wset_list (by first | exact updC_same | assumption) (by with_unfolding_all exact rfl) ?_)
    | with_reducible refine ex_bl ?_
    | with_reducible refine tru_bl ?_
    | (with_reducible show ∃ _, ∃ _, (_ = some (Cell.ins _ _)) ∧ _; with_reducible refine Exists.intro _ (Exists.intro _ (And.intro (by first | exact (insAny updC_same) | exact (insAny (by assumption))) ?_)))
    | (with_reducible show ∃ _, (_ = some (Cell.ins _ _)) ∧ _; with_reducible refine Exists.intro _ (And.intro (by first | exact (insAny updC_same) | exact (insAny (by assumption))) ?_))
    | (with_reducible show FldOk _ _ _ ∧ _; with_reducible refine And.intro (by first | exact ClsOk.fld kA (by decide +kernel) | exact ClsOk.fld kB (by decide +kernel) | exact ClsOk.fld kC (by decide +kernel)) ?_)
    | (with_reducible show _ = none ∧ _; with_reducible refine And.intro (by with_unfolding_all exact lookN rfl) ?_)
    | (with_reducible show ∃ _, _ ∧ _; with_reducible refine Exists.intro _ (And.intro (by with_unfolding_all first | exact rfl | exact SeqF.tup | exact SeqF.lst) ?_))
    | ((first | with_reducible show _ ≤ _ ∧ _ | with_reducible show _ < _ ∧ _); with_reducible refine And.intro (by with_unfolding_all exact Nat.le_of_ble_eq_true rfl) ?_)
    | with_reducible refine nx_show ?_
    | with_reducible refine rt_show ?_
    | with_reducible refine ct_show ?_
    | with_reducible refine bk_show ?_))
/-! a test's two ways; one that cannot be goes away -/
set_option hygiene false in
local macro_rules
  | `(tactic| kwd_less) => `(tactic| (refine ite_two (fun hc => ?_) (fun hc => ?_) <;> first | (exact absurd hc (by with_unfolding_all exact Bool.false_ne_true)) | (exact absurd hc (by with_unfolding_all exact Bool.noConfusion)) | (exact absurd hc (by decide +kernel)) | skip))
section
variable {P : Program} {w : World} {K : PySem.W.Frag} {mg : Str → Option Value} {base : Heap}
/-! ### State -/
def fStInit (mg : Str → Option Value) : SpD := fun ds C P => ∃ (r : Addr) (n i : Int) (b : Box) (x h : D), ds = [.ref r, .int n, encB b, x, h, .int i] ∧ C r = some (.ins (clsA mg "State") []) ∧ ∀ C', C' r = some (.ins (clsA mg "State") (stF n b x h i (.lst []))) → (∀ z, z ≠ r → C' z = C z) → P .non C'
abbrev sState_init : Stmt := inClass (topS 25) 0
theorem scState_init : FnScope ["self", "number", "document", "base", "held", "included"] ["self", "number", "document", "base", "held", "included"] (defScope sState_init) := ⟨rfl, rfl, rfl, by decide +kernel, rfl, by decide +kernel, by decide +kernel⟩
theorem ok_State_init {k : Nat} (Df : IniAt K mg "State" "State.__init__" sState_init ["self", "number", "document", "base", "held", "included"]) (T : Top mg) (TK : TopK K mg) : HasI P w K mg base (k+1) "State" ["self", "number", "document", "base", "held", "included"] (spD (fStInit mg)) := by
  refine has_ofI Df scState_init (fun ds C P ⟨_, _, _, _, _, _, h, _⟩ => by rw [h]; rfl) fun f cdv A outer s H E hr => ⟨_, 
    (pss_cons (ps_fldK K (pv 0) (pv 1) rfl)
    (pss_cons (ps_fldK K (pv 0) (pv 2) rfl)
    (pss_cons (ps_fldK K (pv 0) (pv 3) rfl)
    (pss_cons (ps_fldK K (pv 0) (pv 4) rfl)
    (pss_cons (ps_fldK K (pv 0) (pv 5) rfl)
    (pss_one (ps_fldK K (pv 0) (pe_lst pa_nil) rfl))))))), fun B ds C P ⟨r, n, i, b, x, h, hd, hr0, q⟩ => ?_⟩
  subst hd
  have kA := TK.k_State
  kwd_rel
  refine w_lst ?_
  kwd_rel
  refine q _ updC_same fun z hz => ?_
  rw [updC_ne hz, updC_ne hz, updC_ne hz, updC_ne hz, updC_ne hz, updC_ne hz]
def fView (mg : Str → Option Value) : SpD := fun ds C P => ∃ (r : Addr) (t : Tr) (y : D) (mv : List (Int × Int)), ds = [.ref r, y] ∧ C r = some (stC mg t) ∧ y = .lst (mv.map pairD) ∧ TrOk t ∧
  P (.dic (encI (viewT t mv))) C
abbrev sState_view : Stmt := inClass (topS 25) 1
theorem scState_view : FnScope ["self", "moves"] ["self", "moves"] (defScope sState_view) := ⟨rfl, rfl, rfl, by decide +kernel, rfl, by decide +kernel, by decide +kernel⟩
theorem ok_State_view {k : Nat} (Df : MetAt K mg "State" "view" "State.view" sState_view ["self", "moves"]) (T : Top mg) (TK : TopK K mg) (h_moved : Has P w K mg base k "moved" ["document", "offsets", "moves"] (spD (fMoved 8))) : HasM P w K mg base (k+1) "State" "view" ["self", "moves"] (spD (fView mg)) := by
  refine has_ofM Df scState_view (fun ds C P ⟨_, _, _, _, h, _⟩ => by rw [h]; rfl) fun f cdv A outer s H E hr => ⟨_, 
    (pss_one (ps_ret (pe_def h_moved (hr.mono (by omega)) (pa_cons (pe_fldK K (pv 0) rfl) (pa_cons (pe_fldK K (pv 0) rfl) (pa_cons (pe_slice (sl_K K) (pv 1) (po_some (pe_fldK K (pv 0) rfl)) po_none) pa_nil)))))), fun B ds C P ⟨r, t, y, mv, hd, hr0, hy, ok, q⟩ => ?_⟩
  subst hd hy
  have kA := TK.k_State
  unfold stC at hr0
  have g := ok.good
  have gl := g.lev
  have gz := g.len
  have go := g.lenO
  refine ws_ret (w_frzD ?_)
  kwd_rel
  refine ⟨t.doc, t.base, mv.drop t.inc, _, _, by omega, by omega, g.nd, rfl, .dic, ?_, fun k hk => by rw [g.keysR]; exact hk, by omega, fun a ha => ?_⟩
  · rw [cutD_drop, ← List.map_drop]
    exact .lst
  refine ⟨a, _, rfl, updC_same, ?_⟩
  rw [delC_updC ha]
  exact q
def fBlocks (mg : Str → Option Value) : SpD := fun ds C P => ∃ (r : Addr) (t : Tr), ds = [.ref r] ∧ C r = some (stC mg t) ∧ TrOk t ∧ P (.lst (encBs (blksB t.doc))) C
theorem isB_enc (b : Box) : isBD (encB b) = !b.isS := by cases b <;> rfl
theorem encBs_filterB (l : List Box) : (encBs l).filter isBD = encBs (l.filter fun p => !p.isS) := by
  rw [encBs_map, encBs_map, List.filter_map]
  congr 1
  exact List.filter_congr fun p _ => isB_enc p
abbrev sState_blocks : Stmt := inClass (topS 25) 2
theorem scState_blocks : FnScope ["self", "box"] ["self"] (defScope sState_blocks) := ⟨rfl, rfl, rfl, by decide +kernel, rfl, by decide +kernel, by decide +kernel⟩
theorem ok_State_blocks {k : Nat} (Df : MetAt K mg "State" "blocks" "State.blocks" sState_blocks ["self"]) (T : Top mg) (TK : TopK K mg) (h_all_boxes : Has P w K mg base k "all_boxes" ["document"] (spD (fAllB 8))) : HasM P w K mg base (k+1) "State" "blocks" ["self"] (spD (fBlocks mg)) := by
  refine has_ofM Df scState_blocks (fun ds C P ⟨_, _, h, _⟩ => by rw [h]; rfl) fun f cdv A outer s H E hr => ⟨_, 
    (pss_one (ps_ret (pe_lc (own := [("box", 1)]) rfl scState_blocks.nd (pi_seqK K (pe_def h_all_boxes (hr.mono (by omega)) (pa_cons (pe_fldK K (pv 0) rfl) pa_nil))) (blkOk_by (N := ["self", "box"]) (sc := defScope sState_blocks) (by decide +kernel)) (fun _ _ _ _ _ => pg_nm 1 scState_blocks.nd) (fun _ _ _ _ _ => (pts_one (pt_cmpR (op_eqK K hr) (pe_ix (ix_seqK K) (pv 1) pe_int (fun _ _ => rfl)) pe_str (nomark _)))) (fun _ _ _ _ _ => (pv 1))))), fun B ds C P ⟨r, t, hd, hr0, ok, q⟩ => ?_⟩
  subst hd
  have kA := TK.k_State
  unfold stC at hr0
  have g := ok.good
  have gl := g.lev
  have gz := g.len
  kwd_rel
  refine w_lcFilter id isBD (by simp) (wi_seq ?_)
  kwd_rel
  refine ⟨t.doc, by omega, by omega, rfl, ?_⟩
  kwd_rel
  refine ⟨by rw [encBs_length]; omega, fun x hx => ?_, fun x hx hb => ?_, ?_⟩
  · obtain ⟨z, hz, rfl⟩ := encBs_mem hx
    cases z
    · kwd_rel
      exact ⟨rfl, rfl⟩
    · kwd_rel
      exact ⟨rfl, rfl⟩
  · kwd_rel
    exact ⟨rfl, rfl⟩
  · rw [List.map_id, encBs_filterB]
    kwd_rel
    exact q
def fUnpainted (mg : Str → Option Value) : SpD := fun ds C P => ∃ (r : Addr) (t : Tr), ds = [.ref r] ∧ C r = some (stC mg t) ∧ TrOk t ∧ P (.lst ((restT t).map D.int)) C
def notInD (pt : List Int) : D → Bool := fun x => match x with | .tup (_ :: .int n :: _) => !decide (n ∈ pt) | _ => false
theorem rest_enc (t : Tr) : ((encBs (blksB t.doc)).filter (notInD t.painted)).map numD = (restT t).map D.int := by
  unfold restT
  rw [encBs_map, List.filter_map, List.map_map, ← blksB_num, List.filter_map, List.map_map]
  have e : (blksB t.doc).filter (notInD t.painted ∘ encB) = (blksB t.doc).filter ((fun n => decide (n ∉ t.painted)) ∘ Box.num) := List.filter_congr fun p _ => by cases p <;> simp [notInD, encB, Box.num] <;> rfl
  rw [e]
  apply List.map_congr_left
  intro p _
  cases p <;> rfl
abbrev sState_unpainted : Stmt := inClass (topS 25) 3
theorem scState_unpainted : FnScope ["self", "box"] ["self"] (defScope sState_unpainted) := ⟨rfl, rfl, rfl, by decide +kernel, rfl, by decide +kernel, by decide +kernel⟩
theorem ok_State_unpainted {k : Nat} (Df : MetAt K mg "State" "unpainted" "State.unpainted" sState_unpainted ["self"]) (T : Top mg) (TK : TopK K mg) (h_State_blocks : HasM P w K mg base k "State" "blocks" ["self"] (spD (fBlocks mg))) : HasM P w K mg base (k+1) "State" "unpainted" ["self"] (spD (fUnpainted mg)) := by
  refine has_ofM Df scState_unpainted (fun ds C P ⟨_, _, h, _⟩ => by rw [h]; rfl) fun f cdv A outer s H E hr => ⟨_, 
    (pss_one (ps_ret (pe_lc (own := [("box", 1)]) rfl scState_unpainted.nd (pi_seqK K (pe_mt0 mg h_State_blocks TK.k_State.cls (hr.mono (by omega)) (pv 0))) (blkOk_by (N := ["self", "box"]) (sc := defScope sState_unpainted) (by decide +kernel)) (fun _ _ _ _ _ => pg_nm 1 scState_unpainted.nd) (fun _ _ _ _ _ => (pts_one (pt_cmpR (op_ninK K) (pe_ix (ix_seqK K) (pv 1) pe_int (fun _ _ => rfl)) (pe_fldK K (pv 0) rfl) (by rfl)))) (fun _ _ _ _ _ => (pe_ix (ix_seqK K) (pv 1) pe_int (fun _ _ => rfl)))))), fun B ds C P ⟨r, t, hd, hr0, ok, q⟩ => ?_⟩
  subst hd
  have kA := TK.k_State
  have hr1 := hr0
  unfold stC at hr1
  have g := ok.good
  have gz := g.len
  have bl := blks_len t.doc
  kwd_rel
  refine w_lcFilter numD (notInD t.painted) (by simp) (wi_seq ?_)
  kwd_rel
  refine ⟨r, t, rfl, hr0, ok, ?_⟩
  kwd_rel
  refine ⟨by rw [encBs_length]; omega, fun x hx => ?_, fun x hx hb => ?_, ?_⟩
  · obtain ⟨z, hz, rfl⟩ := encBs_mem hx
    kwd_rel
    refine wr_ninI .lst ?_
    kwd_rel
    exact ⟨by cases z <;> rfl, rfl⟩
  · obtain ⟨z, hz, rfl⟩ := encBs_mem hx
    kwd_rel
    exact ⟨numD_b z, rfl⟩
  · rw [rest_enc]
    kwd_rel
    exact q
def fMissing (mg : Str → Option Value) : SpD := fun ds C P => ∃ (r : Addr) (t : Tr) (mv : List (Int × Int)), ds = [.ref r, .lst (mv.map pairD)] ∧ C r = some (stC mg t) ∧ TrOk t ∧ P (.lst ((missT t mv).map D.int)) C
def nInD (pt : List Int) : D → Bool := fun x => match x with | .int n => !decide (n ∈ pt) | _ => false
theorem nIn_list (pt l : List Int) : (l.map D.int).filter (nInD pt) = (l.filter fun n => decide (n ∉ pt)).map D.int := by
  rw [filter_map_int]
  congr 1
  exact List.filter_congr fun n _ => by simp [nInD]
theorem shown_len (b : Box) (O : List (Int × Int)) : (shownB b O).length ≤ b.all.length := Nat.le_trans (List.length_filter_le _ _) (blocks_len b)
abbrev sState_missing : Stmt := inClass (topS 25) 4
theorem scState_missing : FnScope ["self", "moves", "shown", "entry", "number"] ["self", "moves"] (defScope sState_missing) := ⟨rfl, rfl, rfl, by decide +kernel, rfl, by decide +kernel, by decide +kernel⟩
theorem ok_State_missing {k : Nat} (Df : MetAt K mg "State" "missing" "State.missing" sState_missing ["self", "moves"]) (T : Top mg) (TK : TopK K mg) (h_State_view : HasM P w K mg base k "State" "view" ["self", "moves"] (spD (fView mg))) (h_picture : Has P w K mg base k "picture" ["document", "offsets"] (spD (fPicture 8))) : HasM P w K mg base (k+1) "State" "missing" ["self", "moves"] (spD (fMissing mg)) := by
  refine has_ofM Df scState_missing (fun ds C P ⟨_, _, _, h, _⟩ => by rw [h]; rfl) fun f cdv A outer s H E hr => ⟨_, 
    (pss_cons (ps_setLc (i := 2) (own := [("entry", 3)]) rfl scState_missing.nd rfl rfl (sw_true rfl rfl rfl (by decide +kernel)) (pi_seqK K (pe_def h_picture (hr.mono (by omega)) (pa_cons (pe_fldK K (pv 0) rfl) (pa_cons (pe_mt mg h_State_view TK.k_State.cls (hr.mono (by omega)) (pv 0) (pa_cons (pv 1) pa_nil)) pa_nil)))) (blkOk_by (N := ["self", "moves", "shown", "entry", "number"]) (sc := defScope sState_missing) (by decide +kernel)) (fun _ _ _ _ _ => pg_nm 3 scState_missing.nd) (fun _ _ _ _ _ => pts_nil) (fun _ _ _ _ _ => (pe_ix (ix_seqK K) (pv 3) pe_int (fun _ _ => rfl))))
    (pss_one (ps_ret (pe_lc (own := [("number", 4)]) rfl scState_missing.nd (pi_seqK K (pv 2)) (blkOk_by (N := ["self", "moves", "shown", "entry", "number"]) (sc := defScope sState_missing) (by decide +kernel)) (fun _ _ _ _ _ => pg_nm 4 scState_missing.nd) (fun _ _ _ _ _ => (pts_one (pt_cmpR (op_ninK K) (pv 4) (pe_fldK K (pv 0) rfl) (by rfl)))) (fun _ _ _ _ _ => (pv 4)))))), fun B ds C P ⟨r, t, mv, hd, hr0, ok, q⟩ => ?_⟩
  subst hd
  have kA := TK.k_State
  have hr1 := hr0
  unfold stC at hr1
  have g := ok.good
  have gv := ok.view mv
  have gl := g.lev
  have gz := g.len
  have bl := blks_len t.doc
  kwd_rel
  refine w_lcMap fstD (by simp) (wi_seq ?_)
  kwd_rel
  refine ⟨r, t, _, mv, rfl, hr0, rfl, ok, ?_⟩
  kwd_rel
  refine ⟨t.doc, _, ok.root, by omega, by omega, rfl, gv.allIn, ?_⟩
  kwd_rel
  have pl := pictD_len (winsOf (viewT t mv) t.doc) t.doc
  refine ⟨by omega, fun x hx => ?_, ?_⟩
  · obtain ⟨n, z1, z2, z3, rfl⟩ := pictD_mem hx
    kwd_rel
    exact ⟨rfl, rfl⟩
  rw [pict_fst]
  have sl := shown_len t.doc (viewT t mv)
  kwd_rel
  refine w_lcFilter id (nInD t.painted) (by simp) (wi_seq ?_)
  kwd_rel
  refine ⟨by rw [List.length_map]; omega, fun x hx => ?_, fun x hx hb => ?_, ?_⟩
  · obtain ⟨n, hn, rfl⟩ := List.mem_map.mp hx
    kwd_rel
    refine wr_ninI .lst ?_
    kwd_rel
    exact ⟨rfl, rfl⟩
  · kwd_rel
    exact ⟨rfl, rfl⟩
  · rw [List.map_id, nIn_list]
    kwd_rel
    exact q
def fAddPainted (mg : Str → Option Value) : SpD := fun ds C P => ∃ (r : Addr) (t : Tr) (n : Int), ds = [.ref r, .int n] ∧ C r = some (stC mg t) ∧ TrOk t ∧ P .non (updC C r (stC mg (addT t n)))
abbrev sState_add_painted : Stmt := inClass (topS 25) 5
theorem scState_add_painted : FnScope ["self", "number"] ["self", "number"] (defScope sState_add_painted) := ⟨rfl, rfl, rfl, by decide +kernel, rfl, by decide +kernel, by decide +kernel⟩
theorem ok_State_add_painted {k : Nat} (Df : MetAt K mg "State" "add_painted" "State.add_painted" sState_add_painted ["self", "number"]) (T : Top mg) (TK : TopK K mg) : HasM P w K mg base (k+1) "State" "add_painted" ["self", "number"] (spD (fAddPainted mg)) := by
  refine has_ofM Df scState_add_painted (fun ds C P ⟨_, _, _, h, _⟩ => by rw [h]; rfl) fun f cdv A outer s H E hr => ⟨_, 
    (pss_one (ps_fldK K (pv 0) (pe_callB (call_sortedK K) (by rfl) T.sorted bt_sorted (pa_cons (pe_op (op_addK K) (pe_fldK K (pv 0) rfl) (pe_lst (pa_cons (pv 1) pa_nil))) pa_nil)) rfl)), fun B ds C P ⟨r, t, n, hd, hr0, ok, q⟩ => ?_⟩
  subst hd
  have kA := TK.k_State
  have hr1 := hr0
  unfold stC at hr1
  have hpl := ok.pl
  kwd_rel
  refine w_lst ?_
  kwd_rel
  refine wr_addL .lst .lst (by simp; omega) ?_
  have e1 : t.painted.map D.int ++ [D.int n] = (t.painted ++ [n]).map D.int := by simp
  rw [e1]
  kwd_rel
  refine wc_sorted .lst (fun hs' p1 w1 => ?_)
  rw [srt_eq p1 w1]
  kwd_rel
  exact q
end
section
variable {P : Program} {w : World} {K : PySem.W.Frag} {mg : Str → Option Value} {base : Heap}
/-! ### Painter -/
def fTwinSt (mg : Str → Option Value) : SpD := fun ds C P => ∃ (r : Addr) (t : Tr), ds = [.ref r] ∧ C r = some (stC mg t) ∧ ∀ a C', C a = none → C' a = some (stC mg t) → (∀ z, z ≠ a → C' z = C z) → P (.ref a) C'
abbrev stwin_state : Stmt := topS 27
theorem sctwin_state : FnScope ["state", "twin"] ["state"] (defScope stwin_state) := ⟨rfl, rfl, rfl, by decide +kernel, rfl, by decide +kernel, by decide +kernel⟩
theorem ok_twin_state {k : Nat} (Df : DefAt K mg "twin_state" stwin_state ["state"]) (T : Top mg) (TK : TopK K mg) (h_State : HasI P w K mg base k "State" ["self", "number", "document", "base", "held", "included"] (spD (fStInit mg))) : Has P w K mg base (k+2) "twin_state" ["state"] (spD (fTwinSt mg)) := by
  refine has_of Df sctwin_state (fun ds C P ⟨_, _, h, _⟩ => by rw [h]; rfl) fun f cdv A outer s H E hr => ⟨_, 
    (pss_cons (ps_nm 1 sctwin_state.nd (pe_mkI mg h_State TK.k_State.at_ (hr.mono (by omega)) (pa_cons (pe_fldK K (pv 0) rfl) (pa_cons (pe_fldK K (pv 0) rfl) (pa_cons (pe_callTy call_dictN (by rfl) T.dict bt_dict (pa_cons (pe_fldK K (pv 0) rfl) pa_nil)) (pa_cons (pe_callTy (call_lstK K) (by rfl) T.list bt_list (pa_cons (pe_fldK K (pv 0) rfl) pa_nil)) (pa_cons (pe_fldK K (pv 0) rfl) pa_nil)))))))
    (pss_cons (ps_fldK K (pv 1) (pe_callTy (call_lstK K) (by rfl) T.list bt_list (pa_cons (pe_fldK K (pv 0) rfl) pa_nil)) rfl)
    (pss_one (ps_ret (pv 1))))), fun B ds C P ⟨r, t, hd, hr0, q⟩ => ?_⟩
  subst hd
  have kA := TK.k_State
  have hr1 := hr0
  unfold stC at hr1
  refine ws_seq (ws_set (w_make ?_))
  kwd_rel
  refine wc_dict .dic ?_
  kwd_rel
  refine wc_list .lst ?_
  kwd_rel
  intro a ha
  refine ⟨a, t.num, (t.inc : Nat), t.doc, _, _, rfl, updC_same, fun C' h1 o1 => ⟨rfl, ?_⟩⟩
  have ar : a ≠ r := fun e => by rw [e, hr0] at ha; cases ha
  have hr2 : C' r = some (.ins (clsA mg "State") (stF t.num t.doc (.dic (encI t.base)) (.lst (t.held.map D.int)) (t.inc : Nat) (.lst (t.painted.map D.int)))) := by rw [o1 r (Ne.symm ar), updC_ne (Ne.symm ar)]; exact hr1
  kwd_rel
  refine wc_list .lst ?_
  kwd_rel
  exact q a _ ha updC_same fun z hz => by rw [updC_ne hz, o1 z hz, updC_ne hz]
def fPnInit (mg : Str → Option Value) : SpD := fun ds C P => ∃ (p r : Addr) (t : Tr), ds = [.ref p, .ref r] ∧ C p = some (.ins (clsA mg "Painter") []) ∧ C r = some (stC mg t) ∧
  ∀ C' s, C s = none → PnC mg C' p s none ⟨t, none, [], []⟩ → (∀ z, z ≠ p → z ≠ s → C' z = C z) → P .non C'
abbrev sPainter_init : Stmt := inClass (topS 26) 0
theorem scPainter_init : FnScope ["self", "state"] ["self", "state"] (defScope sPainter_init) := ⟨rfl, rfl, rfl, by decide +kernel, rfl, by decide +kernel, by decide +kernel⟩
theorem ok_Painter_init {k : Nat} (Df : IniAt K mg "Painter" "Painter.__init__" sPainter_init ["self", "state"]) (T : Top mg) (TK : TopK K mg) (h_twin_state : Has P w K mg base k "twin_state" ["state"] (spD (fTwinSt mg))) : HasI P w K mg base (k+1) "Painter" ["self", "state"] (spD (fPnInit mg)) := by
  refine has_ofI Df scPainter_init (fun ds C P ⟨_, _, _, h, _⟩ => by rw [h]; rfl) fun f cdv A outer s H E hr => ⟨_, 
    (pss_cons (ps_fldK K (pv 0) (pe_def h_twin_state (hr.mono (by omega)) (pa_cons (pv 1) pa_nil)) rfl)
    (pss_cons (ps_fldK K (pv 0) pe_non rfl)
    (pss_cons (ps_fldK K (pv 0) (pe_lst pa_nil) rfl)
    (pss_one (ps_fldK K (pv 0) (pe_lst pa_nil) rfl))))), fun B ds C P ⟨p, r, t, hd, hp, hr0, q⟩ => ?_⟩
  subst hd
  have kA := TK.k_Painter
  refine ws_seq (ws_fldS ?_)
  refine w_call ?_
  kwd_rel
  refine ⟨r, t, rfl, hr0, fun a C' ha h1 o1 => ?_⟩
  have pa : p ≠ a := fun e => by rw [← e, hp] at ha; cases ha
  have hp1 : C' p = some (.ins (clsA mg "Painter") []) := by rw [o1 p pa]; exact hp
  kwd_rel
  refine w_lst ?_
  kwd_rel
  refine w_lst ?_
  kwd_rel
  refine q _ a ha ⟨updC_same, ?_, trivial⟩ fun z z1 z2 => ?_
  · rw [updC_ne (Ne.symm pa), updC_ne (Ne.symm pa), updC_ne (Ne.symm pa), updC_ne (Ne.symm pa)]; exact h1
  · rw [updC_ne z1, updC_ne z1, updC_ne z1, updC_ne z1, o1 z z2]
end
section
variable {P : Program} {w : World} {K : PySem.W.Frag} {mg : Str → Option Value} {base : Heap}
/-! ### Painter: what it does -/
def fShift (mg : Str → Option Value) : SpD := fun ds C P => ∃ (p s : Addr) (o : Option Addr) (X : Pn) (path : List Int) (am : Int) (y : D), ds = [.ref p, y, .int am] ∧ PnC mg C p s o X ∧ TrOk X.act ∧ X.mv.length ≤ 10000 ∧ SeqF y (path.map D.int) ∧ path.length ≤ 1000 ∧ (∀ k ∈ path, k ∈ (scrsB X.act.doc).map Box.num) ∧
  ∀ C', PnC mg C' p s o (pushX X path am) → (∀ z, z ≠ p → C' z = C z) → P (.tup ((madeX X path am).map pairD)) C'
theorem PnC.upd {C : CH} {p s : Addr} {o : Option Addr} {X Y : Pn} (h : PnC mg C p s o X) (e1 : Y.act = X.act) (e2 : Y.pen = X.pen) : PnC mg (updC C p (.ins (clsA mg "Painter") (pnF s o Y))) p s o Y where
  cp := updC_same
  cs := by rw [updC_ne (Ne.symm h.ps), e1]; exact h.cs
  co := by
    rw [e2]
    cases o with
    | none => have z := h.co; revert z; cases X.pen <;> exact id
    | some q =>
      obtain ⟨h1, h2, t, h3, h4⟩ := h.pq
      rw [h3]
      exact ⟨by rw [updC_ne (Ne.symm h1)]; exact h4, h2⟩
abbrev sPainter_shift : Stmt := inClass (topS 26) 1
theorem scPainter_shift : FnScope ["self", "path", "amount", "made"] ["self", "path", "amount"] (defScope sPainter_shift) := ⟨rfl, rfl, rfl, by decide +kernel, rfl, by decide +kernel, by decide +kernel⟩
theorem ok_Painter_shift {k : Nat} (Df : MetAt K mg "Painter" "shift" "Painter.shift" sPainter_shift ["self", "path", "amount"]) (T : Top mg) (TK : TopK K mg) (h_scrolled : Has P w K mg base k "scrolled" ["document", "offsets", "path", "amount"] (spD (fScrolled 8))) (h_State_view : HasM P w K mg base k "State" "view" ["self", "moves"] (spD (fView mg))) : HasM P w K mg base (k+1) "Painter" "shift" ["self", "path", "amount"] (spD (fShift mg)) := by
  refine has_ofM Df scPainter_shift (fun ds C P ⟨_, _, _, _, _, _, _, h, _⟩ => by rw [h]; rfl) fun f cdv A outer s H E hr => ⟨_, 
    (pss_cons (ps_nm 3 scPainter_shift.nd (pe_ix (ix_seqK K) (pe_def h_scrolled (hr.mono (by omega)) (pa_cons (pe_fldK K (pe_fldK K (pv 0) rfl) rfl) (pa_cons (pe_mt mg h_State_view TK.k_State.cls (hr.mono (by omega)) (pe_fldK K (pv 0) rfl) (pa_cons (pe_fldK K (pv 0) rfl) pa_nil)) (pa_cons (pv 1) (pa_cons (pv 2) pa_nil))))) pe_int (fun _ _ => rfl)))
    (pss_cons (ps_fldK K (pv 0) (pe_op (op_addK K) (pe_fldK K (pv 0) rfl) (pe_callTy (call_lstK K) (by rfl) T.list bt_list (pa_cons (pv 3) pa_nil))) rfl)
    (pss_one (ps_ret (pv 3))))), fun B ds C P ⟨p, s, o, X, path, am, y, hd, hP, ok, hml, hy, hpl, hpm, q⟩ => ?_⟩
  subst hd
  have kA := TK.k_Painter
  have kB := TK.k_State
  have h1 := hP.cp
  have h2 := hP.cs
  unfold stC stF at h2
  unfold pnF at h1
  have g := ok.good
  have gv := ok.view X.mv
  have gl := g.lev
  have gz := g.len
  have go := gv.lenO
  refine ws_seq (ws_set (w_weak ?_))
  kwd_rel
  refine ⟨s, X.act, _, X.mv, rfl, hP.cs, rfl, ok, ?_⟩
  kwd_rel
  refine ⟨X.act.doc, _, path, am, _, _, by omega, by omega, g.nd, rfl, .dic, hy, by omega, fun k hk => ⟨by rw [gv.keys]; exact hpm k hk, by rw [rangesB_keys]; exact hpm k hk⟩, by omega, fun a ha => ?_⟩
  kwd_rel
  refine ⟨C, sub_updC ha, ?_⟩
  have ml := made_len X path am
  have em : (scrollL (gI (rangesB X.act.doc)) path (viewT X.act X.mv) am).2 = madeX X path am := rfl
  rw [em]
  kwd_rel
  refine wc_list .tup ?_
  kwd_rel
  refine wr_addL .lst .lst (by rw [List.length_map, List.length_map]; omega) ?_
  rw [← List.map_append]
  kwd_rel
  exact q _ (hP.upd (Y := pushX X path am) rfl rfl) fun z hz => updC_ne hz
def fScroll (mg : Str → Option Value) : SpD := fun ds C P => ∃ (p s : Addr) (o : Option Addr) (X : Pn) (row am : Int), ds = [.ref p, .int row, .int am] ∧ PnC mg C p s o X ∧ PnOk X ∧ 0 ≤ row ∧ row < X.act.doc.hgt ∧
  ∀ C', PnC mg C' p s o (scrollX X row am).1 → (∀ z, z ≠ p → C' z = C z) → P (scrollX X row am).2 C'
abbrev sPainter_scroll : Stmt := inClass (topS 26) 2
theorem scPainter_scroll : FnScope ["self", "row", "amount", "path", "target", "number"] ["self", "row", "amount"] (defScope sPainter_scroll) := ⟨rfl, rfl, rfl, by decide +kernel, rfl, by decide +kernel, by decide +kernel⟩
theorem ok_Painter_scroll {k : Nat} (Df : MetAt K mg "Painter" "scroll" "Painter.scroll" sPainter_scroll ["self", "row", "amount"]) (T : Top mg) (TK : TopK K mg) (h_under : Has P w K mg base k "under" ["document", "offsets", "row"] (spD (fUnder 8))) (h_State_view : HasM P w K mg base k "State" "view" ["self", "moves"] (spD (fView mg))) (h_Painter_shift : HasM P w K mg base k "Painter" "shift" ["self", "path", "amount"] (spD (fShift mg))) : HasM P w K mg base (k+1) "Painter" "scroll" ["self", "row", "amount"] (spD (fScroll mg)) := by
  refine has_ofM Df scPainter_scroll (fun ds C P ⟨_, _, _, _, _, _, h, _⟩ => by rw [h]; rfl) fun f cdv A outer s H E hr => ⟨_, 
    (pss_cons (ps_asg (pe_def h_under (hr.mono (by omega)) (pa_cons (pe_fldK K (pe_fldK K (pv 0) rfl) rfl) (pa_cons (pe_mt mg h_State_view TK.k_State.cls (hr.mono (by omega)) (pe_fldK K (pv 0) rfl) (pa_cons (pe_fldK K (pv 0) rfl) pa_nil)) (pa_cons (pv 1) pa_nil)))) (pg_tupK K (n := 2) (pgs_cons (pg_nm 3 scPainter_scroll.nd) (pgs_cons (pg_nm 4 scPainter_scroll.nd) pgs_nil))))
    (pss_cons (ps_if (pt_cmpR (op_eqK K hr) (pv 2) pe_int (nomark _)) 
      (pss_one (ps_ret (pe_tup pa_nil))) pss_nil)
    (pss_cons (ps_if (pt_truK K (pe_lc (own := [("number", 5)]) rfl scPainter_scroll.nd (pi_seqK K (pe_op (op_addK K) (pv 3) (pe_tup (pa_cons (pv 4) pa_nil)))) (blkOk_by (N := ["self", "row", "amount", "path", "target", "number"]) (sc := defScope sPainter_scroll) (by decide +kernel)) (fun _ _ _ _ _ => pg_nm 5 scPainter_scroll.nd) (fun _ _ _ _ _ => (pts_one (pt_cmpR (op_inK K) (pv 5) (pe_fldK K (pe_fldK K (pv 0) rfl) rfl) (by rfl)))) (fun _ _ _ _ _ => (pv 5)))) 
      (pss_cons (ps_fldK K (pv 0) (pe_op (op_addK K) (pe_fldK K (pv 0) rfl) (pe_lst (pa_cons (pe_tup (pa_cons (pv 3) (pa_cons (pv 2) pa_nil))) pa_nil))) rfl)
      (pss_one (ps_ret pe_non))) pss_nil)
    (pss_one (ps_ret (pe_mt mg h_Painter_shift TK.k_Painter.cls (hr.mono (by omega)) (pv 0) (pa_cons (pv 3) (pa_cons (pv 2) pa_nil)))))))), fun B ds C P ⟨p, s, o, X, row, am, hd, hP, ok, h0, hr2, q⟩ => ?_⟩
  subst hd
  have kA := TK.k_Painter
  have kB := TK.k_State
  have h1 := hP.cp
  have h2 := hP.cs
  unfold stC stF at h2
  unfold pnF at h1
  have oa := ok.act
  have hwl := ok.wl
  have hml := ok.ml
  have g := oa.good
  have gv := oa.view X.mv
  have gl := g.lev
  have gz := g.len
  have go := gv.lenO
  kwd_rel
  refine ⟨s, X.act, _, X.mv, rfl, hP.cs, rfl, oa, ?_⟩
  kwd_rel
  refine ⟨X.act.doc, _, row, oa.root, by omega, by omega, g.nd, rfl, gv.allIn, gv.nn, h0, hr2, ?_⟩
  obtain ⟨u1, u2⟩ := undX_path oa row
  have uk := und_kind (viewT X.act X.mv) X.act.doc row []
  have eu : undB (viewT X.act X.mv) X.act.doc row [] = undX X row := rfl
  rw [eu] at uk ⊢
  refine wg_tup rfl (wgs_cons (wg_name (wgs_cons (wg_name (wgs_nil ?_)))))
  unfold scrollX at q
  kwd_rel
  refine ite_two (fun hc => ?_) (fun hc => ?_)
  · have hc : am = 0 := of_decide_eq_true hc
    rw [if_pos hc] at q
    kwd_rel
    exact q C hP fun z hz => rfl
  have hc : ¬ am = 0 := of_decide_eq_false hc
  rw [if_neg hc] at q
  refine ws_next ?_
  refine nx_show ?_
  refine ws_seq (ws_if (wt_truth ?_))
  refine w_lcFilter id (heldD X.act.held) (by simp) (wi_seq ?_)
  kwd_rel
  refine wr_addT (by rw [List.length_map]; simp; omega) ?_
  refine ⟨_, .tup, by rw [List.length_append, List.length_map]; simp; omega, fun x hx => ?_, fun x hx hb => ?_, ?_⟩
  · rcases List.mem_append.mp hx with hx | hx
    · obtain ⟨n, hn, rfl⟩ := List.mem_map.mp hx
      kwd_rel
      refine wr_inI .lst ?_
      kwd_rel
      exact ⟨rfl, rfl⟩
    · simp at hx
      subst hx
      rcases uk with e | ⟨n, e⟩
      · rw [e]
        kwd_rel
        refine wr_inN .lst ?_
        kwd_rel
        exact ⟨rfl, rfl⟩
      · rw [e]
        kwd_rel
        refine wr_inI .lst ?_
        kwd_rel
        exact ⟨rfl, rfl⟩
  · kwd_rel
    exact ⟨rfl, rfl⟩
  rw [List.map_id]
  refine ⟨_, rfl, ?_⟩
  rw [any_empty, stuck_any uk]
  have es : (((undX X row).1 ++ thereOf (undX X row).2).any fun n => decide (n ∈ X.act.held)) = stuckX X row := rfl
  rw [es]
  refine ite_two (fun hs => ?_) (fun hs => ?_)
  · rw [if_pos hs] at q
    kwd_rel
    refine w_lst ?_
    kwd_rel
    refine wr_addL .lst .lst (by rw [List.length_map]; simp; omega) ?_
    have e1 : X.wt.map encW ++ [D.tup [D.tup ((undX X row).1.map D.int), D.int am]] = (X.wt ++ [((undX X row).1, am)]).map encW := by simp [encW]
    rw [e1]
    kwd_rel
    exact q _ (hP.upd (Y := { X with wt := X.wt ++ [((undX X row).1, am)] }) rfl rfl) fun z hz => updC_ne hz
  · rw [if_neg (by simpa using hs)] at q
    kwd_rel
    exact ⟨p, s, o, X, (undX X row).1, am, _, rfl, hP, oa, by omega, .tup, by omega, u1, fun C' a b => q C' a b⟩
def fAnswer (mg : Str → Option Value) : SpX := fun ds C P PX => ∃ (p s : Addr) (o : Option Addr) (X : Pn) (ok : Bool), ds = [.ref p, .bl ok] ∧ PnC mg C p s o X ∧ PnOk X ∧
  (answerX X ok = none → PX (.own "NoneWaiting") C) ∧ ∀ Y v, answerX X ok = some (Y, v) → ∀ C', PnC mg C' p s o Y → (∀ z, z ≠ p → C' z = C z) → P v C'
abbrev sPainter_answer : Stmt := inClass (topS 26) 3
theorem scPainter_answer : FnScope ["self", "allowed", "path", "amount", "found", "number", "box"] ["self", "allowed"] (defScope sPainter_answer) := ⟨rfl, rfl, rfl, by decide +kernel, rfl, by decide +kernel, by decide +kernel⟩
theorem ok_Painter_answer {k : Nat} (Df : MetAt K mg "Painter" "answer" "Painter.answer" sPainter_answer ["self", "allowed"]) (T : Top mg) (TK : TopK K mg) (TX : TopX K mg) (h_find : Has P w K mg base k "find" ["document", "number"] (spD (fFind 8))) (h_Painter_shift : HasM P w K mg base k "Painter" "shift" ["self", "path", "amount"] (spD (fShift mg))) : HasXM P w K mg base (k+1) "Painter" "answer" ["self", "allowed"] (spX mg (fAnswer mg)) := by
  refine has_ofMX Df scPainter_answer (fun ds C P PX ⟨_, _, _, _, _, h, _⟩ => by rw [h]; rfl) fun f cdv A outer s H E hr => ⟨_, (have tk := tk_of; 
    (pss_cons (ps_if (pt_not (pt_truK K (pe_fldK K (pv 0) rfl))) 
      (pss_one (ps_rs TX.e_NoneWaiting tk)) pss_nil)
    (pss_cons (ps_asg (pe_ix (ix_seqK K) (pe_fldK K (pv 0) rfl) pe_int (fun _ _ => rfl)) (pg_tupK K (n := 2) (pgs_cons (pg_nm 2 scPainter_answer.nd) (pgs_cons (pg_nm 3 scPainter_answer.nd) pgs_nil))))
    (pss_cons (ps_fldK K (pv 0) (pe_slice (sl_K K) (pe_fldK K (pv 0) rfl) (po_some pe_int) po_none) rfl)
    (pss_cons (ps_if (pt_not (pt_truK K (pv 1))) 
      (pss_one (ps_ret (pe_tup pa_nil))) pss_nil)
    (pss_cons (ps_setLc (i := 4) (own := [("number", 5)]) rfl scPainter_answer.nd rfl rfl (sw_true rfl rfl rfl (by decide +kernel)) (pi_seqK K (pv 2)) (blkOk_by (N := ["self", "allowed", "path", "amount", "found", "number", "box"]) (sc := defScope sPainter_answer) (by decide +kernel)) (fun _ _ _ _ _ => pg_nm 5 scPainter_answer.nd) (fun _ _ _ _ _ => pts_nil) (fun _ _ _ _ _ => (pe_def h_find (hr.mono (by omega)) (pa_cons (pe_fldK K (pe_fldK K (pv 0) rfl) rfl) (pa_cons (pv 5) pa_nil)))))
    (pss_one (ps_ret (pe_mt mg h_Painter_shift TK.k_Painter.cls (hr.mono (by omega)) (pv 0) (pa_cons (pe_callTy (call_tupK K) (by rfl) T.tuple bt_tuple (pa_cons (pe_lc (own := [("box", 6)]) rfl scPainter_answer.nd (pi_seqK K (pv 4)) (blkOk_by (N := ["self", "allowed", "path", "amount", "found", "number", "box"]) (sc := defScope sPainter_answer) (by decide +kernel)) (fun _ _ _ _ _ => pg_nm 6 scPainter_answer.nd) (fun _ _ _ _ _ => (pts_one (PW.pt (pw_and (pt_cmpR op_notN (pv 6) pe_non (nomark _)) (pw_and1 (pt_cmpR (op_eqK K hr) (pe_ix (ix_seqK K) (pv 6) pe_int (fun _ _ => rfl)) pe_str (nomark _))))))) (fun _ _ _ _ _ => (pe_ix (ix_seqK K) (pv 6) pe_int (fun _ _ => rfl)))) pa_nil)) (pa_cons (pv 3) pa_nil))))))))))), fun B ds C P PX ⟨p, s, o, X, ok, hd, hP, hok, qx, q⟩ hX => ?_⟩
  subst hd
  have kA := TK.k_Painter
  have kB := TK.k_State
  have h1 := hP.cp
  have h2 := hP.cs
  unfold stC stF at h2
  unfold pnF at h1
  have oa := hok.act
  have hml := hok.ml
  have hwp := hok.wp
  have g := oa.good
  have gl := g.lev
  have gz := g.len
  unfold answerX at q qx
  cases hw : X.wt with
  | nil =>
    rw [hw] at qx h1
    kwd_rel
    kwd_less
    kwd_rel
    exact ws_raise hX.ok TX.e_NoneWaiting (qx rfl)
  | cons wd r =>
    obtain ⟨path, am⟩ := wd
    rw [hw] at q h1
    have hpl := hwp (path, am) (by rw [hw]; simp)
    kwd_rel
    kwd_less
    kwd_rel
    refine wr_ix .lst (d := encW (path, am)) atI_zero ?_
    refine wg_tup rfl (wgs_cons (wg_name (wgs_cons (wg_name (wgs_nil ?_)))))
    kwd_rel
    have ec : cutD (((path, am) :: r).map encW) (some 1) none = r.map encW := by
      have := cutD_drop (ds := ((path, am) :: r).map encW) (k := 1)
      rw [show ((1 : Nat) : Int) = 1 from rfl] at this
      rw [this]
      rfl
    rw [ec]
    have hP2 : PnC mg (updC C p (.ins (clsA mg "Painter") (pnF s o { X with wt := r }))) p s o { X with wt := r } := hP.upd rfl rfl
    kwd_rel
    refine ite_two (fun hc => ?_) (fun hc => ?_)
    · have hc : ok = false := by simpa using hc
      subst hc
      kwd_rel
      exact q _ _ rfl _ hP2 fun z hz => updC_ne hz
    have hc : ok = true := by simpa using hc
    subst hc
    refine ws_next ?_
    refine nx_show ?_
    show WS B _ _ (updC C p (.ins (clsA mg "Painter") (pnF s o { X with wt := r }))) _
    have hfr : ∀ z, z ≠ p → updC C p (.ins (clsA mg "Painter") (pnF s o { X with wt := r })) z = C z := fun z hz => updC_ne hz
    generalize updC C p (.ins (clsA mg "Painter") (pnF s o { X with wt := r })) = C2 at hP2 hfr ⊢
    have h21 := hP2.cp
    have h22 := hP2.cs
    unfold stC stF at h22
    unfold pnF at h21
    refine ws_seq (ws_set ?_)
    refine w_lcMap (findD X.act.doc) (by simp) (wi_seq ?_)
    kwd_rel
    refine ⟨by rw [List.length_map]; exact Nat.le_trans hpl (by decide), fun x hx => ?_, ?_⟩
    · obtain ⟨n, hn, rfl⟩ := List.mem_map.mp hx
      kwd_rel
      refine ⟨X.act.doc, n, by omega, by omega, rfl, ?_⟩
      exact ⟨rfl, rfl⟩
    kwd_rel
    refine w_lcFilter numD isSO (by simp) (wi_seq ?_)
    kwd_rel
    refine ⟨by rw [List.length_map, List.length_map]; exact Nat.le_trans hpl (by decide), fun x hx => ?_, fun x hx hb => ?_, ?_⟩
    · obtain ⟨y, hy, rfl⟩ := List.mem_map.mp hx
      obtain ⟨n, hn, rfl⟩ := List.mem_map.mp hy
      show WT _ _ _ _ _
      have e : findD X.act.doc (.int n) = encO (findB X.act.doc.all n) := rfl
      rw [e]
      cases findB X.act.doc.all n with
      | none =>
        kwd_rel
        kwd_less
        exact ⟨rfl, rfl⟩
      | some z =>
        cases z <;>
        · kwd_rel
          kwd_less
          kwd_rel
          exact ⟨rfl, rfl⟩
    · obtain ⟨y, hy, rfl⟩ := List.mem_map.mp hx
      obtain ⟨n, hn, rfl⟩ := List.mem_map.mp hy
      have e : findD X.act.doc (.int n) = encO (findB X.act.doc.all n) := rfl
      rw [e] at hb ⊢
      cases hz : findB X.act.doc.all n with
      | none => rw [hz] at hb; cases hb
      | some z =>
        have e2 : encO (some z) = encB z := rfl
        rw [e2]
        kwd_rel
        exact ⟨numD_b z, rfl⟩
    rw [there_enc g.nd]
    kwd_rel
    refine wc_tuple .lst ?_
    kwd_rel
    refine ⟨p, s, o, _, thereX X path, am, _, rfl, hP2, oa, by show X.mv.length ≤ 10000; omega, .tup, ?_, ?_, fun C' a b => q _ _ rfl C' a fun z hz => by rw [b z hz, hfr z hz]⟩
    · exact Nat.le_trans (List.length_filter_le _ _) hpl
    · intro k hk
      exact of_decide_eq_true (List.mem_filter.mp hk).2
def fPaint (mg : Str → Option Value) : SpD := fun ds C P => ∃ (p s : Addr) (o : Option Addr) (X : Pn), ds = [.ref p] ∧ PnC mg C p s o X ∧ PnOk X ∧
  ∀ C', PnC mg C' p s o (paintX X).1 → (∀ z, z ≠ s → (∀ q, o = some q → z ≠ q) → C' z = C z) → P (paintX X).2 C'
abbrev sPainter_paint : Stmt := inClass (topS 26) 5
theorem scPainter_paint : FnScope ["self", "state", "chosen"] ["self"] (defScope sPainter_paint) := ⟨rfl, rfl, rfl, by decide +kernel, rfl, by decide +kernel, by decide +kernel⟩
theorem ok_Painter_paint {k : Nat} (Df : MetAt K mg "Painter" "paint" "Painter.paint" sPainter_paint ["self"]) (T : Top mg) (TK : TopK K mg) (h_State_missing : HasM P w K mg base k "State" "missing" ["self", "moves"] (spD (fMissing mg))) (h_State_unpainted : HasM P w K mg base k "State" "unpainted" ["self"] (spD (fUnpainted mg))) (h_State_add_painted : HasM P w K mg base k "State" "add_painted" ["self", "number"] (spD (fAddPainted mg))) : HasM P w K mg base (k+1) "Painter" "paint" ["self"] (spD (fPaint mg)) := by
  refine has_ofM Df scPainter_paint (fun ds C P ⟨_, _, _, _, h, _⟩ => by rw [h]; rfl) fun f cdv A outer s H E hr => ⟨_, 
    (pss_cons (ps_nm 1 scPainter_paint.nd (pe_ifExp (pt_cmpR op_isN (pe_fldK K (pv 0) rfl) pe_non (nomark _)) (pe_fldK K (pv 0) rfl) (pe_fldK K (pv 0) rfl)))
    (pss_cons (ps_nm 2 scPainter_paint.nd (pe_orTK K (pe_mt mg h_State_missing TK.k_State.cls (hr.mono (by omega)) (pv 1) (pa_cons (pe_fldK K (pv 0) rfl) pa_nil)) (pe_one (pe_mt0 mg h_State_unpainted TK.k_State.cls (hr.mono (by omega)) (pv 1)))))
    (pss_cons (ps_if (pt_not (pt_truK K (pv 2))) 
      (pss_one (ps_ret pe_non)) pss_nil)
    (pss_cons (ps_expr (pe_mt mg h_State_add_painted TK.k_State.cls (hr.mono (by omega)) (pv 1) (pa_cons (pe_ix (ix_seqK K) (pv 2) pe_int (fun _ _ => rfl)) pa_nil)))
    (pss_one (ps_ret (pe_ix (ix_seqK K) (pv 2) pe_int (fun _ _ => rfl)))))))), fun B ds C P ⟨p, s, o, X, hd, hP, hok, q⟩ => ?_⟩
  subst hd
  have kA := TK.k_Painter
  have kB := TK.k_State
  have h1 := hP.cp
  unfold pnF at h1
  obtain ⟨a, t, Y, hat, hok2, hY0, hY1, hYP, hYf, hsel⟩ : ∃ (a : Addr) (t : Tr) (Y : Tr → Pn), C a = some (stC mg t) ∧ TrOk t ∧ (chosenT t X.mv = [] → paintX X = (X, .non)) ∧ (∀ n l, chosenT t X.mv = n :: l → paintX X = (Y (addT t n), .int n)) ∧
      (∀ t2, PnC mg (updC C a (stC mg t2)) p s o (Y t2)) ∧ (∀ z, z ≠ s → (∀ q, o = some q → z ≠ q) → z ≠ a) ∧ a = o.getD s := by
    cases o with
    | none =>
      have hpen : X.pen = none := by have z := hP.co; revert z; cases X.pen <;> intro z; rfl; exact z.elim
      refine ⟨s, X.act, fun t2 => { X with act := t2 }, hP.cs, hok.act, fun e => ?_, fun n l e => ?_, fun t2 => ⟨by rw [updC_ne hP.ps]; exact hP.cp, updC_same, by show PenC mg _ s none X.pen; rw [hpen]; trivial⟩, fun z z1 _ => z1, rfl⟩
      · unfold paintX; rw [hpen]; simp only []; rw [e]
      · unfold paintX; rw [hpen]; simp only []; rw [e]
    | some q1 =>
      obtain ⟨g1, g2, t, g3, g4⟩ := hP.pq
      refine ⟨q1, t, fun t2 => { X with pen := some t2 }, g4, hok.pen t g3, fun e => ?_, fun n l e => ?_, fun t2 => ⟨by rw [updC_ne g1]; exact hP.cp, by rw [updC_ne (Ne.symm g2)]; exact hP.cs, ⟨updC_same, g2⟩⟩, fun z _ z2 => z2 q1 rfl, rfl⟩
      · unfold paintX; rw [g3]; simp only []; rw [e]
      · unfold paintX; rw [g3]; simp only []; rw [e]
  have hat2 := hat
  unfold stC stF at hat2
  refine ws_seq (ws_set (w_to (.ref a) ?_ ?_))
  · cases o with
    | none =>
      kwd_rel
      kwd_less
      kwd_rel
      exact ⟨by rw [hsel]; rfl, rfl⟩
    | some q1 =>
      kwd_rel
      kwd_less
      kwd_rel
      exact ⟨by rw [hsel]; rfl, rfl⟩
  have hml := hok.ml
  have chos : ∀ P : D → CH → Prop, P (.lst ((chosenT t X.mv).map D.int)) C → W B (tOrT K (tMeth (clsA mg "State") "missing" (spD (fMissing mg)) [] E0 (tVar 1) (tCons (tFld K (tVar 0) "moves") tNil)) (tMeth (clsA mg "State") "unpainted" (spD (fUnpainted mg)) [] E0 (tVar 1) tNil)) [some (.ref p), some (.ref a), none] C P := by
    intro P1 q1
    refine w_orT ?_
    kwd_rel
    refine ⟨a, t, X.mv, rfl, hat, hok2, _, rfl, fun hb => ?_, fun hb => ?_⟩
    · unfold chosenT at q1
      rw [if_neg (fun e => by rw [e] at hb; cases hb)] at q1
      exact q1
    · have e : missT t X.mv = [] := by
        cases hm : missT t X.mv with
        | nil => rfl
        | cons x l => rw [hm] at hb; cases hb
      unfold chosenT at q1
      rw [if_pos e] at q1
      kwd_rel
      exact ⟨a, t, rfl, hat, hok2, q1⟩
  refine nx_show ?_
  refine ws_seq (ws_set (chos _ ?_))
  cases hch : chosenT t X.mv with
  | nil =>
    rw [hY0 hch] at q
    kwd_rel
    kwd_less
    kwd_rel
    exact q C hP fun z _ _ => rfl
  | cons n l =>
    rw [hY1 n l hch] at q
    kwd_rel
    kwd_less
    kwd_rel
    refine wr_ix .lst (d := .int n) atI_zero ?_
    kwd_rel
    refine ⟨a, t, n, rfl, hat, hok2, ?_⟩
    kwd_rel
    refine wr_ix .lst (d := .int n) atI_zero ?_
    exact q _ (hYP _) fun z z1 z2 => updC_ne (hYf z z1 z2)
def fTake (mg : Str → Option Value) : SpX := fun ds C P PX => ∃ (p s : Addr) (o : Option Addr) (X : Pn), ds = [.ref p] ∧ PnC mg C p s o X ∧ PnOk X ∧
  (takeX X = none → PX (.own "NotReady") C) ∧ ∀ Y v q, o = some q → takeX X = some (Y, v) → ∀ C', PnC mg C' p q none Y → (∀ z, z ≠ p → C' z = C z) → P v C'
abbrev sPainter_take : Stmt := inClass (topS 26) 6
theorem scPainter_take : FnScope ["self"] ["self"] (defScope sPainter_take) := ⟨rfl, rfl, rfl, by decide +kernel, rfl, by decide +kernel, by decide +kernel⟩
theorem ok_Painter_take {k : Nat} (Df : MetAt K mg "Painter" "take" "Painter.take" sPainter_take ["self"]) (T : Top mg) (TK : TopK K mg) (TX : TopX K mg) (h_State_missing : HasM P w K mg base k "State" "missing" ["self", "moves"] (spD (fMissing mg))) : HasXM P w K mg base (k+1) "Painter" "take" ["self"] (spX mg (fTake mg)) := by
  refine has_ofMX Df scPainter_take (fun ds C P PX ⟨_, _, _, _, h, _⟩ => by rw [h]; rfl) fun f cdv A outer s H E hr => ⟨_, (have tk := tk_of; 
    (pss_cons (ps_if (PW.pt (pw_or (pt_cmpR op_isN (pe_fldK K (pv 0) rfl) pe_non (nomark _)) (pw_or1 (pt_truK K (pe_mt mg h_State_missing TK.k_State.cls (hr.mono (by omega)) (pe_fldK K (pv 0) rfl) (pa_cons (pe_fldK K (pv 0) rfl) pa_nil)))))) 
      (pss_one (ps_rs TX.e_NotReady tk)) pss_nil)
    (pss_cons (ps_fldK K (pv 0) (pe_fldK K (pv 0) rfl) rfl)
    (pss_cons (ps_fldK K (pv 0) pe_non rfl)
    (pss_one (ps_ret (pe_fldK K (pe_fldK K (pv 0) rfl) rfl))))))), fun B ds C P PX ⟨p, s, o, X, hd, hP, hok, qx, q⟩ hX => ?_⟩
  subst hd
  have kA := TK.k_Painter
  have kB := TK.k_State
  have h1 := hP.cp
  unfold pnF at h1
  unfold takeX at q qx
  cases o with
  | none =>
    have hpen : X.pen = none := by have z := hP.co; revert z; cases X.pen <;> intro z; rfl; exact z.elim
    rw [hpen] at qx
    kwd_rel
    kwd_less
    kwd_rel
    kwd_less
    kwd_rel
    exact ws_raise hX.ok TX.e_NotReady (qx rfl)
  | some q1 =>
    obtain ⟨g1, g2, t, g3, g4⟩ := hP.pq
    rw [g3] at qx q
    simp only [] at qx q
    have hot := hok.pen t g3
    have g5 := g4
    unfold stC stF at g5
    kwd_rel
    kwd_less
    kwd_rel
    refine ⟨q1, t, X.mv, rfl, g4, hot, _, rfl, ?_⟩
    refine ite_two (fun hm => ?_) (fun hm => ?_)
    · have e : ¬ missT t X.mv = [] := fun e => by rw [e] at hm; cases hm
      rw [if_neg e] at qx
      kwd_rel
      exact ws_raise hX.ok TX.e_NotReady (qx rfl)
    · have e : missT t X.mv = [] := by
        cases he : missT t X.mv with
        | nil => rfl
        | cons x l => rw [he] at hm; cases hm
      rw [if_pos e] at q
      kwd_rel
      refine ⟨_, _, by rw [updC_ne (Ne.symm g1), updC_ne (Ne.symm g1)]; exact g5, kB.fld (by decide +kernel), _, rfl, ?_⟩
      exact q _ _ q1 rfl rfl _ ⟨updC_same, by rw [updC_ne (Ne.symm g1), updC_ne (Ne.symm g1)]; exact g4, trivial⟩ fun z hz => by rw [updC_ne hz, updC_ne hz]
def fFrame (mg : Str → Option Value) : SpD := fun ds C P => ∃ (p s : Addr) (o : Option Addr) (X : Pn), ds = [.ref p] ∧ PnC mg C p s o X ∧ PnOk X ∧ P (frameX X) C
abbrev sPainter_frame : Stmt := inClass (topS 26) 7
theorem scPainter_frame : FnScope ["self", "state", "shown", "entry"] ["self"] (defScope sPainter_frame) := ⟨rfl, rfl, rfl, by decide +kernel, rfl, by decide +kernel, by decide +kernel⟩
theorem ok_Painter_frame {k : Nat} (Df : MetAt K mg "Painter" "frame" "Painter.frame" sPainter_frame ["self"]) (T : Top mg) (TK : TopK K mg) (h_State_view : HasM P w K mg base k "State" "view" ["self", "moves"] (spD (fView mg))) (h_picture : Has P w K mg base k "picture" ["document", "offsets"] (spD (fPicture 8))) : HasM P w K mg base (k+1) "Painter" "frame" ["self"] (spD (fFrame mg)) := by
  refine has_ofM Df scPainter_frame (fun ds C P ⟨_, _, _, _, h, _⟩ => by rw [h]; rfl) fun f cdv A outer s H E hr => ⟨_, 
    (pss_cons (ps_nm 1 scPainter_frame.nd (pe_fldK K (pv 0) rfl))
    (pss_cons (ps_nm 2 scPainter_frame.nd (pe_def h_picture (hr.mono (by omega)) (pa_cons (pe_fldK K (pv 1) rfl) (pa_cons (pe_mt mg h_State_view TK.k_State.cls (hr.mono (by omega)) (pv 1) (pa_cons (pe_fldK K (pv 0) rfl) pa_nil)) pa_nil))))
    (pss_one (ps_ret (pe_tup (pa_cons (pe_fldK K (pv 1) rfl) (pa_cons (pe_callB (call_lenK K) (by rfl) T.len bt_len (pa_cons (pe_fldK K (pv 0) rfl) pa_nil)) (pa_cons (pe_lc (own := [("entry", 3)]) rfl scPainter_frame.nd (pi_seqK K (pv 2)) (blkOk_by (N := ["self", "state", "shown", "entry"]) (sc := defScope sPainter_frame) (by decide +kernel)) (fun _ _ _ _ _ => pg_nm 3 scPainter_frame.nd) (fun _ _ _ _ _ => pts_nil) (fun _ _ _ _ _ => (pe_op (op_addK K) (pv 3) (pe_tup (pa_cons (pe_cmpR (op_inK K) (pe_ix (ix_seqK K) (pv 3) pe_int (fun _ _ => rfl)) (pe_fldK K (pv 1) rfl) (by rfl)) pa_nil))))) pa_nil)))))))), fun B ds C P ⟨p, s, o, X, hd, hP, hok, q⟩ => ?_⟩
  subst hd
  have kA := TK.k_Painter
  have kB := TK.k_State
  have h1 := hP.cp
  unfold pnF at h1
  have h2 := hP.cs
  unfold stC stF at h2
  have oa := hok.act
  have gv := oa.view X.mv
  have gl := gv.lev
  have gz := gv.len
  have pl := pictD_len (winsOf (viewT X.act X.mv) X.act.doc) X.act.doc
  kwd_rel
  refine ⟨s, X.act, _, X.mv, rfl, hP.cs, rfl, oa, ?_⟩
  kwd_rel
  refine ⟨X.act.doc, _, oa.root, by omega, by omega, rfl, gv.allIn, ?_⟩
  kwd_rel
  rw [List.length_map]
  refine w_lcMap (entP X.act.painted) (by simp) (wi_seq ?_)
  kwd_rel
  refine ⟨by omega, fun x hx => ?_, ?_⟩
  · obtain ⟨n, z1, z2, z3, rfl⟩ := pictD_mem hx
    kwd_rel
    refine wr_inI .lst ?_
    kwd_rel
    refine wr_addT (by simp) ?_
    exact ⟨rfl, rfl⟩
  kwd_rel
  exact q
def fReceive (mg : Str → Option Value) : SpX := fun ds C P PX => ∃ (p s r : Addr) (o : Option Addr) (X : Pn) (t : Tr), ds = [.ref p, .ref r] ∧ PnC mg C p s o X ∧ PnOk X ∧ C r = some (stC mg t) ∧ TrOk t ∧
  (o ≠ none → PX (.own "Busy") C) ∧ (o = none → ∀ C' q, C q = none → PnC mg C' p s (some q) (receiveX X t) → (∀ z, z ≠ p → z ≠ q → C' z = C z) → P .non C')
abbrev sPainter_receive : Stmt := inClass (topS 26) 4
theorem scPainter_receive : FnScope ["self", "state", "heights", "box"] ["self", "state"] (defScope sPainter_receive) := ⟨rfl, rfl, rfl, by decide +kernel, rfl, by decide +kernel, by decide +kernel⟩
theorem ok_Painter_receive {k : Nat} (Df : MetAt K mg "Painter" "receive" "Painter.receive" sPainter_receive ["self", "state"]) (T : Top mg) (TK : TopK K mg) (TX : TopX K mg) (h_State_blocks : HasM P w K mg base k "State" "blocks" ["self"] (spD (fBlocks mg))) (h_twin_state : Has P w K mg base k "twin_state" ["state"] (spD (fTwinSt mg))) : HasXM P w K mg base (k+1) "Painter" "receive" ["self", "state"] (spX mg (fReceive mg)) := by
  refine has_ofMX Df scPainter_receive (fun ds C P PX ⟨_, _, _, _, _, _, h, _⟩ => by rw [h]; rfl) fun f cdv A outer s H E hr => ⟨_, (have tk := tk_of; 
    (pss_cons (ps_if (pt_cmpR op_notN (pe_fldK K (pv 0) rfl) pe_non (nomark _)) 
      (pss_one (ps_rs TX.e_Busy tk)) pss_nil)
    (pss_cons (ps_nm 2 scPainter_receive.nd (pe_dc (own := [("box", 3)]) rfl scPainter_receive.nd (pi_seqK K (pe_mt0 mg h_State_blocks TK.k_State.cls (hr.mono (by omega)) (pe_fldK K (pv 0) rfl))) (blkOk_by (N := ["self", "state", "heights", "box"]) (sc := defScope sPainter_receive) (by decide +kernel)) (fun _ _ _ _ _ => pg_nm 3 scPainter_receive.nd) (fun _ _ _ _ _ => (pts_one (pt_cmpR (op_inK K) (pe_ix (ix_seqK K) (pv 3) pe_int (fun _ _ => rfl)) (pe_fldK K (pe_fldK K (pv 0) rfl) rfl) (by rfl)))) (fun _ _ _ _ _ => (pe_ix (ix_seqK K) (pv 3) pe_int (fun _ _ => rfl))) (fun _ _ _ _ _ => (pe_ix (ix_seqK K) (pv 3) pe_int (fun _ _ => rfl)))))
    (pss_cons (ps_fldK K (pv 0) (pe_def h_twin_state (hr.mono (by omega)) (pa_cons (pv 1) pa_nil)) rfl)
    (pss_one (ps_fldK K (pe_fldK K (pv 0) rfl) (pe_callB (call_sortedK K) (by rfl) T.sorted bt_sorted (pa_cons (pe_lc (own := [("box", 3)]) rfl scPainter_receive.nd (pi_seqK K (pe_mt0 mg h_State_blocks TK.k_State.cls (hr.mono (by omega)) (pv 1))) (blkOk_by (N := ["self", "state", "heights", "box"]) (sc := defScope sPainter_receive) (by decide +kernel)) (fun _ _ _ _ _ => pg_nm 3 scPainter_receive.nd) (fun _ _ _ _ _ => (pts_one (pt_cmpR (op_eqK K hr) (pe_dget1 (hu_of hr) (pv 2) (pe_ix (ix_seqK K) (pv 3) pe_int (fun _ _ => rfl)) ⟨rfl, rfl, rfl, rfl⟩) (pe_ix (ix_seqK K) (pv 3) pe_int (fun _ _ => rfl)) (nomark _)))) (fun _ _ _ _ _ => (pe_ix (ix_seqK K) (pv 3) pe_int (fun _ _ => rfl)))) pa_nil)) rfl)))))), fun B ds C P PX ⟨p, s, r, o, X, t, hd, hP, hok, hr0, hot, qx, q⟩ hX => ?_⟩
  subst hd
  have kA := TK.k_Painter
  have kB := TK.k_State
  have h1 := hP.cp
  unfold pnF at h1
  have h2 := hP.cs
  unfold stC stF at h2
  have oa := hok.act
  cases o with
  | some q1 =>
    kwd_rel
    kwd_less
    kwd_rel
    exact ws_raise hX.ok TX.e_Busy (qx (by simp))
  | none =>
    kwd_rel
    kwd_less
    kwd_rel
    have hpen : X.pen = none := by have z := hP.co; revert z; cases X.pen <;> intro z; rfl; exact z.elim
    have ga := oa.good
    have gz := ga.len
    have bl := blks_len X.act.doc
    have ndb : ((blksB X.act.doc).map Box.num).Nodup := ga.nd.sublist (List.Sublist.map _ List.filter_sublist)
    refine w_dcC (fun rest acc C1 => ∃ pre post, blksB X.act.doc = pre ++ post ∧ rest = encBs post ∧ acc = encI (hL X.act.painted pre) ∧ C1 = C) (sets_name (by simp)) (wi_seq ?_) ?_ ?_
    · kwd_rel
      refine ⟨s, X.act, rfl, hP.cs, oa, ?_⟩
      exact ⟨_, .lst, by rw [encBs_length]; omega, [], _, rfl, rfl, rfl, rfl⟩
    · rintro acc C1 ⟨pre, post, e1, e2, rfl, rfl⟩ a ha
      have e := encBs_nil e2
      subst e
      rw [List.append_nil] at e1
      subst e1
      refine nx_show ?_
      refine ws_freezeD (i := 2) rfl updC_same ?_
      rw [delC_updC ha]
      kwd_rel
      refine ⟨r, t, rfl, hr0, fun a2 C' ha2 k1 o1 => ?_⟩
      have pa : p ≠ a2 := fun e => by rw [← e, hP.cp] at ha2; cases ha2
      have sa : s ≠ a2 := fun e => by rw [← e, hP.cs] at ha2; cases ha2
      have ra : r ≠ a2 := fun e => by rw [← e, hr0] at ha2; cases ha2
      have pr : p ≠ r := ins_ne hP.cp hr0
      have h11 : C' p = _ := (o1 p pa).trans hP.cp
      unfold pnF at h11
      kwd_rel
      have gt := hot.good
      have gtz := gt.len
      have blt := blks_len t.doc
      have kl := kept_len X.act t.doc
      have rC : updC C' p (.ins (clsA mg "Painter") (pnF s (some a2) X)) r = some (stC mg t) := by rw [updC_ne (Ne.symm pr), o1 r ra]; exact hr0
      have a2C : updC C' p (.ins (clsA mg "Painter") (pnF s (some a2) X)) a2 = some (stC mg t) := by rw [updC_ne (Ne.symm pa)]; exact k1
      show W B _ _ (updC C' p (.ins (clsA mg "Painter") (pnF s (some a2) X))) _
      refine w_lcFilter numD (keepD X.act) (by simp) (wi_seq ?_)
      have rC2 := rC
      unfold stC at rC2
      kwd_rel
      refine ⟨r, t, rfl, rC, hot, ?_⟩
      refine ⟨_, .lst, by rw [encBs_length]; omega, fun x hx => ?_, fun x hx hb => ?_, ?_⟩
      · obtain ⟨z, hz, rfl⟩ := encBs_mem hx
        have hz2 : z.isS = false := by simpa using (List.mem_filter.mp hz).2
        kwd_rel
        refine w_dget1 ?_
        kwd_rel
        refine ⟨⟨_, .dic⟩, ?_⟩
        kwd_rel
        refine ⟨_, z.num, .dic, rfl, ?_⟩
        have e : getD' (encI (hL X.act.painted (blksB X.act.doc))) z.num .non = encOI (hgtOf X.act z.num) := by
          unfold getD'
          rw [lookD_encI, hL_get ga.nd]
          cases hgtOf X.act z.num <;> rfl
        rw [e]
        kwd_rel
        cases z with
        | scroller _ _ _ => cases hz2
        | block zn zh =>
          cases hg : hgtOf X.act (Box.block zn zh).num with
          | none =>
            kwd_rel
            exact ⟨by show false = decide (hgtOf X.act zn = some zh); rw [show hgtOf X.act zn = none from hg]; rfl, rfl⟩
          | some v =>
            refine wr_eq (b := decide (v = zh)) rfl ?_
            kwd_rel
            exact ⟨by show decide (v = zh) = decide (hgtOf X.act zn = some zh); rw [show hgtOf X.act zn = some v from hg]; simp, rfl⟩
      · obtain ⟨z, hz, rfl⟩ := encBs_mem hx
        kwd_rel
        exact ⟨numD_b z, rfl⟩
      rw [keep_enc]
      kwd_rel
      refine wc_sorted .lst (fun hs' p1 w1 => ?_)
      rw [srt_eq p1 w1]
      kwd_rel
      refine ⟨_, _, a2C, kB.fld (by decide +kernel), by with_unfolding_all exact Nat.le_of_ble_eq_true rfl, ?_⟩
      refine q rfl _ a2 ha2 ⟨by rw [updC_ne pa]; exact updC_same, by rw [updC_ne sa, updC_ne (Ne.symm hP.ps), o1 s sa]; exact hP.cs, ⟨updC_same, Ne.symm sa⟩⟩ fun z z1 z2 => by rw [updC_ne z2, updC_ne z1, o1 z z2]
    · rintro x xs acc C1 ⟨pre, post, e1, e2, rfl, rfl⟩
      obtain ⟨b, q2, rfl, rfl, rfl⟩ := encBs_cons e2
      kwd_rel
      refine wr_inI .lst ?_
      refine ⟨_, rfl, fun hb => ?_, fun hb => ?_⟩
      · kwd_rel
        refine ⟨pre ++ [b], q2, by simp [e1], rfl, ?_, rfl⟩
        rw [putD_encI, put_new]
        · congr 1
          have e : hL X.act.painted [b] = [(b.num, b.hgt)] := by simp [hL, of_decide_eq_true hb]
          rw [← e]
          simp [hL]
        · intro z
          rw [hL_keys] at z
          obtain ⟨p1, hp1, e⟩ := List.mem_map.mp z
          have m1 := (List.mem_filter.mp hp1).1
          rw [e1, List.map_append, List.map_cons, List.nodup_append] at ndb
          exact ndb.2.2 p1.num (List.mem_map.mpr ⟨p1, m1, rfl⟩) b.num (by simp) e
      · refine ⟨pre ++ [b], q2, by simp [e1], rfl, ?_, rfl⟩
        congr 1
        have e : hL X.act.painted [b] = [] := by simp [hL, of_decide_eq_false hb]
        unfold hL at e ⊢
        rw [List.filter_append, List.map_append, e, List.append_nil]
end
/-! steps as long as they are plain -/
local macro_rules
  | `(tactic| kwd_rel) => `(tactic| repeat (first
    | (with_reducible show W _ _ _ _ _; first
        | with_reducible refine w_var (by with_unfolding_all exact rfl) ?_
        | with_reducible refine w_int ?_
        | with_reducible refine w_op ?_
        | with_reducible refine w_str ?_
        | with_reducible refine w_cb ?_
        | with_reducible refine w_call ?_
        | with_reducible refine w_tup ?_
        | with_reducible refine w_ifExp ?_
        | with_reducible refine w_un ?_
        | with_reducible refine w_bl ?_
        | with_reducible refine w_non ?_
        | with_reducible refine w_ref ?_
        | with_reducible refine w_ty ?_
        | with_reducible refine w_notV ?_
        | with_reducible refine w_andV ?_
        | with_reducible refine w_orV ?_
        | with_reducible refine w_slice ?_
        | with_reducible refine w_chain ?_
        | with_reducible refine w_isN ?_
        | with_reducible refine w_notN ?_)
    | (with_reducible show WA _ _ _ _ _; first
        | with_reducible refine wa_cons ?_
        | with_reducible refine wa_nil ?_)
    | (with_reducible show WR _ _ _ _ _ _; first
        | with_reducible refine wr_bn ?_
        | with_reducible refine wr_bh ?_
        | (with_reducible show WR _ (rIx _) _ _ _ _; with_reducible refine wr_ix (by with_unfolding_all first | exact SeqD.tup | exact SeqD.lst | exact SeqD.cell updC_same | exact SeqD.cell (by assumption)) (by with_unfolding_all exact rfl) ?_)
        | with_reducible refine wr_intB ?_
        | with_reducible refine wr_ip ?_
        | with_reducible refine wr_int ?_
        | with_reducible refine wr_add ?_
        | (with_reducible show WR _ (rEqU _) _ _ _ _; with_reducible refine wr_eq (by with_unfolding_all exact rfl) ?_)
        | (with_reducible show WR _ (rNeU _) _ _ _ _; with_reducible refine wr_ne (by with_unfolding_all exact rfl) ?_)
        | (with_reducible show WR _ (rI _ _) _ _ _ _; with_reducible refine wr_mod (by first | assumption | decide | omega) ?_)
        | (with_reducible show WR _ (rI _ _) _ _ _ _; with_reducible refine wr_fdiv (by first | assumption | decide | omega) (by first | assumption | decide | omega) ?_)
        | (with_reducible show WR _ (rI _ _) _ _ _ _; with_reducible refine wr_mul (by omega) ?_)
        | with_reducible refine wr_pow (by decide) ?_
        | with_reducible refine wr_isN ?_
        | with_reducible refine wr_notN ?_)
    | (with_reducible show WS _ _ _ _ _; first
        | with_reducible refine ws_seq ?_
        | with_reducible refine ws_set ?_
        | with_reducible refine ws_ret ?_
        | with_reducible refine ws_if ?_
        | with_reducible refine ws_drop ?_
        | with_reducible refine ws_retN ?_
        | with_reducible refine ws_next ?_
        | with_reducible refine ws_break ?_
        | with_reducible refine ws_cont ?_
        | with_reducible refine ws_asg ?_
        | with_reducible refine ws_aug (by with_unfolding_all exact rfl) ?_)
    | (with_reducible show WT _ _ _ _ _; first
        | with_reducible refine wt_test ?_
        | with_reducible refine wt_B ?_
        | with_reducible refine wt_truth ?_
        | with_reducible refine wt_and ?_
        | with_reducible refine wt_or ?_
        | with_reducible refine wt_not ?_
        | with_reducible refine wt_yes ?_)
    | (with_reducible show WC _ _ _ _ _; first
        | (with_reducible show WC _ (rLenU _) _ _ _; with_reducible refine wc_len (by with_unfolding_all first | exact SeqD.tup | exact SeqD.lst | exact SeqD.cell updC_same | exact SeqD.cell (by assumption)) ?_)
        | with_reducible refine wc_int ?_
        | (with_reducible show WC _ (rIsiU _) _ _ _; with_reducible refine wc_isi2 (by with_unfolding_all exact rfl) (by with_reducible first | exact kit_NoneType_list | exact kit_NoneType_tuple | exact kit_NoneType_bool | exact kit_NoneType_str | exact kit_NoneType_int | exact kit_NoneType_dict | exact kit_bool_list | exact kit_bool_tuple | exact kit_bool_bool | exact kit_bool_str | exact kit_bool_int | exact kit_bool_dict | exact kit_int_list | exact kit_int_tuple | exact kit_int_bool | exact kit_int_str | exact kit_int_int | exact kit_int_dict | exact kit_str_list | exact kit_str_tuple | exact kit_str_bool | exact kit_str_str | exact kit_str_int | exact kit_str_dict | exact kit_tuple_list | exact kit_tuple_tuple | exact kit_tuple_bool | exact kit_tuple_str | exact kit_tuple_int | exact kit_tuple_dict | exact kit_list_list | exact kit_list_tuple | exact kit_list_bool | exact kit_list_str | exact kit_list_int | exact kit_list_dict | exact kit_dict_list | exact kit_dict_tuple | exact kit_dict_bool | exact kit_dict_str | exact kit_dict_int | exact kit_dict_dict) (by with_reducible first | exact kit_NoneType_list | exact kit_NoneType_tuple | exact kit_NoneType_bool | exact kit_NoneType_str | exact kit_NoneType_int | exact kit_NoneType_dict | exact kit_bool_list | exact kit_bool_tuple | exact kit_bool_bool | exact kit_bool_str | exact kit_bool_int | exact kit_bool_dict | exact kit_int_list | exact kit_int_tuple | exact kit_int_bool | exact kit_int_str | exact kit_int_int | exact kit_int_dict | exact kit_str_list | exact kit_str_tuple | exact kit_str_bool | exact kit_str_str | exact kit_str_int | exact kit_str_dict | exact kit_tuple_list | exact kit_tuple_tuple | exact kit_tuple_bool | exact kit_tuple_str | exact kit_tuple_int | exact kit_tuple_dict | exact kit_list_list | exact kit_list_tuple | exact kit_list_bool | exact kit_list_str | exact kit_list_int | exact kit_list_dict | exact kit_dict_list | exact kit_dict_tuple | exact kit_dict_bool | exact kit_dict_str | exact kit_dict_int | exact kit_dict_dict) ?_)
        | (with_reducible show WC _ (rIsiU _) _ _ _; with_reducible refine wc_isi (by with_unfolding_all exact rfl) (by with_reducible first | exact kit_NoneType_list | exact kit_NoneType_tuple | exact kit_NoneType_bool | exact kit_NoneType_str | exact kit_NoneType_int | exact kit_NoneType_dict | exact kit_bool_list | exact kit_bool_tuple | exact kit_bool_bool | exact kit_bool_str | exact kit_bool_int | exact kit_bool_dict | exact kit_int_list | exact kit_int_tuple | exact kit_int_bool | exact kit_int_str | exact kit_int_int | exact kit_int_dict | exact kit_str_list | exact kit_str_tuple | exact kit_str_bool | exact kit_str_str | exact kit_str_int | exact kit_str_dict | exact kit_tuple_list | exact kit_tuple_tuple | exact kit_tuple_bool | exact kit_tuple_str | exact kit_tuple_int | exact kit_tuple_dict | exact kit_list_list | exact kit_list_tuple | exact kit_list_bool | exact kit_list_str | exact kit_list_int | exact kit_list_dict | exact kit_dict_list | exact kit_dict_tuple | exact kit_dict_bool | exact kit_dict_str | exact kit_dict_int | exact kit_dict_dict) ?_)
        | with_reducible refine wc_abs ?_
        | with_reducible refine wc_max2 ?_
        | with_reducible refine wc_min2 ?_)
    | (with_reducible show WG _ _ _ _ _ _; first
        | with_reducible refine wg_name ?_
        | with_reducible refine wg_sub ?_)
    | (with_reducible show WU _ _ _ _ _; first
        | with_reducible refine wu_int ?_)
    | (with_reducible show WO _ _ _ _ _; first
        | with_reducible refine wo_none ?_
        | with_reducible refine wo_some ?_)
    | (with_reducible show WSl _ _ _ _ _ _ _; first
        | with_reducible refine wsl_tupE (by with_unfolding_all exact rfl) ?_
        | with_reducible refine wsl_lstE (by with_unfolding_all exact rfl) ?_)
    | (with_reducible show WSet _ _ _ _ _ _ _; first
        | with_reducible refine wset_list (by first | exact updC_same | assumption) (by with_unfolding_all exact rfl) ?_)
    | with_reducible refine ex_bl ?_
    | with_reducible refine tru_bl ?_
    | (with_reducible show ∃ _, _ ∧ _; with_reducible refine Exists.intro _ (And.intro (by with_unfolding_all first | exact rfl | exact SeqF.tup | exact SeqF.lst) ?_))
    | ((first | with_reducible show _ ≤ _ ∧ _ | with_reducible show _ < _ ∧ _); with_reducible refine And.intro (by with_unfolding_all exact Nat.le_of_ble_eq_true rfl) ?_)
    | with_reducible refine nx_show ?_
    | with_reducible refine rt_show ?_
    | with_reducible refine ct_show ?_
    | with_reducible refine bk_show ?_))
/-! a test's two ways; one that cannot be goes away -/
set_option hygiene false in
local macro_rules
  | `(tactic| kwd_less) => `(tactic| (refine ite_two (fun hc => ?_) (fun hc => ?_) <;> first | (exact absurd hc (by with_unfolding_all exact Bool.false_ne_true)) | (exact absurd hc (by with_unfolding_all exact Bool.noConfusion)) | (exact absurd hc (by decide +kernel)) | skip))
section
variable {P : Program} {w : World} {K : PySem.W.Frag} {mg : Str → Option Value} {base : Heap}
/-! ### layout: fitted -/
def fFitted (n : Nat) : SpD := fun ds C P => ∃ (b : Box) (o : List (Int × Int)) (x : D), b.lev ≤ n ∧ b.all.length ≤ 100000 ∧ ds = [encB b, x] ∧ DicD C x (encI o) ∧ ∀ a, C a = none → P (.ref a) (updC C a (.dic (encI (fitB o b))))
theorem dicD_upd {C : CH} {x : D} {ks : List (Int × D)} {a : Addr} {c : Cell} (h : DicD C x ks) (ha : C a = none) : DicD (updC C a c) x ks := by
  cases h with
  | dic => exact .dic
  | @cell b _ hc =>
    refine .cell ?_
    rw [updC_ne]
    · exact hc
    · intro z; subst z; rw [hc] at ha; cases ha
end
section
variable {P : Program} {w : World} {K : PySem.W.Frag} {mg : Str → Option Value} {base : Heap}
/-! ### the law's draws: whatever is drawn lies in its range -/
def drC (ns : List Int) (p q s : Int) : Cell := .lst [.lst (ns.map D.int), .int p, .int q, .int s]
def DrawC (c : Cell) : Prop := ∃ ns p q s, c = drC ns p q s ∧ 0 ≤ p
abbrev slaw_draw : Stmt := topS 29
theorem sclaw_draw : FnScope ["_law_script"] ["_law_script"] (defScope slaw_draw) := ⟨rfl, rfl, rfl, by decide +kernel, rfl, by decide +kernel, by decide +kernel⟩
def fDraw : SpS := fun ns C P => ∀ a c, C a = none → DrawC c → P (.ref a) (updC C a c)
theorem ok_law_draw (Df : DefAt K mg "_law_draw" slaw_draw ["_law_script"]) (T : Top mg) : Has P w K mg base 1 "_law_draw" ["_law_script"] (spScr K fDraw) := by
  refine has_ofScr Df sclaw_draw fun f cdv A outer s H E hr => ⟨_, 
    (pss_one (ps_ret (pe_lst (pa_cons (pe_callTy (call_lstK K) (by rfl) T.list bt_list (pa_cons (pv 0) pa_nil)) (pa_cons pe_int (pa_cons pe_int (pa_cons pe_int pa_nil))))))), fun B a ns C P hs k => ?_⟩
  kwd_rel
  refine w_lstC ?_
  kwd_rel
  refine wc_listScr hs ?_
  kwd_rel
  exact fun a ha => k a _ ha ⟨ns, 0, 0, 17, rfl, by decide⟩
abbrev slaw_next : Stmt := topS 30
theorem sclaw_next : FnScope ["_law_draw_here", "_law_many", "_law_found", "_law_cell"] ["_law_draw_here", "_law_many"] (defScope slaw_next) := ⟨rfl, rfl, rfl, by decide +kernel, rfl, by decide +kernel, by decide +kernel⟩
def fNext : SpD := fun ds C P => ∃ (d : Addr) (m : Int) (c : Cell), ds = [.ref d, .int m] ∧ 0 < m ∧ m < 1000000000 ∧ C d = some c ∧ DrawC c ∧ ∀ v c', 0 ≤ v → v < m → DrawC c' → P (.int v) (updC C d c')
theorem ok_law_next (Df : DefAt K mg "_law_next" slaw_next ["_law_draw_here", "_law_many"]) (T : Top mg) : Has P w K mg base 1 "_law_next" ["_law_draw_here", "_law_many"] (spD fNext) := by
  refine has_of Df sclaw_next (fun ds C P ⟨_, _, _, h, _⟩ => by rw [h]; rfl) fun f cdv A outer s H E hr => ⟨_, 
    (pss_cons (ps_if (pt_cmpR op_gt (pe_ix (ix_seqK K) (pv 0) pe_int (fun _ _ => rfl)) pe_int (nomark _)) 
      (pss_cons (ps_nm 2 sclaw_next.nd (pe_op op_mod (pe_callTy call_intU (by rfl) T.int bt_int (pa_cons (pe_ix (ix_seqK K) (pv 0) pe_int (fun _ _ => rfl)) pa_nil)) (pv 1)))
      (pss_cons (ps_asg (pe_op op_fdiv (pe_ix (ix_seqK K) (pv 0) pe_int (fun _ _ => rfl)) (pv 1)) (pg_sub (pv 0) pe_int set_list))
      (pss_one (ps_ret (pv 2))))) pss_nil)
    (pss_cons (ps_if (pt_cmpR op_lt (pe_ix (ix_seqK K) (pv 0) pe_int (fun _ _ => rfl)) (pe_callB (call_lenK K) (by rfl) T.len bt_len (pa_cons (pe_ix (ix_seqK K) (pv 0) pe_int (fun _ _ => rfl)) pa_nil)) (nomark _)) 
      (pss_cons (ps_nm 3 sclaw_next.nd (pe_callB call_absN (by rfl) T.abs bt_abs (pa_cons (pe_ix (ix_seqK K) (pe_ix (ix_seqK K) (pv 0) pe_int (fun _ _ => rfl)) (pe_ix (ix_seqK K) (pv 0) pe_int (fun _ _ => rfl)) (fun _ _ => rfl)) pa_nil)))
      (pss_cons (ps_asg (pe_op (op_addK K) (pe_ix (ix_seqK K) (pv 0) pe_int (fun _ _ => rfl)) pe_int) (pg_sub (pv 0) pe_int set_list))
      (pss_cons (ps_if (pt_cmpR op_ge (pv 3) (pe_op op_pow pe_int pe_int) (nomark _)) 
        (pss_cons (ps_asg (pe_op op_fdiv (pv 3) (pv 1)) (pg_sub (pv 0) pe_int set_list))
        (pss_one (ps_ret (pe_op op_mod (pe_callTy call_intU (by rfl) T.int bt_int (pa_cons (pv 3) pa_nil)) (pv 1))))) pss_nil)
      (pss_one (ps_asg (pe_op op_mod (pe_callTy call_intU (by rfl) T.int bt_int (pa_cons (pe_op (op_addK K) (pe_op (op_addK K) (pe_op op_mul (pe_ix (ix_seqK K) (pv 0) pe_int (fun _ _ => rfl)) pe_int) (pv 3)) pe_int) pa_nil)) pe_int) (pg_sub (pv 0) pe_int set_list)))))) 
      (pss_one (ps_asg (pe_op op_mod (pe_callTy call_intU (by rfl) T.int bt_int (pa_cons (pe_op (op_addK K) (pe_op op_mul (pe_ix (ix_seqK K) (pv 0) pe_int (fun _ _ => rfl)) pe_int) pe_int) pa_nil)) pe_int) (pg_sub (pv 0) pe_int set_list))))
    (pss_one (ps_ret (pe_op op_mod (pe_op op_fdiv (pe_callTy call_intU (by rfl) T.int bt_int (pa_cons (pe_op op_mod (pe_op op_mul (pe_ix (ix_seqK K) (pv 0) pe_int (fun _ _ => rfl)) pe_int) pe_int) pa_nil)) pe_int) (pv 1)))))), fun B ds C P ⟨d, m, c, hd, m0, m1, hc, ⟨ns, p, q, s0, e, hp⟩, k⟩ => ?_⟩
  subst hd e
  unfold drC at hc
  kwd_rel
  kwd_less
  · kwd_rel
    exact k _ _ (Int.emod_nonneg _ (by omega)) (Int.emod_lt_of_pos _ m0) ⟨ns, p, q / m, s0, rfl, hp⟩
  · kwd_rel
    kwd_less
    · have hlt : p < (ns.length : Int) := by
        have e := of_decide_eq_true hc
        rw [List.length_map] at e
        exact e
      obtain ⟨z, hz, hat⟩ := atI_int hp hlt
      kwd_rel
      refine wr_ix .lst hat ?_
      kwd_rel
      kwd_less
      · kwd_rel
        show P _ _
        rw [updC_updC]
        exact k _ _ (Int.emod_nonneg _ (by omega)) (Int.emod_lt_of_pos _ m0) ⟨ns, p + 1, _, s0, rfl, by omega⟩
      · kwd_rel
        show P _ _
        rw [updC_updC]
        exact k _ _ (Int.emod_nonneg _ (by omega)) (Int.emod_lt_of_pos _ m0) ⟨ns, p + 1, q, _, rfl, by omega⟩
    · kwd_rel
      exact k _ _ (Int.emod_nonneg _ (by omega)) (Int.emod_lt_of_pos _ m0) ⟨ns, p, q, _, rfl, hp⟩
end
section
variable {P : Program} {w : World} {K : PySem.W.Frag} {mg : Str → Option Value} {base : Heap}
/-! ### the law's own comparison: the same data are the same -/
inductive GoodD : Nat → D → Prop
  | non {n : Nat} : GoodD n .non
  | bl {n : Nat} {b : Bool} : GoodD n (.bl b)
  | int {n : Nat} {i : Int} : GoodD n (.int i)
  | str {n : Nat} {x : Str} : GoodD n (.str x)
  | tup {n : Nat} {l : List D} : l.length ≤ 100000 → (∀ x ∈ l, GoodD n x) → GoodD (n + 1) (.tup l)
  | lst {n : Nat} {l : List D} : l.length ≤ 100000 → (∀ x ∈ l, GoodD n x) → GoodD (n + 1) (.lst l)
theorem GoodD.mono {n m : Nat} (h : n ≤ m) {x : D} (g : GoodD n x) : GoodD m x := by
  induction g generalizing m with
  | non => exact .non
  | bl => exact .bl
  | int => exact .int
  | str => exact .str
  | tup hl _ ih =>
    obtain ⟨m, rfl⟩ : ∃ k, m = k + 1 := ⟨m - 1, by omega⟩
    exact .tup hl fun x hx => ih x hx (by omega)
  | lst hl _ ih =>
    obtain ⟨m, rfl⟩ : ∃ k, m = k + 1 := ⟨m - 1, by omega⟩
    exact .lst hl fun x hx => ih x hx (by omega)
theorem goodB : ∀ (n : Nat) (b : Box), b.lev ≤ n → b.all.length ≤ 100000 → GoodD (2 * n) (encB b)
  | 0, b, h, _ => by cases b <;> simp [Box.lev] at h
  | n + 1, .block m k, _, _ => by
    rw [encB, Nat.mul_succ]
    refine .tup (by simp) fun x hx => ?_
    simp at hx
    rcases hx with rfl | rfl | rfl
    · exact .str
    · exact .int
    · exact .int
  | n + 1, .scroller m k ps, h, hz => by
    rw [encB, Nat.mul_succ]
    refine .tup (by simp) fun x hx => ?_
    simp at hx
    rcases hx with rfl | rfl | rfl | rfl
    · exact .str
    · exact .int
    · exact .int
    · refine .tup (by rw [encBs_length]; exact Nat.le_trans (parts_len (b := .scroller m k ps) (p := .scroller m k ps) (by rw [all_eq]; simp)) hz) fun x hx => ?_
      rw [encBs_map] at hx
      obtain ⟨p, hp, rfl⟩ := List.mem_map.mp hx
      exact goodB n p (lev_parts h hp) (Nat.le_trans (all_len_sub (b := .scroller m k ps) hp) hz)
theorem mem_lev : ∀ (n : Nat) (b p : Box), b.lev ≤ n → p ∈ b.all → p.lev ≤ n ∧ p.all.length ≤ b.all.length
  | 0, b, p, h, _ => by cases b <;> simp [Box.lev] at h
  | n + 1, b, p, h, hp => by
    rw [all_eq] at hp
    rcases List.mem_cons.mp hp with rfl | hp
    · exact ⟨h, Nat.le_refl _⟩
    · rw [alls_flat] at hp
      obtain ⟨q, hq, hp⟩ := List.mem_flatMap.mp hp
      obtain ⟨a, c⟩ := mem_lev n q p (lev_parts h hq) hp
      have := all_len_sub hq
      exact ⟨by omega, by omega⟩
theorem goodBs {n : Nat} {b : Box} (h : b.lev ≤ n) (hz : b.all.length ≤ 100000) : GoodD (2 * n + 1) (.lst (encBs b.all)) := by
  refine .lst (by rw [encBs_length]; exact hz) fun x hx => ?_
  rw [encBs_map] at hx
  obtain ⟨p, hp, rfl⟩ := List.mem_map.mp hx
  obtain ⟨a, c⟩ := mem_lev n b p h hp
  exact goodB n p a (by omega)
theorem findB_mem : ∀ {l : List Box} {i : Int} {p : Box}, findB l i = some p → p ∈ l
  | [], _, _, h => by cases h
  | q :: r, i, p, h => by
    rw [findB] at h
    split at h
    · cases h; simp
    · exact List.mem_cons_of_mem _ (findB_mem h)
theorem goodO {n : Nat} {b : Box} {i : Int} (h : b.lev ≤ n) (hz : b.all.length ≤ 100000) : GoodD (2 * n) (encO (findB b.all i)) := by
  cases e : findB b.all i with
  | none => exact .non
  | some p =>
    obtain ⟨a, c⟩ := mem_lev n b p h (findB_mem e)
    exact goodB n p a (by omega)
abbrev slaw_same : Stmt := topS 31
theorem sclaw_same : FnScope ["_law_actual", "_law_due_here", "_law_k"] ["_law_actual", "_law_due_here"] (defScope slaw_same) := ⟨rfl, rfl, rfl, by decide +kernel, rfl, by decide +kernel, by decide +kernel⟩
def fSame (n : Nat) : SpD := fun ds C P => ∃ (x : D) (m : Nat), m < n ∧ GoodD m x ∧ ds = [x, x] ∧ P (.bl true) C
theorem ok_law_same (Df : DefAt K mg "_law_same" slaw_same ["_law_actual", "_law_due_here"]) (T : Top mg) : ∀ n, Has P w K mg base (n+1) "_law_same" ["_law_actual", "_law_due_here"] (spD (fSame n)) := by
  intro n
  induction n with
  | zero => exact has_of Df sclaw_same (fun ds C P ⟨_, _, _, _, h, _⟩ => by rw [h]; rfl) fun f cdv A outer s H E hr => ⟨_, pss_never, fun B ds C P ⟨x, m, hm, _⟩ => ws_never (Nat.not_lt_zero _ hm)⟩
  | succ n h_law_same =>
    refine has_of Df sclaw_same (fun ds C P ⟨_, _, _, _, h, _⟩ => by rw [h]; rfl) fun f cdv A outer s H E hr => ⟨_, 
    (pss_cons (ps_if (pt_truK K (pe_callB (call_isiK K) (by rfl) T.isinstance bt_isinstance (pa_cons (pv 1) (pa_cons (pe_tup (pa_cons (pe_bltn (v := .ty "list") (by rfl) T.list bt_list rfl) (pa_cons (pe_bltn (v := .ty "tuple") (by rfl) T.tuple bt_tuple rfl) pa_nil))) pa_nil)))) 
      (pss_cons (ps_if (PW.pt (pw_or (pt_cmpR (op_neK K hr) (pe_callB (call_isiK K) (by rfl) T.isinstance bt_isinstance (pa_cons (pv 1) (pa_cons (pe_bltn (v := .ty "list") (by rfl) T.list bt_list rfl) pa_nil))) (pe_callB (call_isiK K) (by rfl) T.isinstance bt_isinstance (pa_cons (pv 0) (pa_cons (pe_bltn (v := .ty "list") (by rfl) T.list bt_list rfl) pa_nil))) (nomark _)) (pw_or1 (pt_cmpR (op_neK K hr) (pe_callB (call_isiK K) (by rfl) T.isinstance bt_isinstance (pa_cons (pv 1) (pa_cons (pe_bltn (v := .ty "tuple") (by rfl) T.tuple bt_tuple rfl) pa_nil))) (pe_callB (call_isiK K) (by rfl) T.isinstance bt_isinstance (pa_cons (pv 0) (pa_cons (pe_bltn (v := .ty "tuple") (by rfl) T.tuple bt_tuple rfl) pa_nil))) (nomark _))))) 
        (pss_one (ps_ret pe_bl)) pss_nil)
      (pss_cons (ps_if (pt_cmpR (op_neK K hr) (pe_callB (call_lenK K) (by rfl) T.len bt_len (pa_cons (pv 0) pa_nil)) (pe_callB (call_lenK K) (by rfl) T.len bt_len (pa_cons (pv 1) pa_nil)) (nomark _)) 
        (pss_one (ps_ret pe_bl)) pss_nil)
      (pss_one (ps_ret (pe_callB (call_allK K) (by rfl) T.all bt_all (pa_cons (pe_lc (own := [("_law_k", 2)]) rfl sclaw_same.nd (pi_range1 (by rfl) T.range (pa_cons (pe_callB (call_lenK K) (by rfl) T.len bt_len (pa_cons (pv 1) pa_nil)) pa_nil)) (blkOk_by (N := ["_law_actual", "_law_due_here", "_law_k"]) (sc := defScope slaw_same) (by decide +kernel)) (fun _ _ _ _ _ => pg_nm 2 sclaw_same.nd) (fun _ _ _ _ _ => pts_nil) (fun _ _ _ _ _ => (pe_def h_law_same (hr.mono (by omega)) (pa_cons (pe_ix (ix_seqK K) (pv 0) (pv 2) (fun _ _ => rfl)) (pa_cons (pe_ix (ix_seqK K) (pv 1) (pv 2) (fun _ _ => rfl)) pa_nil))))) pa_nil)))))) pss_nil)
    (pss_cons (ps_if (pt_cmpR op_isN (pv 1) pe_non (nomark _)) 
      (pss_one (ps_ret (pe_cmpR op_isN (pv 0) pe_non (nomark _)))) pss_nil)
    (pss_cons (ps_if (pt_cmpR (op_neK K hr) (pe_callB (call_isiK K) (by rfl) T.isinstance bt_isinstance (pa_cons (pv 1) (pa_cons (pe_bltn (v := .ty "bool") (by rfl) T.bool bt_bool rfl) pa_nil))) (pe_callB (call_isiK K) (by rfl) T.isinstance bt_isinstance (pa_cons (pv 0) (pa_cons (pe_bltn (v := .ty "bool") (by rfl) T.bool bt_bool rfl) pa_nil))) (nomark _)) 
      (pss_one (ps_ret pe_bl)) pss_nil)
    (pss_cons (ps_if (pt_truK K (pe_callB (call_isiK K) (by rfl) T.isinstance bt_isinstance (pa_cons (pv 1) (pa_cons (pe_bltn (v := .ty "str") (by rfl) T.str bt_str rfl) pa_nil)))) 
      (pss_one (ps_ret (pe_and (pe_callB (call_isiK K) (by rfl) T.isinstance bt_isinstance (pa_cons (pv 0) (pa_cons (pe_bltn (v := .ty "str") (by rfl) T.str bt_str rfl) pa_nil))) (pe_one (pe_cmpR (op_eqK K hr) (pv 0) (pv 1) (nomark _)))))) pss_nil)
    (pss_one (ps_ret (pe_and (pe_callB (call_isiK K) (by rfl) T.isinstance bt_isinstance (pa_cons (pv 0) (pa_cons (pe_bltn (v := .ty "int") (by rfl) T.int bt_int rfl) pa_nil))) (pe_one (pe_cmpR (op_eqK K hr) (pv 0) (pv 1) (nomark _)))))))))), fun B ds C P ⟨x, m, hm, g, hd, k⟩ => ?_⟩
    subst hd
    have items : ∀ l : List D, l.length ≤ 100000 → (∀ y ∈ l, GoodD (m - 1) y) → 0 < m → ∀ i : Nat, i < l.length → ∃ z, atI l (0 + (i : Int)) = some z ∧ GoodD (m - 1) z := by
      intro l hl hg h0 i hi
      obtain ⟨z, z1, _, z2⟩ := atI_some (ds := l) (i := 0 + (i : Int)) (by omega) (by omega)
      exact ⟨z, z2, hg z z1⟩
    cases g with
    | non =>
      kwd_rel
      kwd_less
      kwd_rel
      kwd_less
      kwd_rel
      exact k
    | bl =>
      kwd_rel
      kwd_less
      kwd_rel
      kwd_less
      kwd_rel
      kwd_less
      kwd_rel
      kwd_less
      kwd_rel
      kwd_less
      kwd_rel
      simpa using k
    | int =>
      kwd_rel
      kwd_less
      kwd_rel
      kwd_less
      kwd_rel
      kwd_less
      kwd_rel
      kwd_less
      kwd_rel
      kwd_less
      kwd_rel
      simpa using k
    | str =>
      kwd_rel
      kwd_less
      kwd_rel
      kwd_less
      kwd_rel
      kwd_less
      kwd_rel
      kwd_less
      kwd_rel
      kwd_less
      kwd_rel
      simpa using k
    | @tup m l h1 h2 =>
      kwd_rel
      kwd_less
      kwd_rel
      kwd_less
      kwd_rel
      kwd_less
      kwd_rel
      refine ite_two (fun hc => ?_) (fun hc => ?_)
      · simp at hc
      · kwd_rel
        refine w_lcMap (fun _ => .bl true) (by simp) (wi_rng1 ?_)
        kwd_rel
        refine ⟨by omega, by omega, by rw [rngD_len]; omega, fun x hx => ?_, ?_⟩
        · obtain ⟨i, hi, rfl⟩ := rngD_mem hx
          obtain ⟨z, z1, z2⟩ := items l h1 h2 (by omega) i (by omega)
          kwd_rel
          refine wr_ix .tup z1 ?_
          kwd_rel
          refine wr_ix .tup z1 ?_
          kwd_rel
          exact ⟨z, m, by omega, z2, rfl, rfl, rfl⟩
        · kwd_rel
          refine wc_all (bs := List.replicate l.length true) (by rw [rngD_const]; simp; exact .lst) ?_
          simpa using k
    | @lst m l h1 h2 =>
      kwd_rel
      kwd_less
      kwd_rel
      kwd_less
      kwd_rel
      kwd_less
      kwd_rel
      refine ite_two (fun hc => ?_) (fun hc => ?_)
      · simp at hc
      · kwd_rel
        refine w_lcMap (fun _ => .bl true) (by simp) (wi_rng1 ?_)
        kwd_rel
        refine ⟨by omega, by omega, by rw [rngD_len]; omega, fun x hx => ?_, ?_⟩
        · obtain ⟨i, hi, rfl⟩ := rngD_mem hx
          obtain ⟨z, z1, z2⟩ := items l h1 h2 (by omega) i (by omega)
          kwd_rel
          refine wr_ix .lst z1 ?_
          kwd_rel
          refine wr_ix .lst z1 ?_
          kwd_rel
          exact ⟨z, m, by omega, z2, rfl, rfl, rfl⟩
        · kwd_rel
          refine wc_all (bs := List.replicate l.length true) (by rw [rngD_const]; simp; exact .lst) ?_
          simpa using k
end
section
variable {P : Program} {w : World} {K : PySem.W.Frag} {mg : Str → Option Value} {base : Heap}
def IsDraw (C : CH) (d : Addr) : Prop := ∃ c, C d = some c ∧ DrawC c
theorem next_call {C : CH} {P : D → CH → Prop} {d : Addr} {m : Int} (h0 : 0 < m) (h1 : m < 1000000000) (h : IsDraw C d) (k : ∀ v C', 0 ≤ v → v < m → IsDraw C' d → (∀ a, a ≠ d → C' a = C a) → P (.int v) C') : fNext [.ref d, .int m] C P := by
  obtain ⟨c, h2, h3⟩ := h
  exact ⟨d, m, c, rfl, h0, h1, h2, h3, fun v c' a b e => k v _ a b ⟨c', updC_same, e⟩ fun x hx => updC_ne hx⟩
theorem isDraw_upd {C : CH} {d l : Addr} {c : Cell} (h : IsDraw C d) (n : d ≠ l) : IsDraw (updC C l c) d := by
  obtain ⟨c', h1, h2⟩ := h
  exact ⟨c', by rw [updC_ne n]; exact h1, h2⟩
theorem rng_cons {lo : Int} {n i : Nat} {x : D} {xs : List D} (h : x :: xs = (rngD lo n).drop i) : i < n ∧ x = .int (lo + (i : Nat)) ∧ xs = (rngD lo n).drop (i + 1) := by
  by_cases hi : i < n
  · rw [rngD_drop hi] at h
    injection h with h1 h2
    exact ⟨hi, h1, h2⟩
  · rw [List.drop_eq_nil_of_le (by rw [rngD_len]; omega)] at h
    cases h
theorem rng_nil {lo : Int} {n i : Nat} (h : [] = (rngD lo n).drop i) : n ≤ i := by
  have := congrArg List.length h
  rw [List.length_drop, rngD_len] at this
  simp at this
  omega
end
section
variable {P : Program} {w : World} {K : PySem.W.Frag} {mg : Str → Option Value} {base : Heap}
/-! ### the law's own readers of boxes -/
abbrev slaw_flat : Stmt := topS 34
theorem sclaw_flat : FnScope ["_law_box_here", "_law_found", "_law_part"] ["_law_box_here"] (defScope slaw_flat) := ⟨rfl, rfl, rfl, by decide +kernel, rfl, by decide +kernel, by decide +kernel⟩
theorem ok_law_flat (Df : DefAt K mg "_law_flat" slaw_flat ["_law_box_here"]) (T : Top mg) : ∀ n, Has P w K mg base (n+1) "_law_flat" ["_law_box_here"] (spD (fAllB n)) := by
  intro n
  induction n with
  | zero =>
    refine has_of Df sclaw_flat (fun ds C P ⟨b, _, _, h, _⟩ => by rw [h]; rfl) fun f cdv A outer s H E hr => ⟨_, pss_never, fun B ds C P ⟨b, hl, _⟩ => ws_never ?_⟩
    cases b <;> simp [Box.lev] at hl
  | succ n h_law_flat =>
    refine has_of Df sclaw_flat (fun ds C P ⟨b, _, _, h, _⟩ => by rw [h]; rfl) fun f cdv A outer s H E hr => ⟨_, 
    (pss_cons (ps_nm 1 sclaw_flat.nd (pe_lst (pa_cons (pv 0) pa_nil)))
    (pss_cons (ps_for PassesOwn.never rfl (pi_seqK K (pe_ifExp (pt_cmpR (op_eqK K hr) (pe_ix (ix_seqK K) (pv 0) pe_int (fun _ _ => rfl)) pe_str (nomark _)) (pe_ix (ix_seqK K) (pv 0) pe_int (fun _ _ => rfl)) (pe_tup pa_nil))) (pg_nm 2 sclaw_flat.nd) 
      (pss_one (ps_nm 1 sclaw_flat.nd (pe_op (op_addK K) (pv 1) (pe_def h_law_flat (hr.mono (by omega)) (pa_cons (pv 2) pa_nil))))))
    (pss_one (ps_ret (pv 1))))), fun B ds C P ⟨b, hl, hz, hd, k⟩ => ?_⟩
    subst hd
    kwd_rel
    refine w_lst ?_
    kwd_rel
    refine ws_for (fun rest E1 C1 => ∃ pre post x, b.parts = pre ++ post ∧ rest = encBs post ∧ E1 = [some (encB b), some (.lst (encBs (b :: alls pre))), x] ∧ C1 = C) (wi_seq ?_) ?_ ?_
    · cases b with
      | block m h =>
        kwd_rel
        kwd_less
        kwd_rel
        exact ⟨[], [], none, rfl, rfl, rfl, rfl⟩
      | scroller m h ps =>
        kwd_rel
        kwd_less
        kwd_rel
        exact ⟨[], ps, none, rfl, rfl, rfl, rfl⟩
    · rintro E1 C1 ⟨pre, post, x, h1, h2, rfl, rfl⟩
      have e := encBs_nil h2
      subst e
      kwd_rel
      rw [List.append_nil] at h1
      rw [← h1, ← all_eq]
      exact k
    · rintro x xs E1 C1 ⟨pre, post, y, h1, h2, rfl, rfl⟩
      obtain ⟨p, q, rfl, rfl, rfl⟩ := encBs_cons h2
      have hp := all_len_part h1
      kwd_rel
      refine ⟨p, lev_parts hl (by rw [h1]; simp), by omega, rfl, ?_⟩
      refine wr_addL .lst .lst (by rw [encBs_length, encBs_length]; omega) ?_
      kwd_rel
      have e : encBs (b :: alls pre) ++ encBs p.all = encBs (b :: alls (pre ++ [p])) := by
        rw [← encBs_append, alls_append]
        simp [alls]
      refine ⟨pre ++ [p], q, some (encB p), by simp [h1], rfl, ?_, rfl⟩
      rw [← e]
      rfl
end
section
variable {P : Program} {w : World} {K : PySem.W.Frag} {mg : Str → Option Value} {base : Heap}
abbrev slaw_box : Stmt := topS 35
theorem sclaw_box : FnScope ["_law_document_here", "_law_number", "_law_box_here"] ["_law_document_here", "_law_number"] (defScope slaw_box) := ⟨rfl, rfl, rfl, by decide +kernel, rfl, by decide +kernel, by decide +kernel⟩
theorem ok_law_box {n k : Nat} (Df : DefAt K mg "_law_box" slaw_box ["_law_document_here", "_law_number"]) (T : Top mg) (h_law_flat : Has P w K mg base k "_law_flat" ["_law_box_here"] (spD (fAllB n))) : Has P w K mg base (k+1) "_law_box" ["_law_document_here", "_law_number"] (spD (fFind n)) := by
  refine has_of Df sclaw_box (fun ds C P ⟨b, i, _, _, h, _⟩ => by rw [h]; rfl) fun f cdv A outer s H E hr => ⟨_, 
    (pss_cons (ps_for PassesOwn.never rfl (pi_seqK K (pe_def h_law_flat (hr.mono (by omega)) (pa_cons (pv 0) pa_nil))) (pg_nm 2 sclaw_box.nd) 
      (pss_one (ps_if (pt_cmpR (op_eqK K hr) (pe_ix (ix_seqK K) (pv 2) pe_int (fun _ _ => rfl)) (pv 1) (nomark _)) 
        (pss_one (ps_ret (pv 2))) pss_nil)))
    (pss_one (ps_ret pe_non))), fun B ds C P ⟨b, i, hl, hz, hd, k⟩ => ?_⟩
  subst hd
  kwd_rel
  refine ws_for (fun rest E1 C1 => ∃ post x, findB b.all i = findB post i ∧ rest = encBs post ∧ E1 = [some (encB b), some (.int i), x] ∧ C1 = C) (wi_seq ?_) ?_ ?_
  · kwd_rel
    refine ⟨b, hl, hz, rfl, ?_⟩
    kwd_rel
    exact ⟨b.all, none, rfl, rfl, rfl, rfl⟩
  · rintro E1 C1 ⟨post, x, h1, h2, rfl, rfl⟩
    have e := encBs_nil h2
    subst e
    kwd_rel
    rw [h1] at k
    exact k
  · rintro x xs E1 C1 ⟨post, y, h1, h2, rfl, rfl⟩
    obtain ⟨p, q, rfl, rfl, rfl⟩ := encBs_cons h2
    kwd_rel
    kwd_less
    · kwd_rel
      have e : p.num = i := of_decide_eq_true hc
      rw [h1, findB, if_pos e] at k
      exact k
    · kwd_rel
      have e : ¬ p.num = i := of_decide_eq_false hc
      rw [findB, if_neg e] at h1
      exact ⟨q, _, h1, rfl, rfl, rfl⟩
end
section
variable {P : Program} {w : World} {K : PySem.W.Frag} {mg : Str → Option Value} {base : Heap}
/-! ### the law's scrollers, ranges, offsets that fit -/
abbrev slaw_scrollers : Stmt := topS 36
theorem sclaw_scrollers : FnScope ["_law_document_here", "_law_box_here"] ["_law_document_here"] (defScope slaw_scrollers) := ⟨rfl, rfl, rfl, by decide +kernel, rfl, by decide +kernel, by decide +kernel⟩
theorem ok_law_scrollers {n k : Nat} (Df : DefAt K mg "_law_scrollers" slaw_scrollers ["_law_document_here"]) (T : Top mg) (h_law_flat : Has P w K mg base k "_law_flat" ["_law_box_here"] (spD (fAllB n))) : Has P w K mg base (k+1) "_law_scrollers" ["_law_document_here"] (spD (fScrs n)) := by
  refine has_of Df sclaw_scrollers (fun ds C P ⟨b, _, _, h, _⟩ => by rw [h]; rfl) fun f cdv A outer s H E hr => ⟨_, 
    (pss_one (ps_ret (pe_lc (own := [("_law_box_here", 1)]) rfl sclaw_scrollers.nd (pi_seqK K (pe_def h_law_flat (hr.mono (by omega)) (pa_cons (pv 0) pa_nil))) (blkOk_by (N := ["_law_document_here", "_law_box_here"]) (sc := defScope slaw_scrollers) (by decide +kernel)) (fun _ _ _ _ _ => pg_nm 1 sclaw_scrollers.nd) (fun _ _ _ _ _ => (pts_one (pt_cmpR (op_eqK K hr) (pe_ix (ix_seqK K) (pv 1) pe_int (fun _ _ => rfl)) pe_str (nomark _)))) (fun _ _ _ _ _ => (pv 1))))), fun B ds C P ⟨b, hl, hz, hd, k⟩ => ?_⟩
  subst hd
  kwd_rel
  refine w_lcFilter id isSD (by simp) (wi_seq ?_)
  kwd_rel
  refine ⟨b, hl, hz, rfl, ?_⟩
  kwd_rel
  refine ⟨by rw [encBs_length]; omega, fun x hx => ?_, fun x hx hb => ?_, ?_⟩
  · obtain ⟨z, hz, rfl⟩ := encBs_mem hx
    cases z
    · kwd_rel
      exact ⟨rfl, rfl⟩
    · kwd_rel
      exact ⟨rfl, rfl⟩
  · kwd_rel
    exact ⟨rfl, rfl⟩
  · rw [List.map_id, encBs_filter]
    exact k
abbrev slaw_range : Stmt := topS 37
theorem sclaw_range : FnScope ["_law_box_here", "_law_part"] ["_law_box_here"] (defScope slaw_range) := ⟨rfl, rfl, rfl, by decide +kernel, rfl, by decide +kernel, by decide +kernel⟩
theorem ok_law_range {k : Nat} (Df : DefAt K mg "_law_range" slaw_range ["_law_box_here"]) (T : Top mg) : Has P w K mg base (k+1) "_law_range" ["_law_box_here"] (spD fRange) := by
  refine has_of Df sclaw_range (fun ds C P ⟨b, _, _, h, _⟩ => by rw [h]; rfl) fun f cdv A outer s H E hr => ⟨_, 
    (pss_one (ps_ret (pe_callB (call_maxK K) (by rfl) T.max bt_max (pa_cons pe_int (pa_cons (pe_op op_sub (pe_callB (call_sumK K) (by rfl) T.sum bt_sum (pa_cons (pe_lc (own := [("_law_part", 1)]) rfl sclaw_range.nd (pi_seqK K (pe_ix (ix_seqK K) (pv 0) pe_int (fun _ _ => rfl))) (blkOk_by (N := ["_law_box_here", "_law_part"]) (sc := defScope slaw_range) (by decide +kernel)) (fun _ _ _ _ _ => pg_nm 1 sclaw_range.nd) (fun _ _ _ _ _ => pts_nil) (fun _ _ _ _ _ => (pe_ix (ix_seqK K) (pv 1) pe_int (fun _ _ => rfl)))) pa_nil)) (pe_ix (ix_seqK K) (pv 0) pe_int (fun _ _ => rfl))) pa_nil))))), fun B ds C P ⟨b, hb, hl, hd, k⟩ => ?_⟩
  subst hd
  cases b with
  | block _ _ => cases hb
  | scroller m h ps =>
    kwd_rel
    refine w_lcMap hgtD (by simp) (wi_seq ?_)
    kwd_rel
    refine ⟨by rw [encBs_length]; exact Nat.le_trans hl (by decide), fun x hx => ?_, ?_⟩
    · obtain ⟨z, hz, rfl⟩ := encBs_mem hx
      kwd_rel
      exact ⟨hgtD_b z, rfl⟩
    · rw [hgtD_enc]
      kwd_rel
      refine wc_sum .lst ?_
      kwd_rel
      exact k
theorem max_min {i r : Int} (h : 0 ≤ r) : max 0 (min i r) = min (max i 0) r := by omega
abbrev slaw_fit : Stmt := topS 38
theorem sclaw_fit : FnScope ["_law_document_here", "_law_offsets", "_law_found", "_law_box_here"] ["_law_document_here", "_law_offsets"] (defScope slaw_fit) := ⟨rfl, rfl, rfl, by decide +kernel, rfl, by decide +kernel, by decide +kernel⟩
theorem ok_law_fit {n k : Nat} (Df : DefAt K mg "_law_fit" slaw_fit ["_law_document_here", "_law_offsets"]) (T : Top mg) (h_law_scrollers : Has P w K mg base k "_law_scrollers" ["_law_document_here"] (spD (fScrs n))) (h_law_range : Has P w K mg base k "_law_range" ["_law_box_here"] (spD fRange)) : Has P w K mg base (k+1) "_law_fit" ["_law_document_here", "_law_offsets"] (spD (fFitted n)) := by
  refine has_of Df sclaw_fit (fun ds C P ⟨b, o, x, _, _, h, _⟩ => by rw [h]; rfl) fun f cdv A outer s H E hr => ⟨_, 
    (pss_cons (ps_nm 2 sclaw_fit.nd pe_dnewK)
    (pss_cons (ps_for PassesOwn.never rfl (pi_seqK K (pe_def h_law_scrollers (hr.mono (by omega)) (pa_cons (pv 0) pa_nil))) (pg_nm 3 sclaw_fit.nd) 
      (pss_one (ps_dput (hu_of hr) (pv 2) (pe_ix (ix_seqK K) (pv 3) pe_int (fun _ _ => rfl)) (pe_callB (call_maxK K) (by rfl) T.max bt_max (pa_cons pe_int (pa_cons (pe_callB (call_minK K) (by rfl) T.min bt_min (pa_cons (pe_dget2 (hu_of hr) (pv 1) (pe_ix (ix_seqK K) (pv 3) pe_int (fun _ _ => rfl)) pe_int ⟨rfl, rfl, rfl, rfl⟩) (pa_cons (pe_def h_law_range (hr.mono (by omega)) (pa_cons (pv 3) pa_nil)) pa_nil))) pa_nil))) rfl)))
    (pss_one (ps_ret (pv 2))))), fun B ds C P ⟨b, o, xo, hl, hz, hd, ho, k⟩ => ?_⟩
  subst hd
  kwd_rel
  refine w_dnewC ?_
  intro a ha
  kwd_rel
  refine ws_for (fun rest E1 C1 => ∃ pre post x, scrsB b = pre ++ post ∧ rest = encBs post ∧ E1 = [some (encB b), some xo, some (.ref a), x] ∧ C1 = updC C a (.dic (encI (fitL o pre [])))) (wi_seq ?_) ?_ ?_
  · kwd_rel
    refine ⟨b, hl, hz, rfl, ?_⟩
    kwd_rel
    exact ⟨[], scrsB b, none, rfl, rfl, rfl, rfl⟩
  · rintro E1 C1 ⟨pre, post, x, h1, h2, rfl, rfl⟩
    have e := encBs_nil h2
    subst e
    rw [List.append_nil] at h1
    subst h1
    kwd_rel
    exact k a ha
  · rintro x xs E1 C1 ⟨pre, post, y, h1, h2, rfl, rfl⟩
    obtain ⟨p, q, rfl, rfl, rfl⟩ := encBs_cons h2
    have hm : p ∈ b.all := (List.mem_filter.mp (show p ∈ b.all.filter Box.isS by show p ∈ scrsB b; rw [h1]; simp)).1
    have hs : p.isS = true := (List.mem_filter.mp (show p ∈ b.all.filter Box.isS by show p ∈ scrsB b; rw [h1]; simp)).2
    have hlen : pre.length ≤ 100000 := by
      have h3 := congrArg List.length h1
      have h4 : (scrsB b).length ≤ b.all.length := List.length_filter_le _ _
      simp at h3
      omega
    have hfl := fitL_len o pre []
    have hd' := dicD_upd (a := a) (c := .dic (encI (fitL o pre []))) ho ha
    kwd_rel
    refine ws_dput ?_
    kwd_rel
    refine w_dget2 ?_
    kwd_rel
    refine ⟨⟨_, hd'⟩, ?_⟩
    kwd_rel
    refine ⟨_, _, hd', rfl, ?_⟩
    rw [getD_encI]
    kwd_rel
    refine ⟨p, hs, Nat.le_trans (parts_len hm) hz, rfl, ?_⟩
    kwd_rel
    refine ⟨a, encI (fitL o pre []), p.num, rfl, rfl, updC_same, by rw [encI_len]; simp at hfl; omega, ?_⟩
    rw [putD_encI, updC_updC]
    refine ⟨pre ++ [p], q, _, by simp [h1], rfl, rfl, ?_⟩
    rw [fitL_app, max_min (rangeB_nonneg p)]
    rfl
end
section
variable {P : Program} {w : World} {K : PySem.W.Frag} {mg : Str → Option Value} {base : Heap}
/-! ### the documents of the threads' laws -/
theorem draw_ne1 {C : CH} {d l : Addr} {z : Int} (h : IsDraw C d) (hl : C l = some (.lst [.int z])) : d ≠ l := fun e => by
  obtain ⟨c, h1, ns, p, q, s, rfl, _⟩ := h
  rw [e, hl] at h1
  unfold drC at h1
  simp at h1
def fTParts (n : Nat) : SpD := fun ds C P => ∃ (d l : Addr) (k : Nat) (z : Int), k < n ∧ ds = [.ref d, .ref l, .int (k : Nat)] ∧ IsDraw C d ∧ C l = some (.lst [.int z]) ∧ 0 ≤ z ∧ z ≤ 1000 ∧
  ∀ ps z' j C', PsOk k z z' ps j → j ≤ 4 → IsDraw C' d → C' l = some (.lst [.int z']) → (∀ a, a ≠ d → a ≠ l → C' a = C a) → P (.tup (encBs ps)) C'
abbrev slaw_parts : Stmt := topS 32
theorem sclaw_parts : FnScope ["_law_draw_here", "_law_state", "_law_depth", "_law_found", "_law_k", "_law_number", "_law_height"] ["_law_draw_here", "_law_state", "_law_depth"] (defScope slaw_parts) := ⟨rfl, rfl, rfl, by decide +kernel, rfl, by decide +kernel, by decide +kernel⟩
theorem ok_law_parts (Df : DefAt K mg "_law_parts" slaw_parts ["_law_draw_here", "_law_state", "_law_depth"]) (T : Top mg) (h_law_next : Has P w K mg base 1 "_law_next" ["_law_draw_here", "_law_many"] (spD fNext)) : ∀ n, Has P w K mg base (n+2) "_law_parts" ["_law_draw_here", "_law_state", "_law_depth"] (spD (fTParts n)) := by
  intro n
  induction n with
  | zero => exact has_of Df sclaw_parts (fun ds C P ⟨_, _, _, _, _, h, _⟩ => by rw [h]; rfl) fun f cdv A outer s H E hr => ⟨_, pss_never, fun B ds C P ⟨_, _, k, _, hk, _⟩ => ws_never (Nat.not_lt_zero _ hk)⟩
  | succ n h_law_parts =>
    refine has_of Df sclaw_parts (fun ds C P ⟨_, _, _, _, _, h, _⟩ => by rw [h]; rfl) fun f cdv A outer s H E hr => ⟨_, 
    (pss_cons (ps_nm 3 sclaw_parts.nd (pe_lst pa_nil))
    (pss_cons (ps_for PassesOwn.never rfl (pi_range1 (by rfl) T.range (pa_cons (pe_op (op_addK K) pe_int (pe_def h_law_next (hr.mono (by omega)) (pa_cons (pv 0) (pa_cons pe_int pa_nil)))) pa_nil)) (pg_nm 4 sclaw_parts.nd) 
      (pss_cons (ps_asg (pe_op (op_addK K) (pe_ix (ix_seqK K) (pv 1) pe_int (fun _ _ => rfl)) pe_int) (pg_sub (pv 1) pe_int set_list))
      (pss_cons (ps_nm 5 sclaw_parts.nd (pe_ix (ix_seqK K) (pv 1) pe_int (fun _ _ => rfl)))
      (pss_one (ps_if (PW.pt (pw_and (pt_cmpR op_gt (pv 2) pe_int (nomark _)) (pw_and (pt_cmpR op_lt (pe_ix (ix_seqK K) (pv 1) pe_int (fun _ _ => rfl)) pe_int (nomark _)) (pw_and1 (pt_cmpR (op_eqK K hr) (pe_def h_law_next (hr.mono (by omega)) (pa_cons (pv 0) (pa_cons pe_int pa_nil))) pe_int (nomark _)))))) 
        (pss_cons (ps_nm 6 sclaw_parts.nd (pe_op op_mul pe_int (pe_def h_law_next (hr.mono (by omega)) (pa_cons (pv 0) (pa_cons pe_int pa_nil)))))
        (pss_one (ps_expr (pe_bmK K PySem.F.plainAttrs_list PySem.F.slot_list_append PySem.F.type_list_append mt_append (pv 3) (pa_cons (pe_tup (pa_cons pe_str (pa_cons (pv 5) (pa_cons (pv 6) (pa_cons (pe_def h_law_parts (hr.mono (by omega)) (pa_cons (pv 0) (pa_cons (pv 1) (pa_cons (pe_op op_sub (pv 2) pe_int) pa_nil)))) pa_nil))))) pa_nil))))) 
        (pss_one (ps_expr (pe_bmK K PySem.F.plainAttrs_list PySem.F.slot_list_append PySem.F.type_list_append mt_append (pv 3) (pa_cons (pe_tup (pa_cons pe_str (pa_cons (pv 5) (pa_cons (pe_ix (ix_seqK K) (pe_lst (pa_cons pe_int (pa_cons pe_int (pa_cons pe_int (pa_cons pe_int (pa_cons pe_int pa_nil)))))) (pe_def h_law_next (hr.mono (by omega)) (pa_cons (pv 0) (pa_cons pe_int pa_nil))) (fun _ _ => rfl)) pa_nil)))) pa_nil)))))))))
    (pss_one (ps_ret (pe_callTy (call_tupK K) (by rfl) T.tuple bt_tuple (pa_cons (pv 3) pa_nil)))))), fun B ds C P ⟨d, l, k, z, hk, hd, hD, hL, z0, z1, q⟩ => ?_⟩
    subst hd
    have dl := draw_ne1 hD hL
    kwd_rel
    refine w_lstC ?_
    kwd_rel
    intro c hc
    have dc : d ≠ c := fun e => by
      obtain ⟨c, h1, _⟩ := hD
      rw [e, hc] at h1
      cases h1
    have lc : l ≠ c := fun e => by rw [e, hc] at hL; cases hL
    kwd_rel
    refine ws_for (fun rest E1 C1 => ∃ (m i : Nat) (ps : List Box) (z' : Int) (x4 x5 x6 : Option D), rest = (rngD 0 m).drop i ∧ i ≤ m ∧ m ≤ 4 ∧ E1 = [some (.ref d), some (.ref l), some (.int (k : Nat)), some (.ref c), x4, x5, x6] ∧ PsOk k z z' ps i ∧
      IsDraw C1 d ∧ C1 l = some (.lst [.int z']) ∧ C1 c = some (.lst (encBs ps)) ∧ ∀ a, a ≠ d → a ≠ l → a ≠ c → C1 a = C a) (wi_rng1 ?_) ?_ ?_
    · kwd_rel
      refine next_call (by decide) (by decide) (isDraw_upd hD dc) (fun v C4 g7 g8 D5 o6 => ?_)
      kwd_rel
      exact ⟨by omega, by omega, (1 + v).toNat, 0, [], z, none, none, none, rfl, Nat.zero_le _, by omega, rfl, .nil, D5, by rw [o6 l (Ne.symm dl), updC_ne lc]; exact hL, by rw [o6 c (Ne.symm dc), updC_same]; rfl, fun a h1 h2 h3 => by rw [o6 a h1, updC_ne h3]⟩
    · rintro E1 C1 ⟨m, i, ps, z', x4, x5, x6, h1, h2, h3, rfl, hp, D1, L1, hcc, o1⟩
      have := rng_nil h1
      refine nx_show ?_
      refine ws_freeze (i := 3) rfl hcc ?_
      kwd_rel
      refine wc_tuple .lst ?_
      kwd_rel
      refine q ps z' i _ hp (by omega) ?_ (by unfold delC; rw [if_neg lc]; exact L1) fun a ha hb => ?_
      · obtain ⟨c', e1, e2⟩ := D1
        exact ⟨c', by unfold delC; rw [if_neg dc]; exact e1, e2⟩
      · unfold delC
        by_cases e : a = c
        · rw [if_pos e, e, hc]
        · rw [if_neg e]; exact o1 a ha hb e
    rintro x xs E1 C1 ⟨m, i, ps, z', x4, x5, x6, h1, h2, h3, rfl, hp, D1, L1, hcc, o1⟩
    obtain ⟨i1, rfl, rfl⟩ := rng_cons h1
    have hz' := hp.hi
    have hle := hp.le
    kwd_rel
    have L2 : updC C1 l (.lst [.int (z' + 1)]) l = some (.lst [.int (z' + 1)]) := updC_same
    have c2 : updC C1 l (.lst [.int (z' + 1)]) c = some (.lst (encBs ps)) := by rw [updC_ne (Ne.symm lc)]; exact hcc
    have D2 : IsDraw (updC C1 l (.lst [.int (z' + 1)])) d := isDraw_upd D1 dl
    have o2 : ∀ a, a ≠ d → a ≠ l → a ≠ c → updC C1 l (.lst [.int (z' + 1)]) a = C a := fun a a1 a2 a3 => by rw [updC_ne a2]; exact o1 a a1 a2 a3
    refine ite_two (fun hk0 => ?_) (fun hk0 => ?_)
    · have hk0 : (0 : Int) < (k : Nat) := of_decide_eq_true hk0
      kwd_rel
      refine ite_two (fun h14 => ?_) (fun h14 => ?_)
      · have h14 : z' + 1 < 14 := of_decide_eq_true h14
        kwd_rel
        refine next_call (by decide) (by decide) D2 (fun v3 C3 g3 g4 D3 o3 => ?_)
        have L3 : C3 l = some (.lst [.int (z' + 1)]) := by rw [o3 l (Ne.symm dl)]; exact L2
        have c3 : C3 c = some (.lst (encBs ps)) := by rw [o3 c (Ne.symm dc)]; exact c2
        have o3' : ∀ a, a ≠ d → a ≠ l → a ≠ c → C3 a = C a := fun a a1 a2 a3 => by rw [o3 a a1]; exact o2 a a1 a2 a3
        kwd_rel
        refine ite_two (fun h0 => ?_) (fun h0 => ?_)
        · kwd_rel
          refine next_call (by decide) (by decide) D3 (fun v4 C4 g5 g6 D4 o4 => ?_)
          have L4 : C4 l = some (.lst [.int (z' + 1)]) := by rw [o4 l (Ne.symm dl)]; exact L3
          have c4 : C4 c = some (.lst (encBs ps)) := by rw [o4 c (Ne.symm dc)]; exact c3
          kwd_rel
          refine w_bmL ?_
          kwd_rel
          refine ⟨⟨_, .cell c4⟩, ?_⟩
          kwd_rel
          have ek : ((k : Nat) : Int) - 1 = ((k - 1 : Nat) : Int) := by omega
          rw [ek]
          refine ⟨d, l, k - 1, z' + 1, by omega, rfl, D4, L4, by omega, by omega, fun qs z2 j2 C5 hq hj D5 L5 o5 => ?_⟩
          have c5 : C5 c = some (.lst (encBs ps)) := by rw [o5 c (Ne.symm dc) (Ne.symm lc)]; exact c4
          kwd_rel
          refine wm_append c5 (by rw [encBs_length, hp.ln]; omega) ?_
          kwd_rel
          obtain ⟨k', rfl⟩ : ∃ k', k = k' + 1 := ⟨k - 1, by omega⟩
          refine ⟨m, i + 1, ps ++ [.scroller (z' + 1) (10 * v4) qs], z2, _, _, _, rfl, i1, h3, rfl, hp.scr hq hj (by omega) (by omega) (by omega), isDraw_upd D5 dc, by rw [updC_ne lc]; exact L5, by rw [updC_same, encBs_append]; rfl, fun a a1 a2 a3 => ?_⟩
          rw [updC_ne a3, o5 a a1 a2, o4 a a1]
          exact o3' a a1 a2 a3
        · kwd_rel
          refine w_bmL ?_
          kwd_rel
          refine ⟨⟨_, .cell c3⟩, ?_⟩
          kwd_rel
          refine w_lst ?_
          kwd_rel
          refine next_call (by decide) (by decide) D3 (fun v5 C5 g7 g8 D5 o5 => ?_)
          have hh : ∃ v : Int, atI [D.int 0, D.int 7, D.int 20, D.int 20, D.int 33] v5 = some (.int v) ∧ 0 ≤ v ∧ v ≤ 40 := by
            have : v5 = 0 ∨ v5 = 1 ∨ v5 = 2 ∨ v5 = 3 ∨ v5 = 4 := by omega
            rcases this with rfl | rfl | rfl | rfl | rfl <;> exact ⟨_, rfl, by decide, by decide⟩
          obtain ⟨v, hat, v0, v1⟩ := hh
          refine wr_ix .lst hat ?_
          kwd_rel
          have c5 : C5 c = some (.lst (encBs ps)) := by rw [o5 c (Ne.symm dc)]; exact c3
          refine wm_append c5 (by rw [encBs_length, hp.ln]; omega) ?_
          kwd_rel
          refine ⟨m, i + 1, ps ++ [.block (z' + 1) v], z' + 1, _, _, _, rfl, i1, h3, rfl, hp.block v0 v1, isDraw_upd D5 dc, by rw [updC_ne lc, o5 l (Ne.symm dl)]; exact L3, by rw [updC_same, encBs_append]; rfl, fun a a1 a2 a3 => ?_⟩
          rw [updC_ne a3, o5 a a1]
          exact o3' a a1 a2 a3
      · kwd_rel
        kwd_less
        kwd_rel
        refine w_bmL ?_
        kwd_rel
        refine ⟨⟨_, .cell c2⟩, ?_⟩
        kwd_rel
        refine w_lst ?_
        kwd_rel
        refine next_call (by decide) (by decide) D2 (fun v5 C5 g7 g8 D5 o5 => ?_)
        have hh : ∃ v : Int, atI [D.int 0, D.int 7, D.int 20, D.int 20, D.int 33] v5 = some (.int v) ∧ 0 ≤ v ∧ v ≤ 40 := by
          have : v5 = 0 ∨ v5 = 1 ∨ v5 = 2 ∨ v5 = 3 ∨ v5 = 4 := by omega
          rcases this with rfl | rfl | rfl | rfl | rfl <;> exact ⟨_, rfl, by decide, by decide⟩
        obtain ⟨v, hat, v0, v1⟩ := hh
        refine wr_ix .lst hat ?_
        kwd_rel
        have c5 : C5 c = some (.lst (encBs ps)) := by rw [o5 c (Ne.symm dc)]; exact c2
        refine wm_append c5 (by rw [encBs_length, hp.ln]; omega) ?_
        kwd_rel
        refine ⟨m, i + 1, ps ++ [.block (z' + 1) v], z' + 1, _, _, _, rfl, i1, h3, rfl, hp.block v0 v1, isDraw_upd D5 dc, by rw [updC_ne lc, o5 l (Ne.symm dl)]; exact L2, by rw [updC_same, encBs_append]; rfl, fun a a1 a2 a3 => ?_⟩
        rw [updC_ne a3, o5 a a1]
        exact o2 a a1 a2 a3
    · kwd_rel
      kwd_less
      kwd_rel
      refine w_bmL ?_
      kwd_rel
      refine ⟨⟨_, .cell c2⟩, ?_⟩
      kwd_rel
      refine w_lst ?_
      kwd_rel
      refine next_call (by decide) (by decide) D2 (fun v5 C5 g7 g8 D5 o5 => ?_)
      have hh : ∃ v : Int, atI [D.int 0, D.int 7, D.int 20, D.int 20, D.int 33] v5 = some (.int v) ∧ 0 ≤ v ∧ v ≤ 40 := by
        have : v5 = 0 ∨ v5 = 1 ∨ v5 = 2 ∨ v5 = 3 ∨ v5 = 4 := by omega
        rcases this with rfl | rfl | rfl | rfl | rfl <;> exact ⟨_, rfl, by decide, by decide⟩
      obtain ⟨v, hat, v0, v1⟩ := hh
      refine wr_ix .lst hat ?_
      kwd_rel
      have c5 : C5 c = some (.lst (encBs ps)) := by rw [o5 c (Ne.symm dc)]; exact c2
      refine wm_append c5 (by rw [encBs_length, hp.ln]; omega) ?_
      kwd_rel
      refine ⟨m, i + 1, ps ++ [.block (z' + 1) v], z' + 1, _, _, _, rfl, i1, h3, rfl, hp.block v0 v1, isDraw_upd D5 dc, by rw [updC_ne lc, o5 l (Ne.symm dl)]; exact L2, by rw [updC_same, encBs_append]; rfl, fun a a1 a2 a3 => ?_⟩
      rw [updC_ne a3, o5 a a1]
      exact o2 a a1 a2 a3
def fTDoc : SpD := fun ds C P => ∃ d : Addr, ds = [.ref d] ∧ IsDraw C d ∧ ∀ b C', DocM 100 b → IsDraw C' d → (∀ a, a ≠ d → C' a = C a) → P (encB b) C'
abbrev slaw_document : Stmt := topS 33
theorem sclaw_document : FnScope ["_law_draw_here"] ["_law_draw_here"] (defScope slaw_document) := ⟨rfl, rfl, rfl, by decide +kernel, rfl, by decide +kernel, by decide +kernel⟩
theorem ok_law_document {k : Nat} (Df : DefAt K mg "_law_document" slaw_document ["_law_draw_here"]) (T : Top mg) (h_law_next : Has P w K mg base k "_law_next" ["_law_draw_here", "_law_many"] (spD fNext)) (h_law_parts : Has P w K mg base k "_law_parts" ["_law_draw_here", "_law_state", "_law_depth"] (spD (fTParts 3))) : Has P w K mg base (k+1) "_law_document" ["_law_draw_here"] (spD fTDoc) := by
  refine has_of Df sclaw_document (fun ds C P ⟨_, h, _⟩ => by rw [h]; rfl) fun f cdv A outer s H E hr => ⟨_, 
    (pss_one (ps_ret (pe_tup (pa_cons pe_str (pa_cons pe_int (pa_cons (pe_ix (ix_seqK K) (pe_lst (pa_cons pe_int (pa_cons pe_int (pa_cons pe_int pa_nil)))) (pe_def h_law_next (hr.mono (by omega)) (pa_cons (pv 0) (pa_cons pe_int pa_nil))) (fun _ _ => rfl)) (pa_cons (pe_def h_law_parts (hr.mono (by omega)) (pa_cons (pv 0) (pa_cons (pe_lst (pa_cons pe_int pa_nil)) (pa_cons pe_int pa_nil)))) pa_nil))))))), fun B ds C P ⟨d, hd, hD, q⟩ => ?_⟩
  subst hd
  refine ws_weak ?_
  kwd_rel
  refine w_lst ?_
  kwd_rel
  refine next_call (by decide) (by decide) hD (fun v1 C1 g1 g2 D1 o1 => ?_)
  have hh : ∃ h : Int, atI [D.int 20, D.int 40, D.int 55] v1 = some (.int h) ∧ 20 ≤ h ∧ h ≤ 100 := by
    have : v1 = 0 ∨ v1 = 1 ∨ v1 = 2 := by omega
    rcases this with rfl | rfl | rfl <;> exact ⟨_, rfl, by decide, by decide⟩
  obtain ⟨h, hat, h0, h1⟩ := hh
  refine wr_ix .lst hat ?_
  kwd_rel
  refine w_lstC ?_
  kwd_rel
  intro l hl
  have dl : d ≠ l := fun e => by
    obtain ⟨c, h1, _⟩ := D1
    rw [e, hl] at h1
    cases h1
  kwd_rel
  refine ⟨d, l, 2, 1, by decide, rfl, isDraw_upd D1 dl, updC_same, by decide, by decide, fun ps z' j C2 hp hj D2 L2 o2 => ?_⟩
  kwd_rel
  refine ⟨delC C2 l, fun a c e => ?_, q (.scroller 1 h ps) _ (docM_of hp hj h0 h1) ?_ fun a ha => ?_⟩
  · unfold delC at e
    split at e
    · cases e
    · exact e
  · obtain ⟨c, e1, e2⟩ := D2
    exact ⟨c, by unfold delC; rw [if_neg dl]; exact e1, e2⟩
  · unfold delC
    by_cases e : a = l
    · rw [if_pos e, e, ← hl, o1 l (Ne.symm dl)]
    · rw [if_neg e, o2 a ha e, updC_ne e, o1 a ha]
end
section
variable {P : Program} {w : World} {K : PySem.W.Frag} {mg : Str → Option Value} {base : Heap}
/-! ### the law's moves -/
theorem nd_pairs (mv : List (Int × Int)) : ∀ x ∈ mv.map pairD, NoDic x := fun x hx => by
  obtain ⟨p, _, rfl⟩ := List.mem_map.mp hx
  refine .tup fun y hy => ?_
  simp at hy
  rcases hy with rfl | rfl <;> exact .int
theorem nd_seqF {x : D} {l : List D} (h : SeqF x l) (n : ∀ y ∈ l, NoDic y) : NoDic x := by
  cases h with
  | lst => exact .lst n
  | tup => exact .tup n
theorem nd_encI {l : List (Int × Int)} : ∀ p ∈ encI l, NoDic p.2 := by
  intro p hp
  obtain ⟨z, _, rfl⟩ := List.mem_map.mp hp
  exact .int
def fLMoved : SpP := fun ds P => ∃ (b : Box) (O mv : List (Int × Int)) (x : D), GoodS b O ∧ SeqF x (mv.map pairD) ∧ ds = [encB b, .dic (encI O), x] ∧ P (.dic (encI (movedL (rangesB b) mv O)))
abbrev slaw_moved : Stmt := topS 43
theorem sclaw_moved : FnScope ["_law_document_here", "_law_offsets", "_law_moves", "_law_found", "_law_number", "_law_amount", "_law_later", "_law_one"] ["_law_document_here", "_law_offsets", "_law_moves"] (defScope slaw_moved) := ⟨rfl, rfl, rfl, by decide +kernel, rfl, by decide +kernel, by decide +kernel⟩
theorem ok_law_moved {k : Nat} (Df : DefAt K mg "_law_moved" slaw_moved ["_law_document_here", "_law_offsets", "_law_moves"]) (T : Top mg) (h_law_fit : Has P w K mg base k "_law_fit" ["_law_document_here", "_law_offsets"] (spD (fFitted 8))) : Has P w K mg base (k+1) "_law_moved" ["_law_document_here", "_law_offsets", "_law_moves"] (spD (pureD fLMoved)) := by
  refine has_ofP Df sclaw_moved (fun ds P ⟨_, _, _, _, _, _, h, _⟩ => by rw [h]; rfl) fun f cdv A outer s H E hr => ⟨_, 
    (pss_cons (ps_nm 3 sclaw_moved.nd (pv 1))
    (pss_cons (ps_for PassesOwn.never rfl (pi_seqK K (pv 2)) (pg_tupK K (n := 2) (pgs_cons (pg_nm 4 sclaw_moved.nd) (pgs_cons (pg_nm 5 sclaw_moved.nd) pgs_nil))) 
      (pss_cons (ps_nm 6 sclaw_moved.nd pe_dnewK)
      (pss_cons (ps_lock (ps_for PassesOwn.never rfl (pi_keys (pv 3)) (pg_nm 7 sclaw_moved.nd) 
        (pss_one (ps_dput (hu_of hr) (pv 6) (pv 7) (pe_op (op_addK K) (pe_dget (hu_of hr) (pv 3) (pv 7) (fun _ _ => rfl)) (pe_ifExp (pt_cmpR (op_eqK K hr) (pv 7) (pv 4) (nomark _)) (pv 5) pe_int)) rfl))))
      (pss_one (ps_nm 3 sclaw_moved.nd (pe_def h_law_fit (hr.mono (by omega)) (pa_cons (pv 0) (pa_cons (pv 6) pa_nil))))))))
    (pss_one (ps_ret (pv 3))))), fun B ds P ⟨b, O, mv, x, g, hx, hd, q⟩ => ?_⟩
  subst hd
  kwd_rel
  refine ws_less [some (encB b), none, some x, some (.dic (encI O)), none, none, none, none] rfl (fun j d h => match j, h with | 0, h => h | 1, h => by cases h | 2, h => h | 3, h => h | 4, h => h | 5, h => h | 6, h => h | 7, h => h | (n + 8), h => by cases h) ?_
  refine ws_for (fun rest E1 C1 => ∃ (post O1 : List (Int × Int)) (x4 x5 x6 : Option D), rest = post.map pairD ∧ E1 = [some (encB b), none, some x, some (.dic (encI O1)), x4, x5, x6, none] ∧
    movedL (rangesB b) mv O = movedL (rangesB b) post O1 ∧ GoodS b O1 ∧ ∀ a c, C1 a = some c → NoDicC c) (wi_seq ?_) ?_ ?_
  · kwd_rel
    exact ⟨_, hx, mv, O, none, none, none, rfl, rfl, rfl, g, fun a c h => by cases h⟩
  · rintro E1 C1 ⟨post, O1, x4, x5, x6, h1, rfl, h2, h3, h4⟩
    have e : post = [] := by
      cases post with
      | nil => rfl
      | cons _ _ => cases h1
    subst e
    kwd_rel
    rw [h2] at q
    exact q
  rintro y ys E1 C1 ⟨post, O1, x4, x5, x6, h1, rfl, h2, g1, h4⟩
  obtain ⟨p, r, rfl⟩ : ∃ p r, post = p :: r := by
    cases post with
    | nil => cases h1
    | cons p r => exact ⟨p, r, rfl⟩
  injection h1 with e1 e2
  subst e1 e2
  obtain ⟨n, v⟩ := p
  have gl := g1.lev
  have gz := g1.len
  have go := g1.lenO
  unfold pairD
  refine wg_tup rfl (wgs_cons ?_)
  refine wg_name ?_
  refine wgs_cons ?_
  refine wg_name ?_
  refine wgs_nil ?_
  kwd_rel
  refine w_dnewC ?_
  intro a ha
  kwd_rel
  have nx : NoDic x := nd_seqF hx (nd_pairs mv)
  have hcells : ∀ (l : List (Int × Int)) (z : Addr) (c : Cell), updC C1 a (.dic (encI l)) z = some c → NoDicC c := fun l z c hz => by
    by_cases e : z = a
    · subst e
      rw [updC_same] at hz
      cases hz
      exact .dic nd_encI
    · rw [updC_ne e] at hz
      exact h4 z c hz
  refine ws_lock (i := 3) (fun od => [some (encB b), none, some x, some (.dicL od (encI O1)), some (.int n), some (.int v), some (.ref a), none]) rfl nd_encI (fun od => rfl) ?_ (hcells []) ?_
  · rintro od j d e
    match j, e with
    | 0, e => cases e; exact .inr ⟨_, rfl, .same (nd_encB b)⟩
    | 1, e => cases e
    | 2, e => cases e; exact .inr ⟨_, rfl, .same nx⟩
    | 3, e => cases e; exact .inl ⟨rfl, rfl⟩
    | 4, e => cases e; exact .inr ⟨_, rfl, .same .int⟩
    | 5, e => cases e; exact .inr ⟨_, rfl, .same .int⟩
    | 6, e => cases e; exact .inr ⟨_, rfl, .same .ref⟩
    | 7, e => cases e
  intro B1 od
  refine ws_for (fun rest E2 C2 => ∃ (pre post : List (Int × Int)) (x7 : Option D), O1 = pre ++ post ∧ rest = (keysI post).map D.int ∧ E2 = [some (encB b), none, some x, some (.dicL od (encI O1)), some (.int n), some (.int v), some (.ref a), x7] ∧
    C2 = updC C1 a (.dic (encI (shiftI pre n v)))) (wi_keys ?_) ?_ ?_
  · kwd_rel
    exact ⟨od, _, rfl, [], O1, none, rfl, by rw [encI_keys], rfl, rfl⟩
  · rintro E2 C2 ⟨pre, post, x7, k1, k2, rfl, rfl⟩
    have e : post = [] := by
      cases post with
      | nil => rfl
      | cons _ _ => cases k2
    subst e
    rw [List.append_nil] at k1
    subst k1
    refine ⟨hcells _, [some (encB b), none, some x, none, some (.int n), some (.int v), some (.ref a), none], rfl, ?_, ?_⟩
    · rintro j d e
      match j, e with
      | 0, e => cases e; exact ⟨rfl, nd_encB b⟩
      | 1, e => cases e
      | 2, e => cases e; exact ⟨rfl, nx⟩
      | 3, e => cases e
      | 4, e => cases e; exact ⟨rfl, .int⟩
      | 5, e => cases e; exact ⟨rfl, .int⟩
      | 6, e => cases e; exact ⟨rfl, .ref⟩
      | 7, e => cases e
    refine nx_show ?_
    refine ws_set (w_frzD ?_)
    kwd_rel
    refine ⟨b, shiftI O1 n v, _, by omega, by omega, rfl, .cell updC_same, fun c hc => ⟨c, _, rfl, updC_same, ?_⟩⟩
    rw [delC_updC hc, shift_fit g1]
    rw [movedL] at h2
    exact ⟨r, _, _, _, _, rfl, rfl, h2, good_moved1 g1, hcells _⟩
  rintro y ys E2 C2 ⟨pre, post, x7, k1, k2, rfl, rfl⟩
  obtain ⟨t, r2, rfl⟩ : ∃ t r2, post = t :: r2 := by
    cases post with
    | nil => cases k2
    | cons t r2 => exact ⟨t, r2, rfl⟩
  obtain ⟨k, z⟩ := t
  injection k2 with e1 e2
  subst e1 e2
  have hk : k ∈ keysI O1 := by rw [k1]; simp [keysI]
  have hz : gI O1 k = z := by
    have := getI_mem (l := O1) (p := (k, z)) g1.ndO (by rw [k1]; simp)
    unfold gI
    rw [this]
    rfl
  have hnew : k ∉ keysI (shiftI pre n v) := by
    rw [shift_keys]
    have nd := g1.ndO
    rw [k1] at nd
    simp only [keysI, List.map_append, List.map_cons, List.nodup_append] at nd
    intro w1
    exact nd.2.2 k w1 k (by simp) rfl
  have hpl : pre.length ≤ 200 := by
    have := congrArg List.length k1
    simp at this
    omega
  have hfin : ∀ w1 : Int, (w1 = z + if k = n then v else 0) → putI (shiftI pre n v) k w1 = shiftI (pre ++ [(k, z)]) n v := fun w1 e => by
    rw [put_new hnew, e]
    simp [shiftI]
  kwd_rel
  refine ws_dput ?_
  kwd_rel
  refine w_dgetR ?_
  kwd_rel
  refine ⟨_, k, _, .inr ⟨od, rfl⟩, rfl, look_key hk, ?_⟩
  rw [hz]
  kwd_rel
  refine ite_two (fun hc => ?_) (fun hc => ?_)
  · have hc : k = n := of_decide_eq_true hc
    kwd_rel
    refine ⟨a, _, k, rfl, rfl, updC_same, by rw [encI_len]; unfold shiftI; rw [List.length_map]; omega, ?_⟩
    rw [putD_encI, updC_updC, hfin _ (by rw [if_pos hc])]
    exact ⟨pre ++ [(k, z)], r2, _, by simp [k1], rfl, rfl, rfl⟩
  · have hc : ¬ k = n := of_decide_eq_false hc
    kwd_rel
    refine ⟨a, _, k, rfl, rfl, updC_same, by rw [encI_len]; unfold shiftI; rw [List.length_map]; omega, ?_⟩
    rw [putD_encI, updC_updC, hfin _ (by rw [if_neg hc])]
    exact ⟨pre ++ [(k, z)], r2, _, by simp [k1], rfl, rfl, rfl⟩
end
section
variable {P : Program} {w : World} {K : PySem.W.Frag} {mg : Str → Option Value} {base : Heap}
/-! ### the law's edits, places, anchors -/
def EAt : Edit → Prop
  | .ins _ i _ => 0 ≤ i ∧ i ≤ 1000
  | _ => True
def fRebuilt (n : Nat) : SpD := fun ds C P => ∃ (b : Box) (e : Edit), b.lev ≤ n ∧ b.all.length ≤ 50000 ∧ EAt e ∧ ds = [encB b, encE e] ∧ P (encB (withB e b)) C
abbrev slaw_rebuilt : Stmt := topS 45
theorem sclaw_rebuilt : FnScope ["_law_box_here", "_law_edit_here", "_law_parts_here", "_law_part", "_law_height"] ["_law_box_here", "_law_edit_here"] (defScope slaw_rebuilt) := ⟨rfl, rfl, rfl, by decide +kernel, rfl, by decide +kernel, by decide +kernel⟩
theorem ok_law_rebuilt (Df : DefAt K mg "_law_rebuilt" slaw_rebuilt ["_law_box_here", "_law_edit_here"]) (T : Top mg) : ∀ n, Has P w K mg base (n+1) "_law_rebuilt" ["_law_box_here", "_law_edit_here"] (spD (fRebuilt n)) := by
  intro n
  induction n with
  | zero =>
    refine has_of Df sclaw_rebuilt (fun ds C P ⟨_, _, _, _, _, h, _⟩ => by rw [h]; rfl) fun f cdv A outer s H E hr => ⟨_, pss_never, fun B ds C P ⟨b, _, hl, _⟩ => ws_never ?_⟩
    cases b <;> simp [Box.lev] at hl
  | succ n h_law_rebuilt =>
    refine has_of Df sclaw_rebuilt (fun ds C P ⟨_, _, _, _, _, h, _⟩ => by rw [h]; rfl) fun f cdv A outer s H E hr => ⟨_, 
    (pss_cons (ps_if (pt_cmpR (op_eqK K hr) (pe_ix (ix_seqK K) (pv 0) pe_int (fun _ _ => rfl)) pe_str (nomark _)) 
      (pss_one (ps_ret (pe_ifExp (PW.pt (pw_and (pt_cmpR (op_eqK K hr) (pe_ix (ix_seqK K) (pv 1) pe_int (fun _ _ => rfl)) pe_str (nomark _)) (pw_and1 (pt_cmpR (op_eqK K hr) (pe_ix (ix_seqK K) (pv 1) pe_int (fun _ _ => rfl)) (pe_ix (ix_seqK K) (pv 0) pe_int (fun _ _ => rfl)) (nomark _))))) (pe_tup (pa_cons pe_str (pa_cons (pe_ix (ix_seqK K) (pv 0) pe_int (fun _ _ => rfl)) (pa_cons (pe_ix (ix_seqK K) (pv 1) pe_int (fun _ _ => rfl)) pa_nil)))) (pv 0)))) pss_nil)
    (pss_cons (ps_nm 2 sclaw_rebuilt.nd (pe_lst pa_nil))
    (pss_cons (ps_for PassesOwn.never rfl (pi_seqK K (pe_ix (ix_seqK K) (pv 0) pe_int (fun _ _ => rfl))) (pg_nm 3 sclaw_rebuilt.nd) 
      (pss_one (ps_if (PW.pt (pw_or (pt_cmpR (op_neK K hr) (pe_ix (ix_seqK K) (pv 1) pe_int (fun _ _ => rfl)) pe_str (nomark _)) (pw_or1 (pt_cmpR (op_neK K hr) (pe_ix (ix_seqK K) (pv 1) pe_int (fun _ _ => rfl)) (pe_ix (ix_seqK K) (pv 3) pe_int (fun _ _ => rfl)) (nomark _))))) 
        (pss_one (ps_expr (pe_bmK K PySem.F.plainAttrs_list PySem.F.slot_list_append PySem.F.type_list_append mt_append (pv 2) (pa_cons (pe_def h_law_rebuilt (hr.mono (by omega)) (pa_cons (pv 3) (pa_cons (pv 1) pa_nil))) pa_nil)))) pss_nil)))
    (pss_cons (ps_nm 4 sclaw_rebuilt.nd (pe_ix (ix_seqK K) (pv 0) pe_int (fun _ _ => rfl)))
    (pss_cons (ps_if (PW.pt (pw_and (pt_cmpR (op_eqK K hr) (pe_ix (ix_seqK K) (pv 1) pe_int (fun _ _ => rfl)) pe_str (nomark _)) (pw_and1 (pt_cmpR (op_eqK K hr) (pe_ix (ix_seqK K) (pv 1) pe_int (fun _ _ => rfl)) (pe_ix (ix_seqK K) (pv 0) pe_int (fun _ _ => rfl)) (nomark _))))) 
      (pss_one (ps_nm 4 sclaw_rebuilt.nd (pe_ix (ix_seqK K) (pv 1) pe_int (fun _ _ => rfl)))) pss_nil)
    (pss_cons (ps_if (PW.pt (pw_and (pt_cmpR (op_eqK K hr) (pe_ix (ix_seqK K) (pv 1) pe_int (fun _ _ => rfl)) pe_str (nomark _)) (pw_and1 (pt_cmpR (op_eqK K hr) (pe_ix (ix_seqK K) (pv 1) pe_int (fun _ _ => rfl)) (pe_ix (ix_seqK K) (pv 0) pe_int (fun _ _ => rfl)) (nomark _))))) 
      (pss_one (ps_nm 2 sclaw_rebuilt.nd (pe_op (op_addK K) (pe_op (op_addK K) (pe_slice (sl_K K) (pv 2) po_none (po_some (pe_ix (ix_seqK K) (pv 1) pe_int (fun _ _ => rfl)))) (pe_lst (pa_cons (pe_ix (ix_seqK K) (pv 1) pe_int (fun _ _ => rfl)) pa_nil))) (pe_slice (sl_K K) (pv 2) (po_some (pe_ix (ix_seqK K) (pv 1) pe_int (fun _ _ => rfl))) po_none)))) pss_nil)
    (pss_one (ps_ret (pe_tup (pa_cons pe_str (pa_cons (pe_ix (ix_seqK K) (pv 0) pe_int (fun _ _ => rfl)) (pa_cons (pv 4) (pa_cons (pe_callTy (call_tupK K) (by rfl) T.tuple bt_tuple (pa_cons (pv 2) pa_nil)) pa_nil))))))))))))), fun B ds C P ⟨b, e, hl, hz, hi, hd, q⟩ => ?_⟩
    subst hd
    cases b with
    | block m h =>
      cases e with
      | ins k i x =>
        kwd_rel
        kwd_less
        kwd_rel
        kwd_less
        kwd_rel
        kwd_less
        kwd_rel
        exact q
      | rem k =>
        kwd_rel
        kwd_less
        kwd_rel
        kwd_less
        kwd_rel
        kwd_less
        kwd_rel
        exact q
      | res k v =>
        have ew : withB (.res k v) (.block m h) = .block m (if m = k then v else h) := by rw [withB]; rfl
        rw [ew] at q
        kwd_rel
        kwd_less
        kwd_rel
        kwd_less
        kwd_rel
        refine ite_two (fun hc => ?_) (fun hc => ?_)
        · have c : k = m := of_decide_eq_true hc
          rw [if_pos c.symm] at q
          kwd_rel
          exact q
        · have c : ¬ k = m := of_decide_eq_false hc
          rw [if_neg (Ne.symm c)] at q
          kwd_rel
          exact q
    | scroller m h ps =>
      refine ws_weak ?_
      have hpl : ps.length ≤ 50000 := Nat.le_trans (parts_len (b := .scroller m h ps) (p := .scroller m h ps) (by rw [all_eq]; simp)) hz
      kwd_rel
      kwd_less
      kwd_rel
      refine w_lstC ?_
      kwd_rel
      intro a ha
      kwd_rel
      refine ws_for (fun rest E1 C1 => ∃ (pre post : List Box) (x3 : Option D), ps = pre ++ post ∧ rest = encBs post ∧ E1 = [some (encB (.scroller m h ps)), some (encE e), some (.ref a), x3, none] ∧ C1 = updC C a (.lst (encBs (withs e pre)))) (wi_seq ?_) ?_ ?_
      · kwd_rel
        exact ⟨[], ps, none, rfl, rfl, rfl, rfl⟩
      · rintro E1 C1 ⟨pre, post, x3, h1, h2, rfl, rfl⟩
        have e0 := encBs_nil h2
        subst e0
        rw [List.append_nil] at h1
        subst h1
        refine nx_show ?_
        refine ws_freeze (i := 2) rfl updC_same ?_
        rw [delC_updC ha]
        have hwl := withs_len e ps
        cases e with
        | ins k i x =>
          have ew : withB (.ins k i x) (.scroller m h ps) = .scroller m h (if m = k then (withs (.ins k i x) ps).take i.toNat ++ [x] ++ (withs (.ins k i x) ps).drop i.toNat else withs (.ins k i x) ps) := by rw [withB]; rfl
          rw [ew] at q
          kwd_rel
          kwd_less
          kwd_rel
          kwd_less
          kwd_rel
          kwd_less
          kwd_rel
          refine ite_two (fun hc => ?_) (fun hc => ?_)
          · have c : k = m := of_decide_eq_true hc
            rw [if_pos c.symm] at q
            obtain ⟨j, rfl⟩ := Int.eq_ofNat_of_zero_le hi.1
            have hle : (withs (.ins k (j : Nat) x) ps).length ≤ 50000 := Nat.le_trans hwl hpl
            kwd_rel
            rw [cutD_take]
            refine w_lst ?_
            kwd_rel
            refine wr_addL .lst .lst (by rw [List.length_take, encBs_length]; simp; omega) ?_
            kwd_rel
            rw [cutD_drop]
            refine wr_addL .lst .lst (by rw [List.length_append, List.length_take, List.length_drop, encBs_length]; simp; omega) ?_
            kwd_rel
            refine wc_tuple .lst ?_
            kwd_rel
            rw [encB, encBs_append, encBs_append] at q
            refine ⟨C, fun _ _ z => z, ?_⟩
            rw [encBs_map (withs _ ps), ← List.map_take, ← List.map_drop, ← encBs_map, ← encBs_map]
            exact q
          · have c : ¬ k = m := of_decide_eq_false hc
            rw [if_neg (Ne.symm c)] at q
            kwd_rel
            refine wc_tuple .lst ?_
            kwd_rel
            exact ⟨C, fun _ _ z => z, q⟩
        | rem k =>
          have ew : withB (.rem k) (.scroller m h ps) = .scroller m h (withs (.rem k) ps) := by rw [withB]; rfl
          rw [ew] at q
          kwd_rel
          kwd_less
          kwd_rel
          kwd_less
          kwd_rel
          kwd_less
          kwd_rel
          kwd_less
          kwd_rel
          refine wc_tuple .lst ?_
          kwd_rel
          exact ⟨C, fun _ _ z => z, q⟩
        | res k v =>
          have ew : withB (.res k v) (.scroller m h ps) = .scroller m (if m = k then v else h) (withs (.res k v) ps) := by rw [withB]; rfl
          rw [ew] at q
          kwd_rel
          kwd_less
          kwd_rel
          refine ite_two (fun hc => ?_) (fun hc => ?_)
          · have c : k = m := of_decide_eq_true hc
            rw [if_pos c.symm] at q
            kwd_rel
            kwd_less
            kwd_rel
            kwd_less
            kwd_rel
            refine wc_tuple .lst ?_
            kwd_rel
            exact ⟨C, fun _ _ z => z, q⟩
          · have c : ¬ k = m := of_decide_eq_false hc
            rw [if_neg (Ne.symm c)] at q
            kwd_rel
            kwd_less
            kwd_rel
            kwd_less
            kwd_rel
            refine wc_tuple .lst ?_
            kwd_rel
            exact ⟨C, fun _ _ z => z, q⟩
      · rintro x xs E1 C1 ⟨pre, post, x3, h1, h2, rfl, rfl⟩
        obtain ⟨p, r, rfl, rfl, rfl⟩ := encBs_cons h2
        have hp : p ∈ (Box.scroller m h ps).parts := by show p ∈ ps; rw [h1]; simp
        have hps := all_len_sub hp
        have hsn := withs_snoc e p pre
        have hwl := withs_len e pre
        have hpr : pre.length ≤ 50000 := by
          have := congrArg List.length h1
          simp at this
          omega
        have keep : e.keep p = true → withs e (pre ++ [p]) = withs e pre ++ [withB e p] := fun z => by rw [hsn, if_pos z]
        have drop : e.keep p = false → withs e (pre ++ [p]) = withs e pre := fun z => by rw [hsn, z]; simp
        cases e with
        | ins k i y =>
          kwd_rel
          kwd_less
          kwd_rel
          kwd_less
          kwd_rel
          refine w_bmL ?_
          kwd_rel
          refine ⟨⟨_, .cell updC_same⟩, ?_⟩
          kwd_rel
          refine ⟨p, .ins k i y, lev_parts hl hp, by omega, hi, rfl, ?_⟩
          kwd_rel
          refine wm_append updC_same (by rw [encBs_length]; omega) ?_
          kwd_rel
          exact ⟨pre ++ [p], r, _, by simp [h1], rfl, rfl, by rw [updC_updC, keep rfl, encBs_append]; rfl⟩
        | rem k =>
          kwd_rel
          kwd_less
          kwd_rel
          refine ite_two (fun hc => ?_) (fun hc => ?_)
          · have c : ¬ k = p.num := by simpa using hc
            kwd_rel
            refine w_bmL ?_
            kwd_rel
            refine ⟨⟨_, .cell updC_same⟩, ?_⟩
            kwd_rel
            refine ⟨p, .rem k, lev_parts hl hp, by omega, hi, rfl, ?_⟩
            kwd_rel
            refine wm_append updC_same (by rw [encBs_length]; omega) ?_
            kwd_rel
            exact ⟨pre ++ [p], r, _, by simp [h1], rfl, rfl, by rw [updC_updC, keep (decide_eq_true (Ne.symm c)), encBs_append]; rfl⟩
          · have c : k = p.num := by simpa using hc
            kwd_rel
            exact ⟨pre ++ [p], r, _, by simp [h1], rfl, rfl, by rw [drop (decide_eq_false (fun z => z c.symm))]⟩
        | res k v =>
          kwd_rel
          kwd_less
          kwd_rel
          kwd_less
          kwd_rel
          refine w_bmL ?_
          kwd_rel
          refine ⟨⟨_, .cell updC_same⟩, ?_⟩
          kwd_rel
          refine ⟨p, .res k v, lev_parts hl hp, by omega, hi, rfl, ?_⟩
          kwd_rel
          refine wm_append updC_same (by rw [encBs_length]; omega) ?_
          kwd_rel
          exact ⟨pre ++ [p], r, _, by simp [h1], rfl, rfl, by rw [updC_updC, keep rfl, encBs_append]; rfl⟩
end
section
variable {P : Program} {w : World} {K : PySem.W.Frag} {mg : Str → Option Value} {base : Heap}
/-! ### the edits that the threads' laws draw -/
theorem atI_encBs {l : List Box} {v : Int} (h0 : 0 ≤ v) (h1 : v < (l.length : Nat)) : ∃ s, s ∈ l ∧ atI (encBs l) v = some (encB s) := by
  obtain ⟨z, z1, _, z2⟩ := atI_some (ds := encBs l) (i := v) (by omega) (by rw [encBs_length]; exact h1)
  rw [encBs_map] at z1
  obtain ⟨s, hs, rfl⟩ := List.mem_map.mp z1
  exact ⟨s, hs, z2⟩
theorem scrs_pos {b : Box} (h : b.isS = true) : 1 ≤ (scrsB b).length := by
  unfold scrsB
  rw [all_eq, List.filter_cons, if_pos h]
  simp
def fTEdit : SpD := fun ds C P => ∃ (d : Addr) (b : Box) (f g : Int), ds = [.ref d, encB b, .int g] ∧ IsDraw C d ∧ DocM f b ∧ f < g ∧ g ≤ 999 ∧
  ∀ e C', EditM f g b e → IsDraw C' d → (∀ a, a ≠ d → C' a = C a) → P (encE e) C'
abbrev slaw_edit : Stmt := topS 50
theorem sclaw_edit : FnScope ["_law_draw_here", "_law_document_here", "_law_fresh", "_law_boxes", "_law_scrollers_here", "_law_form", "_law_box_here", "_law_index"] ["_law_draw_here", "_law_document_here", "_law_fresh"] (defScope slaw_edit) := ⟨rfl, rfl, rfl, by decide +kernel, rfl, by decide +kernel, by decide +kernel⟩
theorem ok_law_edit {k : Nat} (Df : DefAt K mg "_law_edit" slaw_edit ["_law_draw_here", "_law_document_here", "_law_fresh"]) (T : Top mg) (h_law_flat : Has P w K mg base k "_law_flat" ["_law_box_here"] (spD (fAllB 8))) (h_law_scrollers : Has P w K mg base k "_law_scrollers" ["_law_document_here"] (spD (fScrs 8))) (h_law_next : Has P w K mg base k "_law_next" ["_law_draw_here", "_law_many"] (spD fNext)) : Has P w K mg base (k+1) "_law_edit" ["_law_draw_here", "_law_document_here", "_law_fresh"] (spD fTEdit) := by
  refine has_of Df sclaw_edit (fun ds C P ⟨_, _, _, _, h, _⟩ => by rw [h]; rfl) fun f cdv A outer s H E hr => ⟨_, 
    (pss_cons (ps_nm 3 sclaw_edit.nd (pe_def h_law_flat (hr.mono (by omega)) (pa_cons (pv 1) pa_nil)))
    (pss_cons (ps_nm 4 sclaw_edit.nd (pe_def h_law_scrollers (hr.mono (by omega)) (pa_cons (pv 1) pa_nil)))
    (pss_cons (ps_nm 5 sclaw_edit.nd (pe_def h_law_next (hr.mono (by omega)) (pa_cons (pv 0) (pa_cons pe_int pa_nil))))
    (pss_cons (ps_if (PW.pt (pw_and (pt_cmpR op_lt (pv 5) pe_int (nomark _)) (pw_and1 (pt_cmpR op_lt (pe_callB (call_lenK K) (by rfl) T.len bt_len (pa_cons (pv 3) pa_nil)) pe_int (nomark _))))) 
      (pss_cons (ps_nm 6 sclaw_edit.nd (pe_ix (ix_seqK K) (pv 4) (pe_def h_law_next (hr.mono (by omega)) (pa_cons (pv 0) (pa_cons (pe_callB (call_lenK K) (by rfl) T.len bt_len (pa_cons (pv 4) pa_nil)) pa_nil))) (fun _ _ => rfl)))
      (pss_cons (ps_nm 7 sclaw_edit.nd (pe_def h_law_next (hr.mono (by omega)) (pa_cons (pv 0) (pa_cons (pe_op (op_addK K) (pe_callB (call_lenK K) (by rfl) T.len bt_len (pa_cons (pe_ix (ix_seqK K) (pv 6) pe_int (fun _ _ => rfl)) pa_nil)) pe_int) pa_nil))))
      (pss_one (ps_ret (pe_tup (pa_cons pe_str (pa_cons (pe_ix (ix_seqK K) (pv 6) pe_int (fun _ _ => rfl)) (pa_cons (pv 7) (pa_cons (pe_tup (pa_cons pe_str (pa_cons (pv 2) (pa_cons (pe_ix (ix_seqK K) (pe_lst (pa_cons pe_int (pa_cons pe_int (pa_cons pe_int (pa_cons pe_int pa_nil))))) (pe_def h_law_next (hr.mono (by omega)) (pa_cons (pv 0) (pa_cons pe_int pa_nil))) (fun _ _ => rfl)) pa_nil)))) pa_nil))))))))) pss_nil)
    (pss_cons (ps_if (PW.pt (pw_and (pt_cmpR (op_eqK K hr) (pv 5) pe_int (nomark _)) (pw_and1 (pt_cmpR op_gt (pe_callB (call_lenK K) (by rfl) T.len bt_len (pa_cons (pv 3) pa_nil)) pe_int (nomark _))))) 
      (pss_one (ps_ret (pe_tup (pa_cons pe_str (pa_cons (pe_ix (ix_seqK K) (pe_ix (ix_seqK K) (pv 3) (pe_op (op_addK K) pe_int (pe_def h_law_next (hr.mono (by omega)) (pa_cons (pv 0) (pa_cons (pe_op op_sub (pe_callB (call_lenK K) (by rfl) T.len bt_len (pa_cons (pv 3) pa_nil)) pe_int) pa_nil)))) (fun _ _ => rfl)) pe_int (fun _ _ => rfl)) pa_nil))))) pss_nil)
    (pss_cons (ps_nm 6 sclaw_edit.nd (pe_ix (ix_seqK K) (pv 3) (pe_def h_law_next (hr.mono (by omega)) (pa_cons (pv 0) (pa_cons (pe_callB (call_lenK K) (by rfl) T.len bt_len (pa_cons (pv 3) pa_nil)) pa_nil))) (fun _ _ => rfl)))
    (pss_one (ps_ret (pe_tup (pa_cons pe_str (pa_cons (pe_ix (ix_seqK K) (pv 6) pe_int (fun _ _ => rfl)) (pa_cons (pe_ifExp (pt_cmpR op_gt (pe_ix (ix_seqK K) (pv 6) pe_int (fun _ _ => rfl)) pe_int (nomark _)) (pe_ix (ix_seqK K) (pe_lst (pa_cons pe_int (pa_cons pe_int (pa_cons pe_int (pa_cons pe_int pa_nil))))) (pe_def h_law_next (hr.mono (by omega)) (pa_cons (pv 0) (pa_cons pe_int pa_nil))) (fun _ _ => rfl)) (pe_op (op_addK K) pe_int (pe_def h_law_next (hr.mono (by omega)) (pa_cons (pv 0) (pa_cons pe_int pa_nil))))) pa_nil)))))))))))), fun B ds C P ⟨d, b, lo, g, hd, hD, hb, h1, h2, q⟩ => ?_⟩
  subst hd
  obtain ⟨f1, f2, f3, f4, f5, f6⟩ := isDoc_facts hb.doc
  have f7 := lev_deep b
  have f8 := hb.len
  have hall : 1 ≤ b.all.length := by rw [all_eq]; simp
  have hsc := scrs_pos f1
  have hsl := scrs_len b
  kwd_rel
  refine ⟨b, by omega, by omega, rfl, ?_⟩
  kwd_rel
  refine ⟨b, by omega, by omega, rfl, ?_⟩
  kwd_rel
  refine next_call (by decide) (by decide) hD (fun v1 C1 g1 g2 D1 o1 => ?_)
  kwd_rel
  refine ite_two (fun hv => ?_) (fun hv => ?_)
  · have hv := of_decide_eq_true hv
    kwd_rel
    rw [encBs_length]
    refine ite_two (fun hl => ?_) (fun hl => ?_)
    · have hl : (b.all.length : Int) < 14 := of_decide_eq_true hl
      kwd_rel
      refine next_call (by rw [encBs_length]; omega) (by rw [encBs_length]; omega) D1 (fun v2 C2 g3 g4 D2 o2 => ?_)
      rw [encBs_length] at g4
      obtain ⟨s, hs, hat⟩ := atI_encBs g3 g4
      obtain ⟨hs1, hs2⟩ := List.mem_filter.mp hs
      have hsp := parts_len hs1
      refine wr_ix .lst hat ?_
      cases s with
      | block _ _ => cases hs2
      | scroller sn sh sp =>
        replace hsp : sp.length ≤ b.all.length := hsp
        kwd_rel
        refine next_call (by rw [encBs_length]; omega) (by rw [encBs_length]; omega) D2 (fun v3 C3 g5 g6 D3 o3 => ?_)
        rw [encBs_length] at g6
        kwd_rel
        refine w_lst ?_
        kwd_rel
        refine next_call (by decide) (by decide) D3 (fun v4 C4 g7 g8 D4 o4 => ?_)
        have hh : ∃ v : Int, atI [D.int 0, D.int 5, D.int 20, D.int 40] v4 = some (.int v) ∧ 0 ≤ v ∧ v ≤ 1000 := by
          have : v4 = 0 ∨ v4 = 1 ∨ v4 = 2 ∨ v4 = 3 := by omega
          rcases this with rfl | rfl | rfl | rfl <;> exact ⟨_, rfl, by decide, by decide⟩
        obtain ⟨v, hat2, v0, v5⟩ := hh
        refine wr_ix .lst hat2 ?_
        kwd_rel
        exact q (.ins sn v3 (.block g v)) C4 ⟨.scroller sn sh sp, v, hs1, rfl, rfl, g5, by show v3 ≤ (sp.length : Nat); omega, rfl, h1, h2, v0, v5, by omega⟩ D4 fun a ha => by rw [o4 a ha, o3 a ha, o2 a ha, o1 a ha]
    · kwd_rel
      refine ite_two (fun hc => absurd (of_decide_eq_true hc) (by omega)) (fun _ => ?_)
      kwd_rel
      kwd_less
      kwd_rel
      refine next_call (by rw [encBs_length]; omega) (by rw [encBs_length]; omega) D1 (fun v2 C2 g3 g4 D2 o2 => ?_)
      rw [encBs_length] at g4
      obtain ⟨s, hs, hat⟩ := atI_encBs g3 g4
      refine wr_ix .lst hat ?_
      kwd_rel
      refine ite_two (fun hc => ?_) (fun hc => ?_)
      · kwd_rel
        refine w_lst ?_
        kwd_rel
        refine next_call (by decide) (by decide) D2 (fun v3 C3 g5 g6 D3 o3 => ?_)
        have hh : ∃ v : Int, atI [D.int 0, D.int 5, D.int 20, D.int 40] v3 = some (.int v) ∧ 0 ≤ v ∧ v ≤ 1000 := by
          have : v3 = 0 ∨ v3 = 1 ∨ v3 = 2 ∨ v3 = 3 := by omega
          rcases this with rfl | rfl | rfl | rfl <;> exact ⟨_, rfl, by decide, by decide⟩
        obtain ⟨v, hat2, v0, v4⟩ := hh
        refine wr_ix .lst hat2 ?_
        kwd_rel
        exact q (.res s.num v) C3 ⟨⟨s, hs, rfl⟩, v0, v4, by omega, fun z => absurd (of_decide_eq_true hc) (by omega)⟩ D3 fun a ha => by rw [o3 a ha, o2 a ha, o1 a ha]
      · kwd_rel
        refine next_call (by decide) (by decide) D2 (fun v3 C3 g5 g6 D3 o3 => ?_)
        kwd_rel
        exact q (.res s.num (20 + v3)) C3 ⟨⟨s, hs, rfl⟩, by omega, by omega, by omega, fun _ => by omega⟩ D3 fun a ha => by rw [o3 a ha, o2 a ha, o1 a ha]
  · have hv : ¬ v1 < 2 := of_decide_eq_false hv
    kwd_rel
    kwd_less
    kwd_rel
    refine ite_two (fun hc => ?_) (fun hc => ?_)
    · kwd_rel
      rw [encBs_length]
      refine ite_two (fun hl => ?_) (fun hl => ?_)
      · have hl : (2 : Int) < (b.all.length : Nat) := of_decide_eq_true hl
        kwd_rel
        rw [encBs_length]
        refine next_call (by omega) (by omega) D1 (fun v2 C2 g3 g4 D2 o2 => ?_)
        have hat : ∃ s, s ∈ alls b.parts ∧ atI (encBs b.all) (1 + v2) = some (encB s) := by
          obtain ⟨j, rfl⟩ := Int.eq_ofNat_of_zero_le g3
          have el : b.all.length = (alls b.parts).length + 1 := by rw [all_eq, List.length_cons]
          have hj : j < (alls b.parts).length := by omega
          refine ⟨(alls b.parts)[j], List.getElem_mem hj, ?_⟩
          have e1 : (1 : Int) + (j : Nat) = ((j + 1 : Nat) : Int) := by omega
          rw [e1]
          refine atI_nat ?_
          rw [encBs_map, List.getElem?_map, all_eq, List.getElem?_cons_succ, List.getElem?_eq_getElem hj]
          rfl
        obtain ⟨s, hs, hat⟩ := hat
        have hne : s.num ≠ b.num := fun z => by
          rw [all_eq, List.map_cons, List.nodup_cons] at f4
          exact f4.1 (by rw [← z]; exact List.mem_map.mpr ⟨s, hs, rfl⟩)
        kwd_rel
        refine wr_ix .lst hat ?_
        kwd_rel
        exact q (.rem s.num) C2 ⟨⟨s, by rw [all_eq]; exact List.mem_cons_of_mem _ hs, rfl⟩, hne, by omega⟩ D2 fun a ha => by rw [o2 a ha, o1 a ha]
      · kwd_rel
        refine next_call (by rw [encBs_length]; omega) (by rw [encBs_length]; omega) D1 (fun v2 C2 g3 g4 D2 o2 => ?_)
        rw [encBs_length] at g4
        obtain ⟨s, hs, hat⟩ := atI_encBs g3 g4
        refine wr_ix .lst hat ?_
        kwd_rel
        refine ite_two (fun hc => ?_) (fun hc => ?_)
        · kwd_rel
          refine w_lst ?_
          kwd_rel
          refine next_call (by decide) (by decide) D2 (fun v3 C3 g5 g6 D3 o3 => ?_)
          have hh : ∃ v : Int, atI [D.int 0, D.int 5, D.int 20, D.int 40] v3 = some (.int v) ∧ 0 ≤ v ∧ v ≤ 1000 := by
            have : v3 = 0 ∨ v3 = 1 ∨ v3 = 2 ∨ v3 = 3 := by omega
            rcases this with rfl | rfl | rfl | rfl <;> exact ⟨_, rfl, by decide, by decide⟩
          obtain ⟨v, hat2, v0, v4⟩ := hh
          refine wr_ix .lst hat2 ?_
          kwd_rel
          exact q (.res s.num v) C3 ⟨⟨s, hs, rfl⟩, v0, v4, by omega, fun z => absurd (of_decide_eq_true hc) (by omega)⟩ D3 fun a ha => by rw [o3 a ha, o2 a ha, o1 a ha]
        · kwd_rel
          refine next_call (by decide) (by decide) D2 (fun v3 C3 g5 g6 D3 o3 => ?_)
          kwd_rel
          exact q (.res s.num (20 + v3)) C3 ⟨⟨s, hs, rfl⟩, by omega, by omega, by omega, fun _ => by omega⟩ D3 fun a ha => by rw [o3 a ha, o2 a ha, o1 a ha]
    · kwd_rel
      kwd_less
      kwd_rel
      refine next_call (by rw [encBs_length]; omega) (by rw [encBs_length]; omega) D1 (fun v2 C2 g3 g4 D2 o2 => ?_)
      rw [encBs_length] at g4
      obtain ⟨s, hs, hat⟩ := atI_encBs g3 g4
      refine wr_ix .lst hat ?_
      kwd_rel
      refine ite_two (fun hc => ?_) (fun hc => ?_)
      · kwd_rel
        refine w_lst ?_
        kwd_rel
        refine next_call (by decide) (by decide) D2 (fun v3 C3 g5 g6 D3 o3 => ?_)
        have hh : ∃ v : Int, atI [D.int 0, D.int 5, D.int 20, D.int 40] v3 = some (.int v) ∧ 0 ≤ v ∧ v ≤ 1000 := by
          have : v3 = 0 ∨ v3 = 1 ∨ v3 = 2 ∨ v3 = 3 := by omega
          rcases this with rfl | rfl | rfl | rfl <;> exact ⟨_, rfl, by decide, by decide⟩
        obtain ⟨v, hat2, v0, v4⟩ := hh
        refine wr_ix .lst hat2 ?_
        kwd_rel
        exact q (.res s.num v) C3 ⟨⟨s, hs, rfl⟩, v0, v4, by omega, fun z => absurd (of_decide_eq_true hc) (by omega)⟩ D3 fun a ha => by rw [o3 a ha, o2 a ha, o1 a ha]
      · kwd_rel
        refine next_call (by decide) (by decide) D2 (fun v3 C3 g5 g6 D3 o3 => ?_)
        kwd_rel
        exact q (.res s.num (20 + v3)) C3 ⟨⟨s, hs, rfl⟩, by omega, by omega, by omega, fun _ => by omega⟩ D3 fun a ha => by rw [o3 a ha, o2 a ha, o1 a ha]
end
section
variable {P : Program} {w : World} {K : PySem.W.Frag} {mg : Str → Option Value} {base : Heap}
/-! ### the law's windows, merged from below -/
def fSpans (n : Nat) : SpD := fun ds C P => ∃ (b : Box) (O : List (Int × Int)) (t f e : Int), b.lev ≤ n ∧ b.all.length ≤ 1000 ∧ (b.all.map Box.num).Nodup ∧ ds = [encB b, .int t, .int f, .int e, .dic (encI O)] ∧
  ∀ a, C a = none → P (.ref a) (updC C a (.dic (winL O b t f e)))
abbrev slaw_spans : Stmt := topS 39
theorem sclaw_spans : FnScope ["_law_box_here", "_law_top", "_law_first", "_law_behind", "_law_offsets", "_law_found", "_law_at", "_law_part", "_law_below", "_law_number"] ["_law_box_here", "_law_top", "_law_first", "_law_behind", "_law_offsets"] (defScope slaw_spans) := ⟨rfl, rfl, rfl, by decide +kernel, rfl, by decide +kernel, by decide +kernel⟩
theorem ok_law_spans (Df : DefAt K mg "_law_spans" slaw_spans ["_law_box_here", "_law_top", "_law_first", "_law_behind", "_law_offsets"]) (T : Top mg) : ∀ n, Has P w K mg base (n+1) "_law_spans" ["_law_box_here", "_law_top", "_law_first", "_law_behind", "_law_offsets"] (spD (fSpans n)) := by
  intro n
  induction n with
  | zero =>
    refine has_of Df sclaw_spans (fun ds C P ⟨_, _, _, _, _, _, _, _, h, _⟩ => by rw [h]; rfl) fun f cdv A outer s H E hr => ⟨_, pss_never, fun B ds C P ⟨b, _, _, _, _, hl, _⟩ => ws_never ?_⟩
    cases b <;> simp [Box.lev] at hl
  | succ n h_law_spans =>
    refine has_of Df sclaw_spans (fun ds C P ⟨_, _, _, _, _, _, _, _, h, _⟩ => by rw [h]; rfl) fun f cdv A outer s H E hr => ⟨_, 
    (pss_cons (ps_nm 5 sclaw_spans.nd (pe_disp (pps_cons (pe_ix (ix_seqK K) (pv 0) pe_int (fun _ _ => rfl)) (pe_tup (pa_cons (pv 1) (pa_cons (pv 2) (pa_cons (pv 3) pa_nil)))) pps_nil) (by rfl) (by rfl) (fun z => by cases z) (by decide)))
    (pss_cons (ps_nm 6 sclaw_spans.nd (pe_op op_sub (pv 1) (pe_dget2 (hu_of hr) (pv 4) (pe_ix (ix_seqK K) (pv 0) pe_int (fun _ _ => rfl)) pe_int ⟨rfl, rfl, rfl, rfl⟩)))
    (pss_cons (ps_for PassesOwn.never rfl (pi_seqK K (pe_ifExp (pt_cmpR (op_eqK K hr) (pe_ix (ix_seqK K) (pv 0) pe_int (fun _ _ => rfl)) pe_str (nomark _)) (pe_ix (ix_seqK K) (pv 0) pe_int (fun _ _ => rfl)) (pe_tup pa_nil))) (pg_nm 7 sclaw_spans.nd) 
      (pss_cons (ps_nm 8 sclaw_spans.nd (pe_def h_law_spans (hr.mono (by omega)) (pa_cons (pv 7) (pa_cons (pv 6) (pa_cons (pe_callB (call_maxK K) (by rfl) T.max bt_max (pa_cons (pv 2) (pa_cons (pv 6) pa_nil))) (pa_cons (pe_callB (call_minK K) (by rfl) T.min bt_min (pa_cons (pv 3) (pa_cons (pe_op (op_addK K) (pv 6) (pe_ix (ix_seqK K) (pv 7) pe_int (fun _ _ => rfl))) pa_nil))) (pa_cons (pv 4) pa_nil)))))))
      (pss_cons (ps_lock (ps_for PassesOwn.never rfl (pi_keys (pv 8)) (pg_nm 9 sclaw_spans.nd) 
        (pss_one (ps_dput (hu_of hr) (pv 5) (pv 9) (pe_dget (hu_of hr) (pv 8) (pv 9) (fun _ _ => rfl)) rfl))))
      (pss_one (ps_nm 6 sclaw_spans.nd (pe_op (op_addK K) (pv 6) (pe_ix (ix_seqK K) (pv 7) pe_int (fun _ _ => rfl))))))))
    (pss_one (ps_ret (pv 5)))))), fun B ds C P ⟨b, O, t, f1, e1, hl, hz, hnd, hd, q⟩ => ?_⟩
    subst hd
    refine ws_weak ?_
    kwd_rel
    refine w_dispC ?_
    intro a ha
    refine wps_cons ?_
    kwd_rel
    refine wps_nil ?_
    refine ⟨updC_same, by simp, ?_⟩
    rw [updC_updC]
    kwd_rel
    refine w_dget2 ?_
    kwd_rel
    refine ⟨⟨_, .dic⟩, ?_⟩
    kwd_rel
    refine ⟨_, b.num, .dic, rfl, ?_⟩
    rw [getD_encI]
    kwd_rel
    have fin : ∀ C1 : CH, C1 a = some (.dic (winL O b t f1 e1)) → (∀ x c, x ≠ a → C x = some c → C1 x = some c) → ∃ C2 : CH, Sub C2 C1 ∧ P (.ref a) C2 := fun C1 h1 h2 =>
      ⟨_, fun x c hx => by
        by_cases e : x = a
        · subst e; rw [updC_same] at hx; rw [h1, ← hx]
        · rw [updC_ne e] at hx; exact h2 x c e hx, q a ha⟩
    cases b with
    | block m h =>
      refine ws_for (fun rest E1 C1 => rest = [] ∧ (∃ x6 x7 x8 x9, E1 = [some (encB (.block m h)), some (.int t), some (.int f1), some (.int e1), some (.dic (encI O)), some (.ref a), x6, x7, x8, x9]) ∧ C1 = updC C a (.dic [(m, tri t f1 e1)])) (wi_seq ?_) ?_ ?_
      · kwd_rel
        kwd_less
        kwd_rel
        exact ⟨rfl, ⟨_, _, _, _, rfl⟩, rfl⟩
      · rintro E1 C1 ⟨_, ⟨x6, x7, x8, x9, rfl⟩, rfl⟩
        kwd_rel
        refine fin _ updC_same fun x c hx hc => by rw [updC_ne hx]; exact hc
      · rintro x xs E1 C1 ⟨h, _⟩
        cases h
    | scroller m h ps =>
      have eg : ((getI O (Box.scroller m h ps).num).getD 0) = gI O m := rfl
      rw [eg]
      refine ws_for (fun rest E1 C1 => ∃ (pre post : List Box) (x7 x8 x9 : Option D), ps = pre ++ post ∧ rest = encBs post ∧
        E1 = [some (encB (.scroller m h ps)), some (.int t), some (.int f1), some (.int e1), some (.dic (encI O)), some (.ref a), some (.int (t - gI O m + (pre.map Box.hgt).sum)), x7, x8, x9] ∧
        C1 a = some (.dic (winPs O pre (t - gI O m) f1 e1 [(m, tri t f1 e1)])) ∧ ∀ x c, x ≠ a → C x = some c → C1 x = some c) (wi_seq ?_) ?_ ?_
      · kwd_rel
        kwd_less
        kwd_rel
        refine ⟨[], ps, none, none, none, rfl, rfl, by rw [List.map_nil, List.sum_nil, Int.add_zero]; rfl, updC_same, fun x c hx hc => by rw [updC_ne hx]; exact hc⟩
      · rintro E1 C1 ⟨pre, post, x7, x8, x9, h1, h2, rfl, h3, h4⟩
        have e := encBs_nil h2
        subst e
        rw [List.append_nil] at h1
        subst h1
        kwd_rel
        refine fin _ ?_ h4
        rw [h3, ← winB_L hnd, winB]
        rfl
      rintro x xs E1 C1 ⟨pre, post, x7, x8, x9, h1, h2, rfl, h3, h4⟩
      obtain ⟨p, r, rfl, rfl, rfl⟩ := encBs_cons h2
      have hpart := all_len_part (b := .scroller m h ps) (p := p) (pre := pre) (post := r) h1
      have hmem : p ∈ (Box.scroller m h ps).parts := by show _ ∈ ps; rw [h1]; simp
      rw [List.length_cons] at hpart
      have hpn : (p.all.map Box.num).Nodup := by
        rw [Box.all, List.map_cons, List.nodup_cons, h1, alls_append, List.map_append, List.nodup_append] at hnd
        have := hnd.2.2.1
        rw [alls, List.map_append, List.nodup_append] at this
        exact this.1
      kwd_rel
      refine ⟨p, O, _, _, _, lev_parts hl hmem, by omega, hpn, rfl, fun c hc => ?_⟩
      have ca : a ≠ c := fun e => by rw [← e, h3] at hc; cases hc
      have hmin : min e1 (t - gI O m + (pre.map Box.hgt).sum + p.hgt) = min (t - gI O m + (pre.map Box.hgt).sum + p.hgt) e1 := by omega
      have hmax : max f1 (t - gI O m + (pre.map Box.hgt).sum) = max (t - gI O m + (pre.map Box.hgt).sum) f1 := by omega
      rw [hmin, hmax]
      have kk := winL_keys O p (t - gI O m + (pre.map Box.hgt).sum) (max (t - gI O m + (pre.map Box.hgt).sum) f1) (min (t - gI O m + (pre.map Box.hgt).sum + p.hgt) e1)
      have eB : putsD (winPs O pre (t - gI O m) f1 e1 [(m, tri t f1 e1)]) (winL O p (t - gI O m + (pre.map Box.hgt).sum) (max (t - gI O m + (pre.map Box.hgt).sum) f1) (min (t - gI O m + (pre.map Box.hgt).sum + p.hgt) e1)) = winPs O (pre ++ [p]) (t - gI O m) f1 e1 [(m, tri t f1 e1)] := by
        rw [winPs_app, winPs, winPs, winB_puts]
      have hlen := winPs_len O pre (t - gI O m) f1 e1 [(m, tri t f1 e1)]
      have eat : t - gI O m + (pre.map Box.hgt).sum + p.hgt = t - gI O m + ((pre ++ [p]).map Box.hgt).sum := by simp; omega
      generalize hks : winL O p (t - gI O m + (pre.map Box.hgt).sum) (max (t - gI O m + (pre.map Box.hgt).sum) f1) (min (t - gI O m + (pre.map Box.hgt).sum + p.hgt) e1) = ks at kk eB
      have hkl : ks.length = p.all.length := by rw [← hks, winL_len]
      generalize hacc : winPs O pre (t - gI O m) f1 e1 [(m, tri t f1 e1)] = acc at h3 eB hlen
      have ndk : (ks.map (·.1)).Nodup := by rw [kk]; exact hpn
      kwd_rel
      refine ws_seq (ws_lockC updC_same ?_)
      intro od vs
      refine ws_forKC ks od vs c (fun rest E1 C1 => ∃ (pre2 post2 : List (Int × D)) (x9 : Option D), ks = pre2 ++ post2 ∧ rest = (post2.map (·.1)).map D.int ∧
        E1 = [some (encB (.scroller m h ps)), some (.int t), some (.int f1), some (.int e1), some (.dic (encI O)), some (.ref a), some (.int (t - gI O m + (pre.map Box.hgt).sum)), some (encB p), some (.ref c), x9] ∧
        C1 c = some (.ldic od vs ks) ∧ C1 a = some (.dic (putsD acc pre2)) ∧ ∀ x cc, x ≠ a → C x = some cc → C1 x = some cc) ?_ ?_ ?_ ?_
      · kwd_rel
        refine ⟨rfl, updC_same, [], ks, _, rfl, rfl, rfl, updC_same, ?_, fun x cc hx hcc => ?_⟩
        · rw [updC_ne ca, updC_ne ca]; exact h3
        · have xc : x ≠ c := fun e => by have := h4 x cc hx hcc; rw [e, hc] at this; cases this
          rw [updC_ne xc, updC_ne xc]; exact h4 x cc hx hcc
      · rintro r2 E2 C2 ⟨_, _, _, _, _, _, z, _⟩
        exact z
      · rintro E2 C2 ⟨pre2, post2, x9', k1, k2, rfl, k3, k4, k5⟩
        have e : post2 = [] := by
          cases post2 with
          | nil => rfl
          | cons _ _ => cases k2
        subst e
        rw [List.append_nil] at k1
        subst k1
        refine ⟨k3, ?_⟩
        refine nx_show ?_
        refine ws_next ?_
        kwd_rel
        refine ⟨pre ++ [p], r, _, _, _, by simp [h1], rfl, by rw [eat]; rfl, by rw [updC_ne ca, k4, eB], fun x cc hx hcc => ?_⟩
        have xc : x ≠ c := fun e => by have := h4 x cc hx hcc; rw [e, hc] at this; cases this
        rw [updC_ne xc]; exact k5 x cc hx hcc
      · rintro y ys E2 C2 ⟨pre2, post2, x9', k1, k2, rfl, k3, k4, k5⟩
        obtain ⟨s, r2, rfl⟩ : ∃ s r2, post2 = s :: r2 := by
          cases post2 with
          | nil => cases k2
          | cons s r2 => exact ⟨s, r2, rfl⟩
        obtain ⟨kn, kd⟩ := s
        injection k2 with e1' e2'
        subst e1' e2'
        have hl2 : pre2.length ≤ ks.length := by rw [k1]; simp
        have hpl : (putsD acc pre2).length ≤ 100000 := by
          have : ∀ (l acc : List (Int × D)), (putsD acc l).length ≤ acc.length + l.length := fun l => by
            induction l with
            | nil => intro acc; exact Nat.le_refl _
            | cons p l ih =>
              intro acc
              have h1 := ih (putD acc p.1 p.2)
              have h2 := putD_len acc p.1 p.2
              show (putsD (putD acc p.1 p.2) l).length ≤ _
              simp at h2 ⊢
              omega
          have := this pre2 acc
          simp at hlen
          omega
        kwd_rel
        refine ws_dput ?_
        refine w_dgetL ?_
        kwd_rel
        refine ⟨c, od, vs, ks, kn, kd, rfl, k3, rfl, look_nd k1 ndk, ?_⟩
        kwd_rel
        refine ⟨a, _, kn, rfl, rfl, k4, by omega, ?_⟩
        refine ⟨pre2 ++ [(kn, kd)], r2, _, by simp [k1], rfl, rfl, ?_, ?_, fun x cc hx hcc => ?_⟩
        · rw [updC_ne (Ne.symm ca)]; exact k3
        · rw [updC_same, putsD_app]; rfl
        · rw [updC_ne hx]; exact k5 x cc hx hcc
def fLWinC (n : Nat) : SpD := fun ds C P => ∃ (b : Box) (O : List (Int × Int)), b.lev ≤ n ∧ b.all.length ≤ 1000 ∧ (b.all.map Box.num).Nodup ∧ ds = [encB b, .dic (encI O)] ∧ ∀ a, C a = none → P (.ref a) (updC C a (.dic (winsOf O b)))
abbrev slaw_windows : Stmt := topS 40
theorem sclaw_windows : FnScope ["_law_document_here", "_law_offsets"] ["_law_document_here", "_law_offsets"] (defScope slaw_windows) := ⟨rfl, rfl, rfl, by decide +kernel, rfl, by decide +kernel, by decide +kernel⟩
theorem ok_law_windows {n k : Nat} (Df : DefAt K mg "_law_windows" slaw_windows ["_law_document_here", "_law_offsets"]) (T : Top mg) (h_law_spans : Has P w K mg base k "_law_spans" ["_law_box_here", "_law_top", "_law_first", "_law_behind", "_law_offsets"] (spD (fSpans n))) : Has P w K mg base (k+1) "_law_windows" ["_law_document_here", "_law_offsets"] (spD (fLWinC n)) := by
  refine has_of Df sclaw_windows (fun ds C P ⟨_, _, _, _, _, h, _⟩ => by rw [h]; rfl) fun f cdv A outer s H E hr => ⟨_, 
    (pss_one (ps_ret (pe_def h_law_spans (hr.mono (by omega)) (pa_cons (pv 0) (pa_cons pe_int (pa_cons pe_int (pa_cons (pe_ix (ix_seqK K) (pv 0) pe_int (fun _ _ => rfl)) (pa_cons (pv 1) pa_nil)))))))), fun B ds C P ⟨b, O, hl, hz, hnd, hd, q⟩ => ?_⟩
  subst hd
  kwd_rel
  refine ⟨b, O, 0, 0, b.hgt, hl, hz, hnd, rfl, fun a ha => ?_⟩
  rw [← winB_L hnd]
  exact q a ha
def fLPict (n : Nat) : SpD := fun ds C P => ∃ (b : Box) (O : List (Int × Int)), b.lev ≤ n ∧ b.all.length ≤ 1000 ∧ (b.all.map Box.num).Nodup ∧ ds = [encB b, .dic (encI O)] ∧ P (.lst (pictD (winsOf O b) b)) C
def pictL (W : List (Int × D)) (l : List Box) : List D := ((((l.filter fun p => !p.isS).map Box.num).map D.int).filter (visN W)).map (entN W)
theorem pictL_snoc (W : List (Int × D)) (l : List Box) (p : Box) : pictL W (l ++ [p]) = pictL W l ++ pictL W [p] := by simp [pictL]
abbrev slaw_picture : Stmt := topS 41
theorem sclaw_picture : FnScope ["_law_document_here", "_law_offsets", "_law_spans_here", "_law_found", "_law_box_here", "_law_top", "_law_first", "_law_behind"] ["_law_document_here", "_law_offsets"] (defScope slaw_picture) := ⟨rfl, rfl, rfl, by decide +kernel, rfl, by decide +kernel, by decide +kernel⟩
theorem ok_law_picture {n k : Nat} (Df : DefAt K mg "_law_picture" slaw_picture ["_law_document_here", "_law_offsets"]) (T : Top mg) (h_law_windows : Has P w K mg base k "_law_windows" ["_law_document_here", "_law_offsets"] (spD (fLWinC n))) (h_law_flat : Has P w K mg base k "_law_flat" ["_law_box_here"] (spD (fAllB n))) : Has P w K mg base (k+1) "_law_picture" ["_law_document_here", "_law_offsets"] (spD (fLPict n)) := by
  refine has_of Df sclaw_picture (fun ds C P ⟨_, _, _, _, _, h, _⟩ => by rw [h]; rfl) fun f cdv A outer s H E hr => ⟨_, 
    (pss_cons (ps_nm 2 sclaw_picture.nd (pe_def h_law_windows (hr.mono (by omega)) (pa_cons (pv 0) (pa_cons (pv 1) pa_nil))))
    (pss_cons (ps_nm 3 sclaw_picture.nd (pe_lst pa_nil))
    (pss_cons (ps_for PassesOwn.never rfl (pi_seqK K (pe_def h_law_flat (hr.mono (by omega)) (pa_cons (pv 0) pa_nil))) (pg_nm 4 sclaw_picture.nd) 
      (pss_cons (ps_asg (pe_dget (hu_of hr) (pv 2) (pe_ix (ix_seqK K) (pv 4) pe_int (fun _ _ => rfl)) (fun _ _ => rfl)) (pg_tupK K (n := 3) (pgs_cons (pg_nm 5 sclaw_picture.nd) (pgs_cons (pg_nm 6 sclaw_picture.nd) (pgs_cons (pg_nm 7 sclaw_picture.nd) pgs_nil)))))
      (pss_one (ps_if (PW.pt (pw_and (pt_cmpR (op_eqK K hr) (pe_ix (ix_seqK K) (pv 4) pe_int (fun _ _ => rfl)) pe_str (nomark _)) (pw_and1 (pt_cmpR op_lt (pv 6) (pv 7) (nomark _))))) 
        (pss_one (ps_expr (pe_bmK K PySem.F.plainAttrs_list PySem.F.slot_list_append PySem.F.type_list_append mt_append (pv 3) (pa_cons (pe_tup (pa_cons (pe_ix (ix_seqK K) (pv 4) pe_int (fun _ _ => rfl)) (pa_cons (pv 5) (pa_cons (pv 6) (pa_cons (pv 7) pa_nil))))) pa_nil)))) pss_nil))))
    (pss_one (ps_ret (pv 3)))))), fun B ds C P ⟨b, O, hl, hz, hnd, hd, q⟩ => ?_⟩
  subst hd
  refine ws_seq (ws_set (w_frzD ?_))
  kwd_rel
  refine ⟨b, O, hl, hz, hnd, rfl, fun a ha => ⟨a, _, rfl, updC_same, ?_⟩⟩
  rw [delC_updC ha]
  kwd_rel
  refine w_lstC ?_
  kwd_rel
  intro c hc
  kwd_rel
  refine ws_for (fun rest E1 C1 => ∃ (pre post : List Box) (x4 x5 x6 x7 : Option D), b.all = pre ++ post ∧ rest = encBs post ∧ E1 = [some (encB b), some (.dic (encI O)), some (.dic (winsOf O b)), some (.ref c), x4, x5, x6, x7] ∧ C1 = updC C c (.lst (pictL (winsOf O b) pre))) (wi_seq ?_) ?_ ?_
  · kwd_rel
    refine ⟨b, hl, by omega, rfl, ?_⟩
    kwd_rel
    exact ⟨[], b.all, none, none, none, none, rfl, rfl, rfl, rfl⟩
  · rintro E1 C1 ⟨pre, post, x4, x5, x6, x7, h1, h2, rfl, rfl⟩
    have e := encBs_nil h2
    subst e
    rw [List.append_nil] at h1
    subst h1
    refine nx_show ?_
    refine ws_ret (w_varF rfl updC_same ?_)
    rw [delC_updC hc]
    exact q
  rintro x xs E1 C1 ⟨pre, post, x4, x5, x6, x7, h1, h2, rfl, rfl⟩
  obtain ⟨p, r, rfl, rfl, rfl⟩ := encBs_cons h2
  obtain ⟨z1, z2, z3, ht⟩ := winsOf_tri O (b := b) (p := p) (by rw [h1]; simp)
  have hpl : (pictL (winsOf O b) pre).length ≤ 1000 := by
    unfold pictL
    rw [List.length_map]
    refine Nat.le_trans (List.length_filter_le _ _) ?_
    rw [List.length_map, List.length_map]
    refine Nat.le_trans (List.length_filter_le _ _) ?_
    have := congrArg List.length h1
    simp at this
    omega
  have hv : visN (winsOf O b) (.int p.num) = decide (z2 < z3) := by simp [visN, ht, tri]
  have he : entN (winsOf O b) (.int p.num) = .tup [.int p.num, .int z1, .int z2, .int z3] := by simp [entN, ht, tri]
  kwd_rel
  refine w_dget ?_
  kwd_rel
  refine ⟨_, p.num, _, .dic, rfl, ht, ?_⟩
  unfold tri
  refine wg_tup rfl (wgs_cons (wg_name (wgs_cons (wg_name (wgs_cons (wg_name (wgs_nil ?_)))))))
  cases p with
  | scroller m h ps =>
    have e : pictL (winsOf O b) (pre ++ [.scroller m h ps]) = pictL (winsOf O b) pre := by rw [pictL_snoc]; simp [pictL, Box.isS]
    kwd_rel
    kwd_less
    kwd_rel
    kwd_less
    kwd_rel
    exact ⟨pre ++ [.scroller m h ps], r, _, _, _, _, by simp [h1], rfl, rfl, by rw [e]⟩
  | block m h =>
    kwd_rel
    kwd_less
    kwd_rel
    refine ite_two (fun hc1 => ?_) (fun hc1 => ?_)
    · have e : pictL (winsOf O b) (pre ++ [.block m h]) = pictL (winsOf O b) pre ++ [.tup [.int m, .int z1, .int z2, .int z3]] := by
        rw [pictL_snoc]
        simp only [Box.num] at hv he
        simp [pictL, Box.isS, Box.num, hv, he, of_decide_eq_true hc1]
      kwd_rel
      refine w_bmL ?_
      kwd_rel
      refine ⟨⟨_, .cell updC_same⟩, ?_⟩
      kwd_rel
      refine wm_append updC_same (by omega) ?_
      kwd_rel
      exact ⟨pre ++ [.block m h], r, _, _, _, _, by simp [h1], rfl, rfl, by rw [updC_updC, e]; rfl⟩
    · have e : pictL (winsOf O b) (pre ++ [.block m h]) = pictL (winsOf O b) pre := by
        rw [pictL_snoc]
        simp only [Box.num] at hv he
        simp [pictL, Box.isS, Box.num, hv, of_decide_eq_false hc1]
      kwd_rel
      exact ⟨pre ++ [.block m h], r, _, _, _, _, by simp [h1], rfl, rfl, by rw [e]⟩
def fLUnd (n : Nat) : SpD := fun ds C P => ∃ (b : Box) (O : List (Int × Int)) (row : Int), b.lev ≤ n ∧ b.all.length ≤ 1000 ∧ (b.all.map Box.num).Nodup ∧ (∀ p ∈ b.all, 0 ≤ p.hgt) ∧ (∀ k, 0 ≤ gI O k) ∧ 0 ≤ row ∧ row < b.hgt ∧ ds = [encB b, .dic (encI O), .int row] ∧
  P (.tup [.tup ((undB O b row []).1.map D.int), (undB O b row []).2]) C
abbrev slaw_under : Stmt := topS 42
theorem sclaw_under : FnScope ["_law_document_here", "_law_offsets", "_law_row", "_law_spans_here", "_law_path", "_law_target", "_law_box_here"] ["_law_document_here", "_law_offsets", "_law_row"] (defScope slaw_under) := ⟨rfl, rfl, rfl, by decide +kernel, rfl, by decide +kernel, by decide +kernel⟩
theorem ok_law_under {n k : Nat} (Df : DefAt K mg "_law_under" slaw_under ["_law_document_here", "_law_offsets", "_law_row"]) (T : Top mg) (h_law_windows : Has P w K mg base k "_law_windows" ["_law_document_here", "_law_offsets"] (spD (fLWinC n))) (h_law_flat : Has P w K mg base k "_law_flat" ["_law_box_here"] (spD (fAllB n))) : Has P w K mg base (k+1) "_law_under" ["_law_document_here", "_law_offsets", "_law_row"] (spD (fLUnd n)) := by
  refine has_of Df sclaw_under (fun ds C P ⟨_, _, _, _, _, _, _, _, _, _, h, _⟩ => by rw [h]; rfl) fun f cdv A outer s H E hr => ⟨_, 
    (pss_cons (ps_nm 3 sclaw_under.nd (pe_def h_law_windows (hr.mono (by omega)) (pa_cons (pv 0) (pa_cons (pv 1) pa_nil))))
    (pss_cons (ps_nm 4 sclaw_under.nd (pe_lst pa_nil))
    (pss_cons (ps_nm 5 sclaw_under.nd pe_non)
    (pss_cons (ps_for PassesOwn.never rfl (pi_seqK K (pe_def h_law_flat (hr.mono (by omega)) (pa_cons (pv 0) pa_nil))) (pg_nm 6 sclaw_under.nd) 
      (pss_one (ps_if (pt_chain op_le op_lt (pe_ix (ix_seqK K) (pe_dget (hu_of hr) (pv 3) (pe_ix (ix_seqK K) (pv 6) pe_int (fun _ _ => rfl)) (fun _ _ => rfl)) pe_int (fun _ _ => rfl)) (pv 2) (pe_ix (ix_seqK K) (pe_dget (hu_of hr) (pv 3) (pe_ix (ix_seqK K) (pv 6) pe_int (fun _ _ => rfl)) (fun _ _ => rfl)) pe_int (fun _ _ => rfl))) 
        (pss_one (ps_if (pt_cmpR (op_eqK K hr) (pe_ix (ix_seqK K) (pv 6) pe_int (fun _ _ => rfl)) pe_str (nomark _)) 
          (pss_one (ps_nm 5 sclaw_under.nd (pe_ix (ix_seqK K) (pv 6) pe_int (fun _ _ => rfl)))) 
          (pss_one (ps_nm 4 sclaw_under.nd (pe_op (op_addK K) (pe_lst (pa_cons (pe_ix (ix_seqK K) (pv 6) pe_int (fun _ _ => rfl)) pa_nil)) (pv 4)))))) pss_nil)))
    (pss_one (ps_ret (pe_tup (pa_cons (pe_callTy (call_tupK K) (by rfl) T.tuple bt_tuple (pa_cons (pv 4) pa_nil)) (pa_cons (pv 5) pa_nil))))))))), fun B ds C P ⟨b, O, row, hl, hz, hnd, hh, hO, h0, h1, hd, q⟩ => ?_⟩
  subst hd
  rw [← lund_root hO hnd hh h0 h1] at q
  refine ws_seq (ws_set (w_frzD ?_))
  kwd_rel
  refine ⟨b, O, hl, hz, hnd, rfl, fun a ha => ⟨a, _, rfl, updC_same, ?_⟩⟩
  rw [delC_updC ha]
  kwd_rel
  refine w_lst ?_
  kwd_rel
  refine ws_for (fun rest E1 C1 => ∃ (pre post : List Box) (x6 : Option D), b.all = pre ++ post ∧ rest = encBs post ∧ E1 = [some (encB b), some (.dic (encI O)), some (.int row), some (.dic (winsOf O b)), some (.lst ((lund (winsOf O b) row pre ([], .non)).1.map D.int)), some ((lund (winsOf O b) row pre ([], .non)).2), x6] ∧ C1 = C) (wi_seq ?_) ?_ ?_
  · kwd_rel
    refine ⟨b, hl, by omega, rfl, ?_⟩
    kwd_rel
    exact ⟨[], b.all, none, rfl, rfl, rfl, rfl⟩
  · rintro E1 C1 ⟨pre, post, x6, h2, h3, rfl, rfl⟩
    have e := encBs_nil h3
    subst e
    rw [List.append_nil] at h2
    subst h2
    kwd_rel
    refine wc_tuple .lst ?_
    kwd_rel
    exact q
  rintro x xs E1 C1 ⟨pre, post, x6, h2, h3, rfl, rfl⟩
  obtain ⟨p, r, rfl, rfl, rfl⟩ := encBs_cons h3
  obtain ⟨z1, z2, z3, ht⟩ := winsOf_tri O (b := b) (p := p) (by rw [h2]; simp)
  have hst : lund (winsOf O b) row (pre ++ [p]) ([], .non) = lund1 (winsOf O b) row (lund (winsOf O b) row pre ([], .non)) p := by rw [lund_app]; rfl
  have hln := lund_len (winsOf O b) row pre ([], .non)
  have hpl : pre.length ≤ b.all.length := by rw [h2]; simp
  have hhas := hasN_tri (W := winsOf O b) (row := row) ht
  unfold lund1 at hst
  rw [hhas] at hst
  generalize lund (winsOf O b) row pre ([], .non) = S at hst hln ⊢
  have tail : ∀ (S2 : List Int × D), lund (winsOf O b) row (pre ++ [p]) ([], .non) = S2 → ∃ (pre1 post1 : List Box) (x6 : Option D), b.all = pre1 ++ post1 ∧ encBs r = encBs post1 ∧ [some (encB b), some (.dic (encI O)), some (.int row), some (.dic (winsOf O b)), some (.lst (S2.1.map D.int)), some S2.2, some (encB p)] =
      [some (encB b), some (.dic (encI O)), some (.int row), some (.dic (winsOf O b)), some (.lst ((lund (winsOf O b) row pre1 ([], .non)).1.map D.int)), some ((lund (winsOf O b) row pre1 ([], .non)).2), x6] ∧ C1 = C1 := fun S2 e => ⟨pre ++ [p], r, some (encB p), by simp [h2], rfl, by rw [e], rfl⟩
  kwd_rel
  refine w_dget ?_
  kwd_rel
  refine ⟨_, p.num, _, .dic, rfl, ht, ?_⟩
  unfold tri
  kwd_rel
  refine ite_two (fun hc1 => ?_) (fun hc1 => ?_)
  · have c1 := of_decide_eq_true hc1
    kwd_rel
    refine w_dget ?_
    kwd_rel
    refine ⟨_, p.num, _, .dic, rfl, ht, ?_⟩
    unfold tri
    kwd_rel
    refine ite_two (fun hc2 => ?_) (fun hc2 => ?_)
    · have c2 := of_decide_eq_true hc2
      rw [if_pos (decide_eq_true ⟨c1, c2⟩)] at hst
      cases p with
      | block m h =>
        kwd_rel
        kwd_less
        kwd_rel
        exact tail _ hst
      | scroller m h ps =>
        kwd_rel
        kwd_less
        kwd_rel
        refine w_lst ?_
        kwd_rel
        refine wr_addL .lst .lst (by simp at hln ⊢; omega) ?_
        kwd_rel
        exact tail _ hst
    · have c2 := of_decide_eq_false hc2
      rw [if_neg (by simp; omega)] at hst
      kwd_rel
      exact tail _ hst
  · have c1 := of_decide_eq_false hc1
    rw [if_neg (by simp; omega)] at hst
    kwd_rel
    kwd_less
    kwd_rel
    exact tail _ hst
/-- a scroll by moves of one scroller each -/
def fLScroll : SpP := fun ds P => ∃ (b : Box) (O : List (Int × Int)) (path : List Int) (x : D) (am : Int), GoodS b O ∧ SeqF x (path.map D.int) ∧ path.length ≤ 1000 ∧ (∀ k ∈ path, k ∈ (scrsB b).map Box.num) ∧ ds = [encB b, .dic (encI O), x, .int am] ∧
  P (.tup ((scrollL (gI (rangesB b)) path O am).2.map pairD))
abbrev slaw_scroll : Stmt := topS 44
theorem sclaw_scroll : FnScope ["_law_document_here", "_law_offsets", "_law_path", "_law_amount", "_law_moves", "_law_number", "_law_before"] ["_law_document_here", "_law_offsets", "_law_path", "_law_amount"] (defScope slaw_scroll) := ⟨rfl, rfl, rfl, by decide +kernel, rfl, by decide +kernel, by decide +kernel⟩
theorem ok_law_scroll {k : Nat} (Df : DefAt K mg "_law_scroll" slaw_scroll ["_law_document_here", "_law_offsets", "_law_path", "_law_amount"]) (T : Top mg) (h_law_moved : Has P w K mg base k "_law_moved" ["_law_document_here", "_law_offsets", "_law_moves"] (spD (pureD fLMoved))) : Has P w K mg base (k+1) "_law_scroll" ["_law_document_here", "_law_offsets", "_law_path", "_law_amount"] (spD (pureD fLScroll)) := by
  refine has_ofP Df sclaw_scroll (fun ds P ⟨_, _, _, _, _, _, _, _, _, h, _⟩ => by rw [h]; rfl) fun f cdv A outer s H E hr => ⟨_, 
    (pss_cons (ps_nm 4 sclaw_scroll.nd (pe_lst pa_nil))
    (pss_cons (ps_for PassesOwn.never rfl (pi_seqK K (pv 2)) (pg_nm 5 sclaw_scroll.nd) 
      (pss_cons (ps_nm 6 sclaw_scroll.nd (pe_dget (hu_of hr) (pv 1) (pv 5) (fun _ _ => rfl)))
      (pss_cons (ps_nm 1 sclaw_scroll.nd (pe_def h_law_moved (hr.mono (by omega)) (pa_cons (pv 0) (pa_cons (pv 1) (pa_cons (pe_lst (pa_cons (pe_tup (pa_cons (pv 5) (pa_cons (pv 3) pa_nil))) pa_nil)) pa_nil)))))
      (pss_cons (ps_if (pt_cmpR (op_neK K hr) (pe_dget (hu_of hr) (pv 1) (pv 5) (fun _ _ => rfl)) (pv 6) (nomark _)) 
        (pss_one (ps_expr (pe_bmK K PySem.F.plainAttrs_list PySem.F.slot_list_append PySem.F.type_list_append mt_append (pv 4) (pa_cons (pe_tup (pa_cons (pv 5) (pa_cons (pe_op op_sub (pe_dget (hu_of hr) (pv 1) (pv 5) (fun _ _ => rfl)) (pv 6)) pa_nil))) pa_nil)))) pss_nil)
      (pss_one (ps_nm 3 sclaw_scroll.nd (pe_op op_sub (pv 3) (pe_op op_sub (pe_dget (hu_of hr) (pv 1) (pv 5) (fun _ _ => rfl)) (pv 6)))))))))
    (pss_one (ps_ret (pe_callTy (call_tupK K) (by rfl) T.tuple bt_tuple (pa_cons (pv 4) pa_nil)))))), fun B ds P ⟨b, O, path, x, am, g, hx, hpl, hp, hd, q⟩ => ?_⟩
  subst hd
  kwd_rel
  refine w_lstC ?_
  kwd_rel
  intro c hc
  kwd_rel
  refine ws_for (fun rest E1 C1 => ∃ (post : List Int) (O1 acc : List (Int × Int)) (am1 : Int) (x5 x6 : Option D), rest = post.map D.int ∧ E1 = [some (encB b), some (.dic (encI O1)), some x, some (.int am1), some (.ref c), x5, x6] ∧ C1 c = some (.lst (acc.map pairD)) ∧ acc.length + post.length ≤ 1000 ∧
    (scrollL (gI (rangesB b)) path O am).2 = acc ++ (scrollL (gI (rangesB b)) post O1 am1).2 ∧ GoodS b O1 ∧ (∀ k ∈ post, k ∈ (scrsB b).map Box.num)) (wi_seq ?_) ?_ ?_
  · kwd_rel
    exact ⟨_, hx, path, O, [], am, none, none, rfl, rfl, updC_same, by simpa using hpl, rfl, g, hp⟩
  · rintro E1 C1 ⟨post, O1, acc, am1, x5, x6, h1, rfl, h2, h3, h4, g1, h5⟩
    have e : post = [] := by
      cases post with
      | nil => rfl
      | cons _ _ => cases h1
    subst e
    have e2 : (scrollL (gI (rangesB b)) [] O1 am1).2 = [] := rfl
    rw [h4, e2, List.append_nil] at q
    kwd_rel
    refine wc_tuple (.cell h2) ?_
    kwd_rel
    exact q
  rintro y ys E1 C1 ⟨post, O1, acc, am1, x5, x6, h1, rfl, h2, h3, h4, g1, h5⟩
  obtain ⟨m, r, rfl⟩ : ∃ m r, post = m :: r := by
    cases post with
    | nil => cases h1
    | cons m r => exact ⟨m, r, rfl⟩
  injection h1 with e1 e2
  subst e1 e2
  have hm : m ∈ keysI (rangesB b) := by rw [rangesB_keys]; exact h5 m (by simp)
  have hmO : m ∈ keysI O1 := by rw [g1.keysR]; exact hm
  have g2 := good_moved [(m, am1)] O1 g1
  have hmO2 : m ∈ keysI (movedL (rangesB b) [(m, am1)] O1) := by rw [g2.keysR]; exact hm
  rw [scroll_step g1 hm] at h4
  rw [List.length_cons] at h3
  kwd_rel
  refine w_dget ?_
  kwd_rel
  refine ⟨_, m, _, .dic, rfl, look_key hmO, ?_⟩
  kwd_rel
  refine w_lst ?_
  kwd_rel
  refine ⟨b, O1, [(m, am1)], _, g1, .lst, rfl, ?_⟩
  generalize hO2 : movedL (rangesB b) [(m, am1)] O1 = O2 at h4 g2 hmO2
  kwd_rel
  refine w_dget ?_
  kwd_rel
  refine ⟨_, m, _, .dic, rfl, look_key hmO2, ?_⟩
  kwd_rel
  refine ite_two (fun hc1 => ?_) (fun hc1 => ?_)
  · have c1 : ¬ gI O2 m = gI O1 m := by simpa using hc1
    rw [if_neg c1] at h4
    kwd_rel
    refine w_bmL ?_
    kwd_rel
    refine ⟨⟨_, .cell h2⟩, ?_⟩
    kwd_rel
    refine w_dget ?_
    kwd_rel
    refine ⟨_, m, _, .dic, rfl, look_key hmO2, ?_⟩
    kwd_rel
    refine wm_append h2 (by rw [List.length_map]; omega) ?_
    kwd_rel
    refine w_dget ?_
    kwd_rel
    refine ⟨_, m, _, .dic, rfl, look_key hmO2, ?_⟩
    kwd_rel
    exact ⟨r, O2, acc ++ [(m, gI O2 m - gI O1 m)], _, _, _, rfl, rfl, by rw [updC_same, List.map_append]; rfl, by simp; omega, by rw [h4, List.append_assoc], g2, fun k hk => h5 k (by simp [hk])⟩
  · have c1 : gI O2 m = gI O1 m := by simpa using hc1
    rw [if_pos c1] at h4
    kwd_rel
    refine w_dget ?_
    kwd_rel
    refine ⟨_, m, _, .dic, rfl, look_key hmO2, ?_⟩
    kwd_rel
    exact ⟨r, O2, acc, _, _, _, rfl, rfl, h2, by omega, by rw [h4, List.nil_append], g2, fun k hk => h5 k (by simp [hk])⟩
end
/-! steps as long as they are plain -/
set_option hygiene false in
local macro_rules
  | `(tactic| kwd_rel) => `(tactic| repeat (first
    | (with_reducible show W _ _ _ _ _; first
        | with_reducible refine w_var (by with_unfolding_all exact rfl) ?_
        | with_reducible refine w_int ?_
        | with_reducible refine w_op ?_
        | with_reducible refine w_str ?_
        | with_reducible refine w_cb ?_
        | with_reducible refine w_call ?_
        | with_reducible refine w_tup ?_
        | with_reducible refine w_ifExp ?_
        | with_reducible refine w_un ?_
        | with_reducible refine w_bl ?_
        | with_reducible refine w_non ?_
        | with_reducible refine w_ref ?_
        | with_reducible refine w_ty ?_
        | with_reducible refine w_notV ?_
        | with_reducible refine w_andV ?_
        | with_reducible refine w_orV ?_
        | with_reducible refine w_slice ?_
        | with_reducible refine w_chain ?_
        | with_reducible refine w_isN ?_
        | with_reducible refine w_notN ?_
        | with_reducible refine w_fld ?_
        | with_reducible refine w_meth ?_
        | with_reducible refine w_tgetS ?_)
    | (with_reducible show WA _ _ _ _ _; first
        | with_reducible refine wa_cons ?_
        | with_reducible refine wa_nil ?_)
    | (with_reducible show WR _ _ _ _ _ _; first
        | with_reducible refine wr_bn ?_
        | with_reducible refine wr_bh ?_
        | (with_reducible show WR _ (rIx _) _ _ _ _; with_reducible refine wr_ix (by with_unfolding_all first | exact SeqD.tup | exact SeqD.lst | exact SeqD.cell updC_same | exact SeqD.cell (by assumption)) (by with_unfolding_all exact rfl) ?_)
        | with_reducible refine wr_intB ?_
        | with_reducible refine wr_ip ?_
        | with_reducible refine wr_int ?_
        | with_reducible refine wr_add ?_
        | (with_reducible show WR _ (rEqU _) _ _ _ _; with_reducible refine wr_eq (by with_unfolding_all exact rfl) ?_)
        | (with_reducible show WR _ (rNeU _) _ _ _ _; with_reducible refine wr_ne (by with_unfolding_all exact rfl) ?_)
        | (with_reducible show WR _ (rI _ _) _ _ _ _; with_reducible refine wr_mod (by first | assumption | decide | omega) ?_)
        | (with_reducible show WR _ (rI _ _) _ _ _ _; with_reducible refine wr_fdiv (by first | assumption | decide | omega) (by first | assumption | decide | omega) ?_)
        | (with_reducible show WR _ (rI _ _) _ _ _ _; with_reducible refine wr_mul (by omega) ?_)
        | with_reducible refine wr_pow (by decide) ?_
        | with_reducible refine wr_isN ?_
        | with_reducible refine wr_notN ?_)
    | (with_reducible show WS _ _ _ _ _; first
        | with_reducible refine ws_seq ?_
        | with_reducible refine ws_set ?_
        | with_reducible refine ws_ret ?_
        | with_reducible refine ws_if ?_
        | with_reducible refine ws_drop ?_
        | with_reducible refine ws_retN ?_
        | with_reducible refine ws_next ?_
        | with_reducible refine ws_break ?_
        | with_reducible refine ws_cont ?_
        | with_reducible refine ws_asg ?_
        | with_reducible refine ws_aug (by with_unfolding_all exact rfl) ?_
        | with_reducible refine ws_fldS ?_
        | with_reducible refine ws_fldAug ?_
        | with_reducible refine ws_tputS ?_)
    | (with_reducible show WT _ _ _ _ _; first
        | with_reducible refine wt_test ?_
        | with_reducible refine wt_B ?_
        | with_reducible refine wt_truth ?_
        | with_reducible refine wt_and ?_
        | with_reducible refine wt_or ?_
        | with_reducible refine wt_not ?_
        | with_reducible refine wt_yes ?_)
    | (with_reducible show WC _ _ _ _ _; first
        | (with_reducible show WC _ (rLenU _) _ _ _; with_reducible refine wc_len (by with_unfolding_all first | exact SeqD.tup | exact SeqD.lst | exact SeqD.cell updC_same | exact SeqD.cell (by assumption)) ?_)
        | with_reducible refine wc_int ?_
        | (with_reducible show WC _ (rIsiU _) _ _ _; with_reducible refine wc_isi2 (by with_unfolding_all exact rfl) (by with_reducible first | exact kit_NoneType_list | exact kit_NoneType_tuple | exact kit_NoneType_bool | exact kit_NoneType_str | exact kit_NoneType_int | exact kit_NoneType_dict | exact kit_bool_list | exact kit_bool_tuple | exact kit_bool_bool | exact kit_bool_str | exact kit_bool_int | exact kit_bool_dict | exact kit_int_list | exact kit_int_tuple | exact kit_int_bool | exact kit_int_str | exact kit_int_int | exact kit_int_dict | exact kit_str_list | exact kit_str_tuple | exact kit_str_bool | exact kit_str_str | exact kit_str_int | exact kit_str_dict | exact kit_tuple_list | exact kit_tuple_tuple | exact kit_tuple_bool | exact kit_tuple_str | exact kit_tuple_int | exact kit_tuple_dict | exact kit_list_list | exact kit_list_tuple | exact kit_list_bool | exact kit_list_str | exact kit_list_int | exact kit_list_dict | exact kit_dict_list | exact kit_dict_tuple | exact kit_dict_bool | exact kit_dict_str | exact kit_dict_int | exact kit_dict_dict) (by with_reducible first | exact kit_NoneType_list | exact kit_NoneType_tuple | exact kit_NoneType_bool | exact kit_NoneType_str | exact kit_NoneType_int | exact kit_NoneType_dict | exact kit_bool_list | exact kit_bool_tuple | exact kit_bool_bool | exact kit_bool_str | exact kit_bool_int | exact kit_bool_dict | exact kit_int_list | exact kit_int_tuple | exact kit_int_bool | exact kit_int_str | exact kit_int_int | exact kit_int_dict | exact kit_str_list | exact kit_str_tuple | exact kit_str_bool | exact kit_str_str | exact kit_str_int | exact kit_str_dict | exact kit_tuple_list | exact kit_tuple_tuple | exact kit_tuple_bool | exact kit_tuple_str | exact kit_tuple_int | exact kit_tuple_dict | exact kit_list_list | exact kit_list_tuple | exact kit_list_bool | exact kit_list_str | exact kit_list_int | exact kit_list_dict | exact kit_dict_list | exact kit_dict_tuple | exact kit_dict_bool | exact kit_dict_str | exact kit_dict_int | exact kit_dict_dict) ?_)
        | (with_reducible show WC _ (rIsiU _) _ _ _; with_reducible refine wc_isi (by with_unfolding_all exact rfl) (by with_reducible first | exact kit_NoneType_list | exact kit_NoneType_tuple | exact kit_NoneType_bool | exact kit_NoneType_str | exact kit_NoneType_int | exact kit_NoneType_dict | exact kit_bool_list | exact kit_bool_tuple | exact kit_bool_bool | exact kit_bool_str | exact kit_bool_int | exact kit_bool_dict | exact kit_int_list | exact kit_int_tuple | exact kit_int_bool | exact kit_int_str | exact kit_int_int | exact kit_int_dict | exact kit_str_list | exact kit_str_tuple | exact kit_str_bool | exact kit_str_str | exact kit_str_int | exact kit_str_dict | exact kit_tuple_list | exact kit_tuple_tuple | exact kit_tuple_bool | exact kit_tuple_str | exact kit_tuple_int | exact kit_tuple_dict | exact kit_list_list | exact kit_list_tuple | exact kit_list_bool | exact kit_list_str | exact kit_list_int | exact kit_list_dict | exact kit_dict_list | exact kit_dict_tuple | exact kit_dict_bool | exact kit_dict_str | exact kit_dict_int | exact kit_dict_dict) ?_)
        | with_reducible refine wc_abs ?_
        | with_reducible refine wc_max2 ?_
        | with_reducible refine wc_min2 ?_)
    | (with_reducible show WG _ _ _ _ _ _; first
        | with_reducible refine wg_name ?_
        | with_reducible refine wg_sub ?_)
    | (with_reducible show WU _ _ _ _ _; first
        | with_reducible refine wu_int ?_)
    | (with_reducible show WO _ _ _ _ _; first
        | with_reducible refine wo_none ?_
        | with_reducible refine wo_some ?_)
    | (with_reducible show WSl _ _ _ _ _ _ _; first
        | with_reducible refine wsl_tupE (by with_unfolding_all exact rfl) ?_
        | with_reducible refine wsl_lstE (by with_unfolding_all exact rfl) ?_)
    | (with_reducible show WSet _ _ _ _ _ _ _; first
        | with_reducible refine wset_list (by first | exact updC_same | assumption) (by with_unfolding_all exact rfl) ?_)
    | with_reducible refine ex_bl ?_
    | with_reducible refine tru_bl ?_
    | (with_reducible show ∃ _, ∃ _, (_ = some (Cell.ins _ _)) ∧ _; with_reducible refine Exists.intro _ (Exists.intro _ (And.intro (by first | exact (insAny updC_same) | exact (insAny (by assumption))) ?_)))
    | (with_reducible show ∃ _, (_ = some (Cell.ins _ _)) ∧ _; with_reducible refine Exists.intro _ (And.intro (by first | exact (insAny updC_same) | exact (insAny (by assumption))) ?_))
    | (with_reducible show FldOk _ _ _ ∧ _; with_reducible refine And.intro (by first | exact ClsOk.fld kA (by decide +kernel) | exact ClsOk.fld kB (by decide +kernel) | exact ClsOk.fld kC (by decide +kernel)) ?_)
    | (with_reducible show _ = none ∧ _; with_reducible refine And.intro (by with_unfolding_all exact lookN rfl) ?_)
    | (with_reducible show ∃ _, (_ = some (Cell.tdic _)) ∧ _; with_reducible refine Exists.intro _ (And.intro (by first | exact (tdicAny updC_same) | exact (tdicAny (by assumption))) ?_))
    | (with_reducible show ∃ _, _ ∧ _; with_reducible refine Exists.intro _ (And.intro (by with_unfolding_all first | exact rfl | exact SeqF.tup | exact SeqF.lst) ?_))
    | ((first | with_reducible show _ ≤ _ ∧ _ | with_reducible show _ < _ ∧ _); with_reducible refine And.intro (by with_unfolding_all exact Nat.le_of_ble_eq_true rfl) ?_)
    | with_reducible refine nx_show ?_
    | with_reducible refine rt_show ?_
    | with_reducible refine ct_show ?_
    | with_reducible refine bk_show ?_))
/-! a test's two ways; one that cannot be goes away -/
set_option hygiene false in
local macro_rules
  | `(tactic| kwd_less) => `(tactic| (refine ite_two (fun hc => ?_) (fun hc => ?_) <;> first | (exact absurd hc (by with_unfolding_all exact Bool.false_ne_true)) | (exact absurd hc (by with_unfolding_all exact Bool.noConfusion)) | (exact absurd hc (by decide +kernel)) | skip))
section
variable {P : Program} {w : World} {K : PySem.W.Frag} {mg : Str → Option Value} {base : Heap}
/-! ### the law's state: views, scrolls, answers -/
def actL (b : Box) : Tr := { num := 0, doc := b, base := fitB [] b, held := [], inc := 0, painted := [], deeds := [] }
def startX (b : Box) : Pn := { act := actL b, pen := none, mv := [], wt := [] }
def stL (b : Box) : Ls := { doc := b, off := fitB [] b, held := [], deeds := [], told := 0, dirty := false, begun := false, made := 0, pn := startX b, fresh := 100 }
def fLStart : SpD := fun ds C P => ∃ b : Box, b.lev ≤ 8 ∧ b.all.length ≤ 50000 ∧ ds = [encB b] ∧ ∀ C' S s, C S = none → C s = none → LsC C' S s none (stL b) → (∀ z, z ≠ S → z ≠ s → C' z = C z) → P (.ref S) C'
abbrev slaw_start : Stmt := topS 51
theorem sclaw_start : FnScope ["_law_document_here", "_law_offsets", "_law_first"] ["_law_document_here"] (defScope slaw_start) := ⟨rfl, rfl, rfl, by decide +kernel, rfl, by decide +kernel, by decide +kernel⟩
theorem ok_law_start {k : Nat} (Df : DefAt K mg "_law_start" slaw_start ["_law_document_here"]) (T : Top mg) (h_law_fit : Has P w K mg base k "_law_fit" ["_law_document_here", "_law_offsets"] (spD (fFitted 8))) : Has P w K mg base (k+1) "_law_start" ["_law_document_here"] (spD fLStart) := by
  refine has_of Df sclaw_start (fun ds C P ⟨_, _, _, h, _⟩ => by rw [h]; rfl) fun f cdv A outer s H E hr => ⟨_, 
    (pss_cons (ps_nm 1 sclaw_start.nd (pe_def h_law_fit (hr.mono (by omega)) (pa_cons (pv 0) (pa_cons pe_dnewK pa_nil))))
    (pss_cons (ps_nm 2 sclaw_start.nd (pe_disp (pps_cons pe_str pe_int (pps_cons pe_str (pv 0) (pps_cons pe_str (pv 1) (pps_cons pe_str (pe_lst pa_nil) (pps_cons pe_str pe_int (pps_cons pe_str (pe_lst pa_nil) (pps_cons pe_str (pe_lst pa_nil) pps_nil))))))) (by rfl) (by rfl) (fun z => by cases z) (by decide)))
    (pss_one (ps_ret (pe_disp (pps_cons pe_str (pv 0) (pps_cons pe_str (pv 1) (pps_cons pe_str (pe_lst pa_nil) (pps_cons pe_str (pe_lst pa_nil) (pps_cons pe_str pe_int (pps_cons pe_str pe_bl (pps_cons pe_str pe_bl (pps_cons pe_str pe_int (pps_cons pe_str (pv 2) (pps_cons pe_str pe_non (pps_cons pe_str (pe_lst pa_nil) (pps_cons pe_str (pe_lst pa_nil) (pps_cons pe_str pe_int pps_nil))))))))))))) (by rfl) (by rfl) (fun z => by cases z) (by decide)))))), fun B ds C P ⟨b, hl, hz, hd, q⟩ => ?_⟩
  subst hd
  refine ws_seq (ws_set (w_frzD ?_))
  kwd_rel
  refine w_dnew ?_
  kwd_rel
  refine ⟨b, [], _, by omega, by omega, rfl, .dic, fun a ha => ⟨a, _, rfl, updC_same, ?_⟩⟩
  rw [delC_updC ha]
  kwd_rel
  refine w_dispT ?_
  intro s hs
  refine wpt_cons (w_str ⟨_, rfl, ?_⟩)
  kwd_rel
  refine wpt_cons (w_str ⟨_, rfl, ?_⟩)
  kwd_rel
  refine wpt_cons (w_str ⟨_, rfl, ?_⟩)
  kwd_rel
  refine wpt_cons (w_str ⟨_, rfl, w_lst ?_⟩)
  kwd_rel
  refine wpt_cons (w_str ⟨_, rfl, ?_⟩)
  kwd_rel
  refine wpt_cons (w_str ⟨_, rfl, w_lst ?_⟩)
  kwd_rel
  refine wpt_cons (w_str ⟨_, rfl, w_lst ?_⟩)
  kwd_rel
  refine wpt_nil ?_
  refine ⟨updC_same, by simp, ?_⟩
  rw [updC_updC, merge_tr]
  show WS B _ _ (updC C s (trC (actL b))) _
  kwd_rel
  refine w_dispT ?_
  intro S hS
  have sS : S ≠ s := fun e => by rw [e, updC_same] at hS; cases hS
  rw [updC_ne sS] at hS
  refine wpt_cons (w_str ⟨_, rfl, ?_⟩)
  kwd_rel
  refine wpt_cons (w_str ⟨_, rfl, ?_⟩)
  kwd_rel
  refine wpt_cons (w_str ⟨_, rfl, w_lst ?_⟩)
  kwd_rel
  refine wpt_cons (w_str ⟨_, rfl, w_lst ?_⟩)
  kwd_rel
  refine wpt_cons (w_str ⟨_, rfl, ?_⟩)
  kwd_rel
  refine wpt_cons (w_str ⟨_, rfl, ?_⟩)
  kwd_rel
  refine wpt_cons (w_str ⟨_, rfl, ?_⟩)
  kwd_rel
  refine wpt_cons (w_str ⟨_, rfl, ?_⟩)
  kwd_rel
  refine wpt_cons (w_str ⟨_, rfl, ?_⟩)
  kwd_rel
  refine wpt_cons (w_str ⟨_, rfl, ?_⟩)
  kwd_rel
  refine wpt_cons (w_str ⟨_, rfl, w_lst ?_⟩)
  kwd_rel
  refine wpt_cons (w_str ⟨_, rfl, w_lst ?_⟩)
  kwd_rel
  refine wpt_cons (w_str ⟨_, rfl, ?_⟩)
  kwd_rel
  refine wpt_nil ?_
  refine ⟨updC_same, by simp, ?_⟩
  rw [updC_updC, merge_ls]
  refine q (updC (updC C s (trC (actL b))) S (.tdic (lsF s none (stL b)))) S s hS hs ⟨updC_same, by rw [updC_ne (Ne.symm sS)]; exact updC_same, trivial⟩ fun z z1 z2 => by rw [updC_ne z1, updC_ne z2]
def fLView : SpD := fun ds C P => ∃ (S T : Addr) (gs : List (Str × D)) (t : Tr) (mv : List (Int × Int)), ds = [.ref S, .ref T] ∧ C S = some (.tdic gs) ∧ gs.lookup ("moves" : Str) = some (.lst (mv.map pairD)) ∧ C T = some (trC t) ∧ GoodS t.doc t.base ∧ P (.dic (encI (viewT t mv))) C
abbrev slaw_view : Stmt := topS 52
theorem sclaw_view : FnScope ["_law_state", "_law_tree"] ["_law_state", "_law_tree"] (defScope slaw_view) := ⟨rfl, rfl, rfl, by decide +kernel, rfl, by decide +kernel, by decide +kernel⟩
theorem ok_law_view {k : Nat} (Df : DefAt K mg "_law_view" slaw_view ["_law_state", "_law_tree"]) (T : Top mg) (h_law_moved : Has P w K mg base k "_law_moved" ["_law_document_here", "_law_offsets", "_law_moves"] (spD (pureD fLMoved))) : Has P w K mg base (k+1) "_law_view" ["_law_state", "_law_tree"] (spD fLView) := by
  refine has_of Df sclaw_view (fun ds C P ⟨_, _, _, _, _, h, _⟩ => by rw [h]; rfl) fun f cdv A outer s H E hr => ⟨_, 
    (pss_one (ps_ret (pe_def h_law_moved (hr.mono (by omega)) (pa_cons (pe_dget (hu_of hr) (pv 1) pe_str (fun _ _ => rfl)) (pa_cons (pe_dget (hu_of hr) (pv 1) pe_str (fun _ _ => rfl)) (pa_cons (pe_slice (sl_K K) (pe_dget (hu_of hr) (pv 0) pe_str (fun _ _ => rfl)) (po_some (pe_dget (hu_of hr) (pv 1) pe_str (fun _ _ => rfl))) po_none) pa_nil)))))), fun B ds C P ⟨S, T, gs, t, mv, hd, hS, hm, hT, g, q⟩ => ?_⟩
  subst hd
  unfold trC trF trD at hT
  kwd_rel
  refine ⟨_, hm, ?_⟩
  kwd_rel
  refine ⟨t.doc, t.base, mv.drop t.inc, _, g, ?_, rfl, ?_⟩
  · rw [cutD_drop, ← List.map_drop]
    exact .lst
  exact q
def fLPushed : SpD := fun ds C P => ∃ (S s : Addr) (o : Option Addr) (L : Ls) (path : List Int) (am : Int) (y : D), ds = [.ref S, y, .int am] ∧ LsC C S s o L ∧ TrOk L.pn.act ∧ L.pn.mv.length ≤ 10000 ∧ SeqF y (path.map D.int) ∧ path.length ≤ 1000 ∧ (∀ k ∈ path, k ∈ (scrsB L.pn.act.doc).map Box.num) ∧
  ∀ C', LsC C' S s o { L with pn := pushX L.pn path am } → (∀ z, z ≠ S → C' z = C z) → P (.tup ((madeX L.pn path am).map pairD)) C'
abbrev slaw_pushed : Stmt := topS 58
theorem sclaw_pushed : FnScope ["_law_state", "_law_path", "_law_amount", "_law_moves"] ["_law_state", "_law_path", "_law_amount"] (defScope slaw_pushed) := ⟨rfl, rfl, rfl, by decide +kernel, rfl, by decide +kernel, by decide +kernel⟩
theorem ok_law_pushed {k : Nat} (Df : DefAt K mg "_law_pushed" slaw_pushed ["_law_state", "_law_path", "_law_amount"]) (T : Top mg) (h_law_scroll : Has P w K mg base k "_law_scroll" ["_law_document_here", "_law_offsets", "_law_path", "_law_amount"] (spD (pureD fLScroll))) (h_law_view : Has P w K mg base k "_law_view" ["_law_state", "_law_tree"] (spD fLView)) : Has P w K mg base (k+1) "_law_pushed" ["_law_state", "_law_path", "_law_amount"] (spD fLPushed) := by
  refine has_of Df sclaw_pushed (fun ds C P ⟨_, _, _, _, _, _, _, h, _⟩ => by rw [h]; rfl) fun f cdv A outer s H E hr => ⟨_, 
    (pss_cons (ps_nm 3 sclaw_pushed.nd (pe_def h_law_scroll (hr.mono (by omega)) (pa_cons (pe_dget (hu_of hr) (pe_dget (hu_of hr) (pv 0) pe_str (fun _ _ => rfl)) pe_str (fun _ _ => rfl)) (pa_cons (pe_def h_law_view (hr.mono (by omega)) (pa_cons (pv 0) (pa_cons (pe_dget (hu_of hr) (pv 0) pe_str (fun _ _ => rfl)) pa_nil))) (pa_cons (pv 1) (pa_cons (pv 2) pa_nil))))))
    (pss_cons (ps_dput (hu_of hr) (pv 0) pe_str (pe_op (op_addK K) (pe_dget (hu_of hr) (pv 0) pe_str (fun _ _ => rfl)) (pe_callTy (call_lstK K) (by rfl) T.list bt_list (pa_cons (pv 3) pa_nil))) rfl)
    (pss_one (ps_ret (pv 3))))), fun B ds C P ⟨S, s, o, L, path, am, y, hd, hL, ok, hml, hy, hpl, hpm, q⟩ => ?_⟩
  subst hd
  have h1 := hL.cS
  have h2 := hL.cs
  unfold trC trF trD at h2
  unfold lsF lsD at h1
  kwd_rel
  refine ⟨S, s, _, L.pn.act, L.pn.mv, rfl, hL.cS, rfl, hL.cs, ok.good, ?_⟩
  kwd_rel
  refine ⟨L.pn.act.doc, _, path, y, am, ok.view L.pn.mv, hy, hpl, hpm, rfl, ?_⟩
  have ml := made_len L.pn path am
  have em : (scrollL (gI (rangesB L.pn.act.doc)) path (viewT L.pn.act L.pn.mv) am).2 = madeX L.pn path am := rfl
  rw [em]
  kwd_rel
  refine wc_list .tup ?_
  kwd_rel
  refine wr_addL .lst .lst (by rw [List.length_map, List.length_map]; omega) ?_
  rw [← List.map_append]
  kwd_rel
  exact q _ (hL.put (L' := { L with pn := pushX L.pn path am }) rfl rfl) fun z hz => updC_ne hz
def fLScr : SpD := fun ds C P => ∃ (S s : Addr) (o : Option Addr) (L : Ls) (row am : Int), ds = [.ref S, .int row, .int am] ∧ LsC C S s o L ∧ PnOk L.pn ∧ 0 ≤ row ∧ row < L.pn.act.doc.hgt ∧
  ∀ C', LsC C' S s o { L with pn := (scrollX L.pn row am).1 } → (∀ z, z ≠ S → C' z = C z) → P (scrollX L.pn row am).2 C'
abbrev slaw_do_scroll : Stmt := topS 59
theorem sclaw_do_scroll : FnScope ["_law_state", "_law_row", "_law_amount", "_law_tree", "_law_path", "_law_target", "_law_number"] ["_law_state", "_law_row", "_law_amount"] (defScope slaw_do_scroll) := ⟨rfl, rfl, rfl, by decide +kernel, rfl, by decide +kernel, by decide +kernel⟩
theorem ok_law_do_scroll {k : Nat} (Df : DefAt K mg "_law_do_scroll" slaw_do_scroll ["_law_state", "_law_row", "_law_amount"]) (T : Top mg) (h_law_under : Has P w K mg base k "_law_under" ["_law_document_here", "_law_offsets", "_law_row"] (spD (fLUnd 8))) (h_law_view : Has P w K mg base k "_law_view" ["_law_state", "_law_tree"] (spD fLView)) (h_law_pushed : Has P w K mg base k "_law_pushed" ["_law_state", "_law_path", "_law_amount"] (spD fLPushed)) : Has P w K mg base (k+1) "_law_do_scroll" ["_law_state", "_law_row", "_law_amount"] (spD fLScr) := by
  refine has_of Df sclaw_do_scroll (fun ds C P ⟨_, _, _, _, _, _, h, _⟩ => by rw [h]; rfl) fun f cdv A outer s H E hr => ⟨_, 
    (pss_cons (ps_nm 3 sclaw_do_scroll.nd (pe_dget (hu_of hr) (pv 0) pe_str (fun _ _ => rfl)))
    (pss_cons (ps_asg (pe_def h_law_under (hr.mono (by omega)) (pa_cons (pe_dget (hu_of hr) (pv 3) pe_str (fun _ _ => rfl)) (pa_cons (pe_def h_law_view (hr.mono (by omega)) (pa_cons (pv 0) (pa_cons (pv 3) pa_nil))) (pa_cons (pv 1) pa_nil)))) (pg_tupK K (n := 2) (pgs_cons (pg_nm 4 sclaw_do_scroll.nd) (pgs_cons (pg_nm 5 sclaw_do_scroll.nd) pgs_nil))))
    (pss_cons (ps_if (pt_cmpR (op_eqK K hr) (pv 2) pe_int (nomark _)) 
      (pss_one (ps_ret (pe_tup pa_nil))) pss_nil)
    (pss_cons (ps_if (pt_truK K (pe_callB (call_anyK K) (by rfl) T.any bt_any (pa_cons (pe_lc (own := [("_law_number", 6)]) rfl sclaw_do_scroll.nd (pi_seqK K (pe_op (op_addK K) (pv 4) (pe_tup (pa_cons (pv 5) pa_nil)))) (blkOk_by (N := ["_law_state", "_law_row", "_law_amount", "_law_tree", "_law_path", "_law_target", "_law_number"]) (sc := defScope slaw_do_scroll) (by decide +kernel)) (fun _ _ _ _ _ => pg_nm 6 sclaw_do_scroll.nd) (fun _ _ _ _ _ => pts_nil) (fun _ _ _ _ _ => (pe_cmpR (op_inK K) (pv 6) (pe_dget (hu_of hr) (pv 3) pe_str (fun _ _ => rfl)) (by rfl)))) pa_nil))) 
      (pss_cons (ps_dput (hu_of hr) (pv 0) pe_str (pe_op (op_addK K) (pe_dget (hu_of hr) (pv 0) pe_str (fun _ _ => rfl)) (pe_lst (pa_cons (pe_tup (pa_cons (pv 4) (pa_cons (pv 2) pa_nil))) pa_nil))) rfl)
      (pss_one (ps_ret pe_non))) pss_nil)
    (pss_one (ps_ret (pe_def h_law_pushed (hr.mono (by omega)) (pa_cons (pv 0) (pa_cons (pv 4) (pa_cons (pv 2) pa_nil)))))))))), fun B ds C P ⟨S, s, o, L, row, am, hd, hL, ok, h0, hr2, q⟩ => ?_⟩
  subst hd
  have h1 := hL.cS
  have h2 := hL.cs
  unfold trC trF trD at h2
  unfold lsF lsD at h1
  have oa := ok.act
  have hwl := ok.wl
  have hml := ok.ml
  have g := oa.good
  have gv := oa.view L.pn.mv
  have gl := g.lev
  have gz := g.len
  kwd_rel
  refine ⟨S, s, _, L.pn.act, L.pn.mv, rfl, hL.cS, rfl, hL.cs, g, ?_⟩
  kwd_rel
  refine ⟨L.pn.act.doc, _, row, by omega, by omega, g.nd, oa.hh, gv.nn, h0, hr2, rfl, ?_⟩
  obtain ⟨u1, u2⟩ := undX_path oa row
  have uk := und_kind (viewT L.pn.act L.pn.mv) L.pn.act.doc row []
  have eu : undB (viewT L.pn.act L.pn.mv) L.pn.act.doc row [] = undX L.pn row := rfl
  rw [eu] at uk ⊢
  refine wg_tup rfl (wgs_cons (wg_name (wgs_cons (wg_name (wgs_nil ?_)))))
  unfold scrollX at q
  kwd_rel
  refine ite_two (fun hc => ?_) (fun hc => ?_)
  · have hc : am = 0 := of_decide_eq_true hc
    rw [if_pos hc] at q
    kwd_rel
    exact q C hL fun z hz => rfl
  have hc : ¬ am = 0 := of_decide_eq_false hc
  rw [if_neg hc] at q
  refine ws_next ?_
  refine nx_show ?_
  refine ws_seq (ws_if (wt_truth ?_))
  kwd_rel
  refine w_lcMap (fun x => .bl (heldD L.pn.act.held x)) (by simp) (wi_seq ?_)
  kwd_rel
  refine wr_addT (by rw [List.length_map]; simp; omega) ?_
  refine ⟨_, .tup, by rw [List.length_append, List.length_map]; simp; omega, fun x hx => ?_, ?_⟩
  · rcases List.mem_append.mp hx with hx | hx
    · obtain ⟨n, hn, rfl⟩ := List.mem_map.mp hx
      kwd_rel
      refine wr_inI .lst ?_
      kwd_rel
      exact ⟨rfl, rfl⟩
    · simp at hx
      subst hx
      rcases uk with e | ⟨n, e⟩
      · rw [e]
        kwd_rel
        refine wr_inN .lst ?_
        kwd_rel
        exact ⟨rfl, rfl⟩
      · rw [e]
        kwd_rel
        refine wr_inI .lst ?_
        kwd_rel
        exact ⟨rfl, rfl⟩
  kwd_rel
  refine wc_any (bs := ((undX L.pn row).1.map D.int ++ [(undX L.pn row).2]).map (heldD L.pn.act.held)) (by rw [List.map_map]; exact .lst) ?_
  rw [List.any_map, show (id ∘ heldD L.pn.act.held) = heldD L.pn.act.held from rfl, stuck_any uk]
  have es : (((undX L.pn row).1 ++ thereOf (undX L.pn row).2).any fun n => decide (n ∈ L.pn.act.held)) = stuckX L.pn row := rfl
  rw [es]
  kwd_rel
  refine ite_two (fun hs => ?_) (fun hs => ?_)
  · rw [if_pos hs] at q
    kwd_rel
    refine w_lst ?_
    kwd_rel
    refine wr_addL .lst .lst (by rw [List.length_map]; simp; omega) ?_
    have e1 : L.pn.wt.map encW ++ [D.tup [D.tup ((undX L.pn row).1.map D.int), D.int am]] = (L.pn.wt ++ [((undX L.pn row).1, am)]).map encW := by simp [encW]
    rw [e1]
    kwd_rel
    exact q _ (hL.put (L' := { L with pn := { L.pn with wt := L.pn.wt ++ [((undX L.pn row).1, am)] } }) rfl rfl) fun z hz => updC_ne hz
  · rw [if_neg (by simpa using hs)] at q
    kwd_rel
    exact ⟨S, s, o, L, (undX L.pn row).1, am, _, rfl, hL, oa, by omega, .tup, by omega, u1, fun C' a b => q C' a b⟩
theorem num_encs (l : List Box) : (encBs l).map numD = (l.map Box.num).map D.int := by
  rw [encBs_map, List.map_map, List.map_map]
  apply List.map_congr_left
  intro p _
  cases p <;> rfl
def inD (l : List Int) : D → Bool := fun x => match x with | .int n => decide (n ∈ l) | _ => false
theorem in_list (pt l : List Int) : (l.map D.int).filter (inD pt) = (l.filter fun n => decide (n ∈ pt)).map D.int := by
  rw [filter_map_int]
  rfl
def fLAns : SpD := fun ds C P => ∃ (S s : Addr) (o : Option Addr) (L : Ls) (ok : Bool), ds = [.ref S, .bl ok] ∧ LsC C S s o L ∧ PnOk L.pn ∧
  (answerX L.pn ok = none → P (.str "none") C) ∧ ∀ Y v, answerX L.pn ok = some (Y, v) → ∀ C', LsC C' S s o { L with pn := Y } → (∀ z, z ≠ S → C' z = C z) → P v C'
abbrev slaw_do_answer : Stmt := topS 60
theorem sclaw_do_answer : FnScope ["_law_state", "_law_allowed", "_law_path", "_law_amount", "_law_there", "_law_box_here", "_law_number"] ["_law_state", "_law_allowed"] (defScope slaw_do_answer) := ⟨rfl, rfl, rfl, by decide +kernel, rfl, by decide +kernel, by decide +kernel⟩
theorem ok_law_do_answer {k : Nat} (Df : DefAt K mg "_law_do_answer" slaw_do_answer ["_law_state", "_law_allowed"]) (T : Top mg) (h_law_scrollers : Has P w K mg base k "_law_scrollers" ["_law_document_here"] (spD (fScrs 8))) (h_law_pushed : Has P w K mg base k "_law_pushed" ["_law_state", "_law_path", "_law_amount"] (spD fLPushed)) : Has P w K mg base (k+1) "_law_do_answer" ["_law_state", "_law_allowed"] (spD fLAns) := by
  refine has_of Df sclaw_do_answer (fun ds C P ⟨_, _, _, _, _, h, _⟩ => by rw [h]; rfl) fun f cdv A outer s H E hr => ⟨_, 
    (pss_cons (ps_if (pt_not (pt_truK K (pe_dget (hu_of hr) (pv 0) pe_str (fun _ _ => rfl)))) 
      (pss_one (ps_ret pe_str)) pss_nil)
    (pss_cons (ps_asg (pe_ix (ix_seqK K) (pe_dget (hu_of hr) (pv 0) pe_str (fun _ _ => rfl)) pe_int (fun _ _ => rfl)) (pg_tupK K (n := 2) (pgs_cons (pg_nm 2 sclaw_do_answer.nd) (pgs_cons (pg_nm 3 sclaw_do_answer.nd) pgs_nil))))
    (pss_cons (ps_dput (hu_of hr) (pv 0) pe_str (pe_slice (sl_K K) (pe_dget (hu_of hr) (pv 0) pe_str (fun _ _ => rfl)) (po_some pe_int) po_none) rfl)
    (pss_cons (ps_nm 4 sclaw_do_answer.nd (pe_lc (own := [("_law_box_here", 5)]) rfl sclaw_do_answer.nd (pi_seqK K (pe_def h_law_scrollers (hr.mono (by omega)) (pa_cons (pe_dget (hu_of hr) (pe_dget (hu_of hr) (pv 0) pe_str (fun _ _ => rfl)) pe_str (fun _ _ => rfl)) pa_nil))) (blkOk_by (N := ["_law_state", "_law_allowed", "_law_path", "_law_amount", "_law_there", "_law_box_here", "_law_number"]) (sc := defScope slaw_do_answer) (by decide +kernel)) (fun _ _ _ _ _ => pg_nm 5 sclaw_do_answer.nd) (fun _ _ _ _ _ => pts_nil) (fun _ _ _ _ _ => (pe_ix (ix_seqK K) (pv 5) pe_int (fun _ _ => rfl)))))
    (pss_one (ps_ret (pe_ifExp (pt_truK K (pv 1)) (pe_def h_law_pushed (hr.mono (by omega)) (pa_cons (pv 0) (pa_cons (pe_lc (own := [("_law_number", 6)]) rfl sclaw_do_answer.nd (pi_seqK K (pv 2)) (blkOk_by (N := ["_law_state", "_law_allowed", "_law_path", "_law_amount", "_law_there", "_law_box_here", "_law_number"]) (sc := defScope slaw_do_answer) (by decide +kernel)) (fun _ _ _ _ _ => pg_nm 6 sclaw_do_answer.nd) (fun _ _ _ _ _ => (pts_one (pt_cmpR (op_inK K) (pv 6) (pv 4) (by rfl)))) (fun _ _ _ _ _ => (pv 6))) (pa_cons (pv 3) pa_nil)))) (pe_tup pa_nil)))))))), fun B ds C P ⟨S, s, o, L, ok, hd, hL, hok, q0, q⟩ => ?_⟩
  subst hd
  have h1 := hL.cS
  have h2 := hL.cs
  unfold trC trF trD at h2
  unfold lsF lsD at h1
  have oa := hok.act
  have hml := hok.ml
  have hwp := hok.wp
  have g := oa.good
  have gl := g.lev
  have gz := g.len
  unfold answerX at q q0
  cases hw : L.pn.wt with
  | nil =>
    rw [hw] at q0 h1
    kwd_rel
    kwd_less
    kwd_rel
    exact q0 rfl
  | cons wd r =>
    obtain ⟨path, am⟩ := wd
    rw [hw] at q h1
    have hpl := hwp (path, am) (by rw [hw]; simp)
    kwd_rel
    kwd_less
    kwd_rel
    refine wr_ix .lst (d := encW (path, am)) atI_zero ?_
    refine wg_tup rfl (wgs_cons (wg_name (wgs_cons (wg_name (wgs_nil ?_)))))
    kwd_rel
    have ec : cutD (((path, am) :: r).map encW) (some 1) none = r.map encW := by
      have := cutD_drop (ds := ((path, am) :: r).map encW) (k := 1)
      rw [show ((1 : Nat) : Int) = 1 from rfl] at this
      rw [this]
      rfl
    rw [ec]
    have hL2 : LsC (updC C S (.tdic (lsF s o { L with pn := { L.pn with wt := r } }))) S s o { L with pn := { L.pn with wt := r } } := hL.put rfl rfl
    kwd_rel
    show W B _ _ (updC C S (.tdic (lsF s o { L with pn := { L.pn with wt := r } }))) _
    have hfr : ∀ z, z ≠ S → updC C S (.tdic (lsF s o { L with pn := { L.pn with wt := r } })) z = C z := fun z hz => updC_ne hz
    generalize updC C S (.tdic (lsF s o { L with pn := { L.pn with wt := r } })) = C2 at hL2 hfr ⊢
    clear h1 h2
    have h21 := hL2.cS
    have h22 := hL2.cs
    unfold trC trF trD at h22
    unfold lsF lsD at h21
    have sl : (scrsB L.pn.act.doc).length ≤ L.pn.act.doc.all.length := List.length_filter_le _ _
    refine w_lcMap numD (by simp) (wi_seq ?_)
    kwd_rel
    refine ⟨L.pn.act.doc, by omega, by omega, rfl, ?_⟩
    kwd_rel
    refine ⟨by rw [encBs_length]; omega, fun x hx => ?_, ?_⟩
    · obtain ⟨z, hz, rfl⟩ := encBs_mem hx
      kwd_rel
      exact ⟨numD_b z, rfl⟩
    rw [num_encs]
    kwd_rel
    refine ite_two (fun hc => ?_) (fun hc => ?_)
    · subst hc
      kwd_rel
      refine w_lcFilter id (inD ((scrsB L.pn.act.doc).map Box.num)) (by simp) (wi_seq ?_)
      kwd_rel
      refine ⟨by rw [List.length_map]; exact Nat.le_trans hpl (by decide), fun x hx => ?_, fun x hx hb => ?_, ?_⟩
      · obtain ⟨n, hn, rfl⟩ := List.mem_map.mp hx
        kwd_rel
        refine wr_inI .lst ?_
        kwd_rel
        exact ⟨rfl, rfl⟩
      · kwd_rel
        exact ⟨rfl, rfl⟩
      rw [List.map_id, in_list]
      kwd_rel
      refine ⟨S, s, o, { L with pn := { L.pn with wt := r } }, thereX L.pn path, am, _, rfl, hL2, oa, by show L.pn.mv.length ≤ 10000; omega, .lst, ?_, ?_, fun C' a b => q _ _ rfl C' a fun z hz => by rw [b z hz, hfr z hz]⟩
      · exact Nat.le_trans (List.length_filter_le _ _) hpl
      · intro k hk
        exact of_decide_eq_true (List.mem_filter.mp hk).2
    · subst hc
      kwd_rel
      exact q _ _ rfl _ hL2 hfr
def fLacks : SpD := fun ds C P => ∃ (S T : Addr) (gs : List (Str × D)) (t : Tr) (mv : List (Int × Int)), ds = [.ref S, .ref T] ∧ C S = some (.tdic gs) ∧ gs.lookup ("moves" : Str) = some (.lst (mv.map pairD)) ∧ C T = some (trC t) ∧ TrOk t ∧ P (.lst ((missT t mv).map D.int)) C
abbrev slaw_lacks : Stmt := topS 62
theorem sclaw_lacks : FnScope ["_law_state", "_law_tree", "_law_seen", "_law_row"] ["_law_state", "_law_tree"] (defScope slaw_lacks) := ⟨rfl, rfl, rfl, by decide +kernel, rfl, by decide +kernel, by decide +kernel⟩
theorem ok_law_lacks {k : Nat} (Df : DefAt K mg "_law_lacks" slaw_lacks ["_law_state", "_law_tree"]) (T : Top mg) (h_law_picture : Has P w K mg base k "_law_picture" ["_law_document_here", "_law_offsets"] (spD (fLPict 8))) (h_law_view : Has P w K mg base k "_law_view" ["_law_state", "_law_tree"] (spD fLView)) : Has P w K mg base (k+1) "_law_lacks" ["_law_state", "_law_tree"] (spD fLacks) := by
  refine has_of Df sclaw_lacks (fun ds C P ⟨_, _, _, _, _, h, _⟩ => by rw [h]; rfl) fun f cdv A outer s H E hr => ⟨_, 
    (pss_cons (ps_nm 2 sclaw_lacks.nd (pe_def h_law_picture (hr.mono (by omega)) (pa_cons (pe_dget (hu_of hr) (pv 1) pe_str (fun _ _ => rfl)) (pa_cons (pe_def h_law_view (hr.mono (by omega)) (pa_cons (pv 0) (pa_cons (pv 1) pa_nil))) pa_nil))))
    (pss_one (ps_ret (pe_lc (own := [("_law_row", 3)]) rfl sclaw_lacks.nd (pi_seqK K (pv 2)) (blkOk_by (N := ["_law_state", "_law_tree", "_law_seen", "_law_row"]) (sc := defScope slaw_lacks) (by decide +kernel)) (fun _ _ _ _ _ => pg_nm 3 sclaw_lacks.nd) (fun _ _ _ _ _ => (pts_one (pt_cmpR (op_ninK K) (pe_ix (ix_seqK K) (pv 3) pe_int (fun _ _ => rfl)) (pe_dget (hu_of hr) (pv 1) pe_str (fun _ _ => rfl)) (by rfl)))) (fun _ _ _ _ _ => (pe_ix (ix_seqK K) (pv 3) pe_int (fun _ _ => rfl))))))), fun B ds C P ⟨S, T, gs, t, mv, hd, hS, hm, hT, ok, q⟩ => ?_⟩
  subst hd
  have hT2 := hT
  unfold trC trF trD at hT2
  have g := ok.good
  have gl := g.lev
  have gz := g.len
  have pl := pictD_len (winsOf (viewT t mv) t.doc) t.doc
  kwd_rel
  refine ⟨S, T, gs, t, mv, rfl, hS, hm, hT, g, ?_⟩
  kwd_rel
  refine ⟨t.doc, _, by omega, by omega, g.nd, rfl, ?_⟩
  kwd_rel
  refine w_lcFilter fstD (nInD t.painted ∘ fstD) (by simp) (wi_seq ?_)
  kwd_rel
  refine ⟨by omega, fun x hx => ?_, fun x hx hb => ?_, ?_⟩
  · obtain ⟨n, z1, z2, z3, rfl⟩ := pictD_mem hx
    kwd_rel
    refine wr_ninI .lst ?_
    kwd_rel
    exact ⟨rfl, rfl⟩
  · obtain ⟨n, z1, z2, z3, rfl⟩ := pictD_mem hx
    kwd_rel
    exact ⟨rfl, rfl⟩
  rw [← List.filter_map, pict_fst, nIn_list]
  kwd_rel
  exact q
end
section
variable {P : Program} {w : World} {K : PySem.W.Frag} {mg : Str → Option Value} {base : Heap}
/-! ### the law's state: painting, taking over, frames, committing -/
theorem LsC.pick {C : CH} {S s : Addr} {o : Option Addr} {L : Ls} (h : LsC C S s o L) (hok : PnOk L.pn) : ∃ (a : Addr) (t : Tr) (Y : Tr → Pn), C a = some (trC t) ∧ TrOk t ∧ (chosenT t L.pn.mv = [] → paintX L.pn = (L.pn, .non)) ∧ (∀ n l, chosenT t L.pn.mv = n :: l → paintX L.pn = (Y (addT t n), .int n)) ∧
      (∀ t2, LsC (updC C a (trC t2)) S s o { L with pn := Y t2 }) ∧ (∀ z, z ≠ s → (∀ q, o = some q → z ≠ q) → z ≠ a) ∧ a = o.getD s := by
  cases o with
  | none =>
    have hpen := h.pn0
    refine ⟨s, L.pn.act, fun t2 => { L.pn with act := t2 }, h.cs, hok.act, fun e => ?_, fun n l e => ?_, fun t2 => ⟨by rw [updC_ne h.ps]; exact h.cS, updC_same, by show PenL _ s none L.pn.pen; rw [hpen]; trivial⟩, fun z z1 _ => z1, rfl⟩
    · unfold paintX; rw [hpen]; simp only []; rw [e]
    · unfold paintX; rw [hpen]; simp only []; rw [e]; simp only [hpen]
  | some q1 =>
    obtain ⟨g1, g2, t, g3, g4⟩ := h.pq
    refine ⟨q1, t, fun t2 => { L.pn with pen := some t2 }, g4, hok.pen t g3, fun e => ?_, fun n l e => ?_, fun t2 => ⟨by rw [updC_ne g1]; exact h.cS, by rw [updC_ne (Ne.symm g2)]; exact h.cs, ⟨updC_same, g2⟩⟩, fun z _ z2 => z2 q1 rfl, rfl⟩
    · unfold paintX; rw [g3]; simp only []; rw [e]
    · unfold paintX; rw [g3]; simp only []; rw [e]
def restD (pt : List Int) : D → Bool := fun x => isBD x && notInD pt x
theorem rest_all (t : Tr) : ((encBs t.doc.all).filter (restD t.painted)).map numD = (restT t).map D.int := by
  rw [← rest_enc]
  unfold blksB
  rw [← encBs_filterB, List.filter_filter]
  congr 1
  exact List.filter_congr fun x _ => Bool.and_comm _ _
def fLPaint : SpD := fun ds C P => ∃ (S s : Addr) (o : Option Addr) (L : Ls), ds = [.ref S] ∧ LsC C S s o L ∧ PnOk L.pn ∧
  ∀ C', LsC C' S s o { L with pn := (paintX L.pn).1 } → (∀ z, z ≠ s → (∀ q, o = some q → z ≠ q) → C' z = C z) → P (paintX L.pn).2 C'
abbrev slaw_do_paint : Stmt := topS 61
theorem sclaw_do_paint : FnScope ["_law_state", "_law_tree", "_law_seen", "_law_rest", "_law_near", "_law_row", "_law_box_here", "_law_number"] ["_law_state"] (defScope slaw_do_paint) := ⟨rfl, rfl, rfl, by decide +kernel, rfl, by decide +kernel, by decide +kernel⟩
theorem ok_law_do_paint {k : Nat} (Df : DefAt K mg "_law_do_paint" slaw_do_paint ["_law_state"]) (T : Top mg) (h_law_picture : Has P w K mg base k "_law_picture" ["_law_document_here", "_law_offsets"] (spD (fLPict 8))) (h_law_view : Has P w K mg base k "_law_view" ["_law_state", "_law_tree"] (spD fLView)) (h_law_flat : Has P w K mg base k "_law_flat" ["_law_box_here"] (spD (fAllB 8))) : Has P w K mg base (k+1) "_law_do_paint" ["_law_state"] (spD fLPaint) := by
  refine has_of Df sclaw_do_paint (fun ds C P ⟨_, _, _, _, h, _⟩ => by rw [h]; rfl) fun f cdv A outer s H E hr => ⟨_, 
    (pss_cons (ps_nm 1 sclaw_do_paint.nd (pe_ifExp (pt_cmpR op_isN (pe_dget (hu_of hr) (pv 0) pe_str (fun _ _ => rfl)) pe_non (nomark _)) (pe_dget (hu_of hr) (pv 0) pe_str (fun _ _ => rfl)) (pe_dget (hu_of hr) (pv 0) pe_str (fun _ _ => rfl))))
    (pss_cons (ps_nm 2 sclaw_do_paint.nd (pe_lc (own := [("_law_row", 5)]) rfl sclaw_do_paint.nd (pi_seqK K (pe_def h_law_picture (hr.mono (by omega)) (pa_cons (pe_dget (hu_of hr) (pv 1) pe_str (fun _ _ => rfl)) (pa_cons (pe_def h_law_view (hr.mono (by omega)) (pa_cons (pv 0) (pa_cons (pv 1) pa_nil))) pa_nil)))) (blkOk_by (N := ["_law_state", "_law_tree", "_law_seen", "_law_rest", "_law_near", "_law_row", "_law_box_here", "_law_number"]) (sc := defScope slaw_do_paint) (by decide +kernel)) (fun _ _ _ _ _ => pg_nm 5 sclaw_do_paint.nd) (fun _ _ _ _ _ => pts_nil) (fun _ _ _ _ _ => (pe_ix (ix_seqK K) (pv 5) pe_int (fun _ _ => rfl)))))
    (pss_cons (ps_setLc (i := 3) (own := [("_law_box_here", 6)]) rfl sclaw_do_paint.nd rfl rfl (sw_true rfl rfl rfl (by decide +kernel)) (pi_seqK K (pe_def h_law_flat (hr.mono (by omega)) (pa_cons (pe_dget (hu_of hr) (pv 1) pe_str (fun _ _ => rfl)) pa_nil))) (blkOk_by (N := ["_law_state", "_law_tree", "_law_seen", "_law_rest", "_law_near", "_law_row", "_law_box_here", "_law_number"]) (sc := defScope slaw_do_paint) (by decide +kernel)) (fun _ _ _ _ _ => pg_nm 6 sclaw_do_paint.nd) (fun _ _ _ _ _ => (pts_one (PW.pt (pw_and (pt_cmpR (op_eqK K hr) (pe_ix (ix_seqK K) (pv 6) pe_int (fun _ _ => rfl)) pe_str (nomark _)) (pw_and1 (pt_cmpR (op_ninK K) (pe_ix (ix_seqK K) (pv 6) pe_int (fun _ _ => rfl)) (pe_dget (hu_of hr) (pv 1) pe_str (fun _ _ => rfl)) (by rfl))))))) (fun _ _ _ _ _ => (pe_ix (ix_seqK K) (pv 6) pe_int (fun _ _ => rfl))))
    (pss_cons (ps_nm 4 sclaw_do_paint.nd (pe_op (op_addK K) (pe_lc (own := [("_law_number", 7)]) rfl sclaw_do_paint.nd (pi_seqK K (pv 3)) (blkOk_by (N := ["_law_state", "_law_tree", "_law_seen", "_law_rest", "_law_near", "_law_row", "_law_box_here", "_law_number"]) (sc := defScope slaw_do_paint) (by decide +kernel)) (fun _ _ _ _ _ => pg_nm 7 sclaw_do_paint.nd) (fun _ _ _ _ _ => (pts_one (pt_cmpR (op_inK K) (pv 7) (pv 2) (by rfl)))) (fun _ _ _ _ _ => (pv 7))) (pe_lc (own := [("_law_number", 7)]) rfl sclaw_do_paint.nd (pi_seqK K (pv 3)) (blkOk_by (N := ["_law_state", "_law_tree", "_law_seen", "_law_rest", "_law_near", "_law_row", "_law_box_here", "_law_number"]) (sc := defScope slaw_do_paint) (by decide +kernel)) (fun _ _ _ _ _ => pg_nm 7 sclaw_do_paint.nd) (fun _ _ _ _ _ => (pts_one (pt_cmpR (op_ninK K) (pv 7) (pv 2) (by rfl)))) (fun _ _ _ _ _ => (pv 7)))))
    (pss_cons (ps_if (pt_truK K (pv 4)) 
      (pss_one (ps_dput (hu_of hr) (pv 1) pe_str (pe_callB (call_sortedK K) (by rfl) T.sorted bt_sorted (pa_cons (pe_op (op_addK K) (pe_dget (hu_of hr) (pv 1) pe_str (fun _ _ => rfl)) (pe_slice (sl_K K) (pv 4) po_none (po_some pe_int))) pa_nil)) rfl)) pss_nil)
    (pss_one (ps_ret (pe_ifExp (pt_truK K (pv 4)) (pe_ix (ix_seqK K) (pv 4) pe_int (fun _ _ => rfl)) pe_non)))))))), fun B ds C P ⟨S, s, o, L, hd, hL, hok, q⟩ => ?_⟩
  subst hd
  have h1 := hL.cS
  unfold lsF lsD at h1
  obtain ⟨a, t, Y, hat, hok2, hY0, hY1, hYP, hYf, hsel⟩ := hL.pick hok
  have hat2 := hat
  unfold trC trF trD at hat2
  have g := hok2.good
  have gl := g.lev
  have gz := g.len
  have hpl := hok2.pl
  refine ws_seq (ws_set (w_to (.ref a) ?_ ?_))
  · cases o with
    | none =>
      kwd_rel
      kwd_less
      kwd_rel
      exact ⟨by rw [hsel]; rfl, rfl⟩
    | some q1 =>
      kwd_rel
      kwd_less
      kwd_rel
      exact ⟨by rw [hsel]; rfl, rfl⟩
  have pl := pictD_len (winsOf (viewT t L.pn.mv) t.doc) t.doc
  kwd_rel
  refine w_lcMap fstD (by simp) (wi_seq ?_)
  kwd_rel
  refine ⟨S, a, _, t, L.pn.mv, rfl, hL.cS, rfl, hat, g, ?_⟩
  kwd_rel
  refine ⟨t.doc, _, by omega, by omega, g.nd, rfl, ?_⟩
  kwd_rel
  refine ⟨by omega, fun x hx => ?_, ?_⟩
  · obtain ⟨n, z1, z2, z3, rfl⟩ := pictD_mem hx
    kwd_rel
    exact ⟨rfl, rfl⟩
  rw [pict_fst]
  have sl := shown_len t.doc (viewT t L.pn.mv)
  have rl := rest_len t
  kwd_rel
  refine w_lcFilter numD (restD t.painted) (by simp) (wi_seq ?_)
  kwd_rel
  refine ⟨t.doc, by omega, by omega, rfl, ?_⟩
  kwd_rel
  refine ⟨by rw [encBs_length]; omega, fun x hx => ?_, fun x hx hb => ?_, ?_⟩
  · obtain ⟨z, hz, rfl⟩ := encBs_mem hx
    cases z with
    | block m h =>
      kwd_rel
      kwd_less
      kwd_rel
      refine wr_ninI .lst ?_
      kwd_rel
      exact ⟨rfl, rfl⟩
    | scroller m h ps =>
      kwd_rel
      kwd_less
      exact ⟨rfl, rfl⟩
  · obtain ⟨z, hz, rfl⟩ := encBs_mem hx
    kwd_rel
    exact ⟨numD_b z, rfl⟩
  rw [rest_all]
  kwd_rel
  refine w_lcFilter id (inD (shownB t.doc (viewT t L.pn.mv))) (by simp) (wi_seq ?_)
  kwd_rel
  refine ⟨by rw [List.length_map]; omega, fun x hx => ?_, fun x hx hb => ?_, ?_⟩
  · obtain ⟨n, hn, rfl⟩ := List.mem_map.mp hx
    kwd_rel
    refine wr_inI .lst ?_
    kwd_rel
    exact ⟨rfl, rfl⟩
  · kwd_rel
    exact ⟨rfl, rfl⟩
  rw [List.map_id, in_list]
  kwd_rel
  refine w_lcFilter id (nInD (shownB t.doc (viewT t L.pn.mv))) (by simp) (wi_seq ?_)
  kwd_rel
  refine ⟨by rw [List.length_map]; omega, fun x hx => ?_, fun x hx hb => ?_, ?_⟩
  · obtain ⟨n, hn, rfl⟩ := List.mem_map.mp hx
    kwd_rel
    refine wr_ninI .lst ?_
    kwd_rel
    exact ⟨rfl, rfl⟩
  · kwd_rel
    exact ⟨rfl, rfl⟩
  rw [List.map_id, nIn_list]
  have l1 : ((restT t).filter fun n => decide (n ∈ shownB t.doc (viewT t L.pn.mv))).length ≤ (restT t).length := List.length_filter_le _ _
  have l2 : ((restT t).filter fun n => decide (n ∉ shownB t.doc (viewT t L.pn.mv))).length ≤ (restT t).length := List.length_filter_le _ _
  refine wr_addL .lst .lst (by rw [List.length_map, List.length_map]; omega) ?_
  rw [← List.map_append, near_eq]
  obtain ⟨r, er, er2⟩ := near_chosen t L.pn.mv
  rw [er]
  cases hch : chosenT t L.pn.mv with
  | nil =>
    rw [er2 hch]
    rw [hY0 hch] at q
    kwd_rel
    kwd_less
    kwd_rel
    kwd_less
    kwd_rel
    exact q C hL fun z _ _ => rfl
  | cons n l =>
    rw [hY1 n l hch] at q
    kwd_rel
    kwd_less
    kwd_rel
    have ec : cutD ((n :: l ++ r).map D.int) none (some 1) = [D.int n] := by
      have := cutD_take (ds := (n :: l ++ r).map D.int) (k := 1)
      rw [show ((1 : Nat) : Int) = 1 from rfl] at this
      rw [this]
      rfl
    rw [ec]
    refine wr_addL .lst .lst (by rw [List.length_map]; simp; omega) ?_
    have e1 : t.painted.map D.int ++ [D.int n] = (t.painted ++ [n]).map D.int := by simp
    rw [e1]
    kwd_rel
    refine wc_sorted .lst (fun hs' p1 w1 => ?_)
    rw [srt_eq p1 w1]
    kwd_rel
    kwd_less
    kwd_rel
    refine wr_ix .lst (d := .int n) atI_zero ?_
    exact q _ (hYP (addT t n)) fun z z1 z2 => updC_ne (hYf z z1 z2)
def fLTake : SpD := fun ds C P => ∃ (S s : Addr) (o : Option Addr) (L : Ls), ds = [.ref S] ∧ LsC C S s o L ∧ PnOk L.pn ∧
  (takeX L.pn = none → P (.str "not ready") C) ∧ ∀ Y v q, o = some q → takeX L.pn = some (Y, v) → ∀ C', LsC C' S q none { L with pn := Y } → (∀ z, z ≠ S → C' z = C z) → P v C'
abbrev slaw_do_take : Stmt := topS 63
theorem sclaw_do_take : FnScope ["_law_state"] ["_law_state"] (defScope slaw_do_take) := ⟨rfl, rfl, rfl, by decide +kernel, rfl, by decide +kernel, by decide +kernel⟩
theorem ok_law_do_take {k : Nat} (Df : DefAt K mg "_law_do_take" slaw_do_take ["_law_state"]) (T : Top mg) (h_law_lacks : Has P w K mg base k "_law_lacks" ["_law_state", "_law_tree"] (spD fLacks)) : Has P w K mg base (k+1) "_law_do_take" ["_law_state"] (spD fLTake) := by
  refine has_of Df sclaw_do_take (fun ds C P ⟨_, _, _, _, h, _⟩ => by rw [h]; rfl) fun f cdv A outer s H E hr => ⟨_, 
    (pss_cons (ps_if (PW.pt (pw_or (pt_cmpR op_isN (pe_dget (hu_of hr) (pv 0) pe_str (fun _ _ => rfl)) pe_non (nomark _)) (pw_or1 (pt_truK K (pe_def h_law_lacks (hr.mono (by omega)) (pa_cons (pv 0) (pa_cons (pe_dget (hu_of hr) (pv 0) pe_str (fun _ _ => rfl)) pa_nil))))))) 
      (pss_one (ps_ret pe_str)) pss_nil)
    (pss_cons (ps_dput (hu_of hr) (pv 0) pe_str (pe_dget (hu_of hr) (pv 0) pe_str (fun _ _ => rfl)) rfl)
    (pss_cons (ps_dput (hu_of hr) (pv 0) pe_str pe_non rfl)
    (pss_one (ps_ret (pe_dget (hu_of hr) (pe_dget (hu_of hr) (pv 0) pe_str (fun _ _ => rfl)) pe_str (fun _ _ => rfl))))))), fun B ds C P ⟨S, s, o, L, hd, hL, hok, qx, q⟩ => ?_⟩
  subst hd
  have h1 := hL.cS
  unfold lsF lsD at h1
  unfold takeX at q qx
  cases o with
  | none =>
    rw [hL.pn0] at qx
    kwd_rel
    kwd_less
    kwd_rel
    kwd_less
    kwd_rel
    exact qx rfl
  | some q1 =>
    obtain ⟨g1, g2, t, g3, g4⟩ := hL.pq
    rw [g3] at qx q
    simp only [] at qx q
    have hot := hok.pen t g3
    have g5 := g4
    unfold trC trF trD at g5
    kwd_rel
    kwd_less
    kwd_rel
    refine ⟨S, q1, _, t, L.pn.mv, rfl, hL.cS, rfl, g4, hot, ?_⟩
    refine ⟨_, rfl, ?_⟩
    refine ite_two (fun hm => ?_) (fun hm => ?_)
    · have e : ¬ missT t L.pn.mv = [] := fun e => by rw [e] at hm; cases hm
      rw [if_neg e] at qx
      kwd_rel
      exact qx rfl
    · have e : missT t L.pn.mv = [] := by
        cases he : missT t L.pn.mv with
        | nil => rfl
        | cons x l => rw [he] at hm; cases hm
      rw [if_pos e] at q
      kwd_rel
      refine ⟨_, by rw [updC_ne (Ne.symm g1), updC_ne (Ne.symm g1)]; exact g5, _, rfl, ?_⟩
      exact q _ _ q1 rfl rfl _ ⟨updC_same, by rw [updC_ne (Ne.symm g1), updC_ne (Ne.symm g1)]; exact g4, trivial⟩ fun z hz => by rw [updC_ne hz, updC_ne hz]
def fLFrame : SpD := fun ds C P => ∃ (S s : Addr) (o : Option Addr) (L : Ls), ds = [.ref S] ∧ LsC C S s o L ∧ PnOk L.pn ∧ P (frameX L.pn) C
abbrev slaw_frame : Stmt := topS 64
theorem sclaw_frame : FnScope ["_law_state", "_law_tree", "_law_rows", "_law_row"] ["_law_state"] (defScope slaw_frame) := ⟨rfl, rfl, rfl, by decide +kernel, rfl, by decide +kernel, by decide +kernel⟩
theorem ok_law_frame {k : Nat} (Df : DefAt K mg "_law_frame" slaw_frame ["_law_state"]) (T : Top mg) (h_law_picture : Has P w K mg base k "_law_picture" ["_law_document_here", "_law_offsets"] (spD (fLPict 8))) (h_law_view : Has P w K mg base k "_law_view" ["_law_state", "_law_tree"] (spD fLView)) : Has P w K mg base (k+1) "_law_frame" ["_law_state"] (spD fLFrame) := by
  refine has_of Df sclaw_frame (fun ds C P ⟨_, _, _, _, h, _⟩ => by rw [h]; rfl) fun f cdv A outer s H E hr => ⟨_, 
    (pss_cons (ps_nm 1 sclaw_frame.nd (pe_dget (hu_of hr) (pv 0) pe_str (fun _ _ => rfl)))
    (pss_cons (ps_nm 2 sclaw_frame.nd (pe_def h_law_picture (hr.mono (by omega)) (pa_cons (pe_dget (hu_of hr) (pv 1) pe_str (fun _ _ => rfl)) (pa_cons (pe_def h_law_view (hr.mono (by omega)) (pa_cons (pv 0) (pa_cons (pv 1) pa_nil))) pa_nil))))
    (pss_one (ps_ret (pe_tup (pa_cons (pe_dget (hu_of hr) (pv 1) pe_str (fun _ _ => rfl)) (pa_cons (pe_callB (call_lenK K) (by rfl) T.len bt_len (pa_cons (pe_dget (hu_of hr) (pv 0) pe_str (fun _ _ => rfl)) pa_nil)) (pa_cons (pe_lc (own := [("_law_row", 3)]) rfl sclaw_frame.nd (pi_seqK K (pv 2)) (blkOk_by (N := ["_law_state", "_law_tree", "_law_rows", "_law_row"]) (sc := defScope slaw_frame) (by decide +kernel)) (fun _ _ _ _ _ => pg_nm 3 sclaw_frame.nd) (fun _ _ _ _ _ => pts_nil) (fun _ _ _ _ _ => (pe_op (op_addK K) (pv 3) (pe_tup (pa_cons (pe_cmpR (op_inK K) (pe_ix (ix_seqK K) (pv 3) pe_int (fun _ _ => rfl)) (pe_dget (hu_of hr) (pv 1) pe_str (fun _ _ => rfl)) (by rfl)) pa_nil))))) pa_nil)))))))), fun B ds C P ⟨S, s, o, L, hd, hL, hok, q⟩ => ?_⟩
  subst hd
  have h1 := hL.cS
  have h2 := hL.cs
  unfold trC trF trD at h2
  unfold lsF lsD at h1
  have oa := hok.act
  have g := oa.good
  have gl := g.lev
  have gz := g.len
  have pl := pictD_len (winsOf (viewT L.pn.act L.pn.mv) L.pn.act.doc) L.pn.act.doc
  kwd_rel
  refine ⟨S, s, _, L.pn.act, L.pn.mv, rfl, hL.cS, rfl, hL.cs, g, ?_⟩
  kwd_rel
  refine ⟨L.pn.act.doc, _, by omega, by omega, g.nd, rfl, ?_⟩
  kwd_rel
  rw [List.length_map]
  refine w_lcMap (entP L.pn.act.painted) (by simp) (wi_seq ?_)
  kwd_rel
  refine ⟨by omega, fun x hx => ?_, ?_⟩
  · obtain ⟨n, z1, z2, z3, rfl⟩ := pictD_mem hx
    kwd_rel
    refine wr_inI .lst ?_
    kwd_rel
    refine wr_addT (by simp) ?_
    exact ⟨rfl, rfl⟩
  kwd_rel
  exact q
end
section
variable {P : Program} {w : World} {K : PySem.W.Frag} {mg : Str → Option Value} {base : Heap}
/-! ### the law's state: committing -/
def isBlk (o : Option Box) (n h : Int) : Bool := match o with
  | some (.block m v) => decide (m = n) && decide (v = h)
  | _ => false
theorem blk_hgt (a : Tr) (n h : Int) : (decide (n ∈ a.painted) && isBlk (findB a.doc.all n) n h) = decide (hgtOf a n = some h) := by
  unfold hgtOf
  by_cases z : n ∈ a.painted
  · rw [if_pos z, decide_eq_true z, Bool.true_and]
    cases e : findB a.doc.all n with
    | none => rfl
    | some b =>
      have e2 := (findB_is e).2
      cases b with
      | scroller m v ps => rfl
      | block m v =>
        cases e2
        simp [isBlk, Box.num]
  · rw [if_neg z, decide_eq_false z, Bool.false_and]
    rfl
theorem wr_eqB {B0 : Gr} {C : CH} {Q : D → CH → Prop} {o : Option Box} {n h : Int} (hl : ∀ b, o = some b → b.lev ≤ 8) (k : Q (.bl (isBlk o n h)) C) : WR B0 (rEqU K) (encO o) (encB (.block n h)) C Q := by
  have g2 : PyG 16 (encB (.block n h)) := pygB 8 _ (by rw [Box.lev]; omega)
  obtain ⟨p2, a1, a2, a3⟩ := g2.py
  have e2 : p2 = .tuple [.str "block", .int n, .int h] := (Option.some.inj a1).symm
  have main : ∃ p1, toPy (encO o) = some p1 ∧ p1.canLay0 = true ∧ p1.depth ≤ 16 ∧ PyData.eqv p1 (.tuple [.str "block", .int n, .int h]) = isBlk o n h := by
    cases o with
    | none => exact ⟨.none, rfl, rfl, by decide, by simp [PyData.eqv, isBlk]⟩
    | some b =>
      obtain ⟨p1, b1, b2, b3⟩ := (pygB 8 b (hl b rfl)).py
      refine ⟨p1, b1, b2, b3, ?_⟩
      cases b with
      | block m v =>
        have e1 : p1 = .tuple [.str "block", .int m, .int v] := (Option.some.inj b1).symm
        subst e1
        simp only [PyData.eqv, PyData.eqvAll, beq_self_eq_true, Bool.true_and, Bool.and_true, isBlk]
        rw [Bool.eq_iff_iff]
        simp
      | scroller m v ps =>
        have b1' : (toPys (.str "scroller" :: .int m :: .int v :: [.tup (encBs ps)])).map PyData.tuple = some p1 := b1
        cases e : toPys (.str "scroller" :: .int m :: .int v :: [.tup (encBs ps)]) with
        | none => rw [e] at b1'; cases b1'
        | some l =>
          rw [e] at b1'
          obtain rfl := (Option.some.inj b1').symm
          have e3 : (((toPys [D.tup (encBs ps)]).map fun b => PyData.int v :: b).map fun b => PyData.int m :: b).map (fun b => PyData.str "scroller" :: b) = some l := e
          cases e4 : toPys [D.tup (encBs ps)] with
          | none => rw [e4] at e3; cases e3
          | some l2 =>
            rw [e4] at e3
            obtain rfl := Option.some.inj e3
            have : (("scroller" : Str) == ("block" : Str)) = false := by decide
            simp [PyData.eqv, PyData.eqvAll, this, isBlk]
  obtain ⟨p1, b1, b2, b3, b4⟩ := main
  refine wr_eqP b1 a1 (shaped_of b2 (by omega)) (shaped_of a2 (by omega)) ?_
  rw [e2, b4]
  exact k
def keepB (a : Tr) : D → Bool := fun x => isBD x && keepD a x
def newT (L : Ls) : Tr := { num := L.made + 1, doc := L.doc, base := L.off, held := L.held, inc := L.told, painted := [], deeds := L.deeds }
def commitL (L : Ls) : Ls := { L with made := L.made + 1, begun := false, dirty := false, pn := receiveX L.pn (newT L) }
def keptP (a : Tr) (l : List Box) : List Int := ((l.filter fun p => !p.isS).filter fun p => decide (hgtOf a p.num = some p.hgt)).map Box.num
theorem keptP_snoc (a : Tr) (l : List Box) (p : Box) : keptP a (l ++ [p]) = keptP a l ++ keptP a [p] := by simp [keptP]
theorem keptP_len (a : Tr) (l : List Box) : (keptP a l).length ≤ l.length := by
  unfold keptP
  rw [List.length_map]
  exact Nat.le_trans (List.length_filter_le _ _) (List.length_filter_le _ _)
def fLCommit : SpD := fun ds C P => ∃ (S s : Addr) (o : Option Addr) (L : Ls), ds = [.ref S] ∧ LsC C S s o L ∧ TrOk L.pn.act ∧ L.doc.lev ≤ 8 ∧ L.doc.all.length ≤ 1000 ∧
  (L.begun = false → P (.str "not begun") C) ∧ (L.begun = true → o ≠ none → P (.str "busy") C) ∧
  (L.begun = true → o = none → ∀ C' q, C q = none → LsC C' S s (some q) (commitL L) → (∀ z, z ≠ S → z ≠ q → C' z = C z) → P (.int (L.made + 1)) C')
abbrev slaw_do_commit : Stmt := topS 57
theorem sclaw_do_commit : FnScope ["_law_state", "_law_old", "_law_painted", "_law_box_here"] ["_law_state"] (defScope slaw_do_commit) := ⟨rfl, rfl, rfl, by decide +kernel, rfl, by decide +kernel, by decide +kernel⟩
theorem ok_law_do_commit {k : Nat} (Df : DefAt K mg "_law_do_commit" slaw_do_commit ["_law_state"]) (T : Top mg) (h_law_flat : Has P w K mg base k "_law_flat" ["_law_box_here"] (spD (fAllB 8))) (h_law_box : Has P w K mg base k "_law_box" ["_law_document_here", "_law_number"] (spD (fFind 8))) : Has P w K mg base (k+1) "_law_do_commit" ["_law_state"] (spD fLCommit) := by
  refine has_of Df sclaw_do_commit (fun ds C P ⟨_, _, _, _, h, _⟩ => by rw [h]; rfl) fun f cdv A outer s H E hr => ⟨_, 
    (pss_cons (ps_if (PW.pt (pw_or (pt_not (pt_truK K (pe_dget (hu_of hr) (pv 0) pe_str (fun _ _ => rfl)))) (pw_or1 (pt_cmpR op_notN (pe_dget (hu_of hr) (pv 0) pe_str (fun _ _ => rfl)) pe_non (nomark _))))) 
      (pss_one (ps_ret (pe_ifExp (pt_truK K (pe_dget (hu_of hr) (pv 0) pe_str (fun _ _ => rfl))) pe_str pe_str))) pss_nil)
    (pss_cons (ps_nm 1 sclaw_do_commit.nd (pe_dget (hu_of hr) (pv 0) pe_str (fun _ _ => rfl)))
    (pss_cons (ps_nm 2 sclaw_do_commit.nd (pe_lst pa_nil))
    (pss_cons (ps_for PassesOwn.never rfl (pi_seqK K (pe_def h_law_flat (hr.mono (by omega)) (pa_cons (pe_dget (hu_of hr) (pv 0) pe_str (fun _ _ => rfl)) pa_nil))) (pg_nm 3 sclaw_do_commit.nd) 
      (pss_one (ps_if (PW.pt (pw_and (pt_cmpR (op_eqK K hr) (pe_ix (ix_seqK K) (pv 3) pe_int (fun _ _ => rfl)) pe_str (nomark _)) (pw_and (pt_cmpR (op_inK K) (pe_ix (ix_seqK K) (pv 3) pe_int (fun _ _ => rfl)) (pe_dget (hu_of hr) (pv 1) pe_str (fun _ _ => rfl)) (by rfl)) (pw_and1 (pt_cmpR (op_eqK K hr) (pe_def h_law_box (hr.mono (by omega)) (pa_cons (pe_dget (hu_of hr) (pv 1) pe_str (fun _ _ => rfl)) (pa_cons (pe_ix (ix_seqK K) (pv 3) pe_int (fun _ _ => rfl)) pa_nil))) (pv 3) (nomark _)))))) 
        (pss_one (ps_expr (pe_bmK K PySem.F.plainAttrs_list PySem.F.slot_list_append PySem.F.type_list_append mt_append (pv 2) (pa_cons (pe_ix (ix_seqK K) (pv 3) pe_int (fun _ _ => rfl)) pa_nil)))) pss_nil)))
    (pss_cons (ps_dput (hu_of hr) (pv 0) pe_str (pe_op (op_addK K) (pe_dget (hu_of hr) (pv 0) pe_str (fun _ _ => rfl)) pe_int) rfl)
    (pss_cons (ps_dput (hu_of hr) (pv 0) pe_str pe_bl rfl)
    (pss_cons (ps_dput (hu_of hr) (pv 0) pe_str pe_bl rfl)
    (pss_cons (ps_dput (hu_of hr) (pv 0) pe_str (pe_disp (pps_cons pe_str (pe_dget (hu_of hr) (pv 0) pe_str (fun _ _ => rfl)) (pps_cons pe_str (pe_dget (hu_of hr) (pv 0) pe_str (fun _ _ => rfl)) (pps_cons pe_str (pe_dget (hu_of hr) (pv 0) pe_str (fun _ _ => rfl)) (pps_cons pe_str (pe_dget (hu_of hr) (pv 0) pe_str (fun _ _ => rfl)) (pps_cons pe_str (pe_dget (hu_of hr) (pv 0) pe_str (fun _ _ => rfl)) (pps_cons pe_str (pe_dget (hu_of hr) (pv 0) pe_str (fun _ _ => rfl)) (pps_cons pe_str (pe_callB (call_sortedK K) (by rfl) T.sorted bt_sorted (pa_cons (pv 2) pa_nil)) pps_nil))))))) (by rfl) (by rfl) (fun z => by cases z) (by decide)) rfl)
    (pss_one (ps_ret (pe_dget (hu_of hr) (pv 0) pe_str (fun _ _ => rfl)))))))))))), fun B ds C P ⟨S, s, o, L, hd, hL, oa, hl, hz, q0, q1, q2⟩ => ?_⟩
  subst hd
  have h1 := hL.cS
  have h2 := hL.cs
  unfold trC trF trD at h2
  unfold lsF lsD at h1
  have ga := oa.good
  have gl := ga.lev
  have gz := ga.len
  have hlb : ∀ n b, findB L.pn.act.doc.all n = some b → b.lev ≤ 8 := fun n b e => by
    have := (mem_lev 8 L.pn.act.doc b (by omega) (findB_is e).1).1
    exact this
  cases hb : L.begun with
  | false =>
    rw [hb] at h1
    kwd_rel
    kwd_less
    kwd_rel
    kwd_less
    kwd_rel
    kwd_less
    kwd_rel
    exact q0 hb
  | true =>
    rw [hb] at h1
    cases o with
    | some q1 =>
      kwd_rel
      kwd_less
      kwd_rel
      kwd_less
      kwd_rel
      kwd_less
      kwd_rel
      exact q1 hb (by simp)
    | none =>
      refine ws_weak ?_
      kwd_rel
      kwd_less
      kwd_rel
      kwd_less
      kwd_rel
      refine w_lstC ?_
      kwd_rel
      intro c hc
      have Sc : S ≠ c := fun e => by rw [← e, hL.cS] at hc; cases hc
      have sc : s ≠ c := fun e => by rw [← e, hL.cs] at hc; cases hc
      kwd_rel
      refine ws_for (fun rest E1 C1 => ∃ (pre post : List Box) (x3 : Option D), L.doc.all = pre ++ post ∧ rest = encBs post ∧ E1 = [some (.ref S), some (.ref s), some (.ref c), x3] ∧ C1 = updC C c (.lst ((keptP L.pn.act pre).map D.int))) (wi_seq ?_) ?_ ?_
      · have h1c : updC C c (.lst []) S = _ := (updC_ne Sc).trans h1
        kwd_rel
        refine ⟨L.doc, hl, by omega, rfl, ?_⟩
        kwd_rel
        exact ⟨[], _, none, rfl, rfl, rfl, rfl⟩
      · rintro E1 C1 ⟨pre, post, x3, e1, e2, rfl, rfl⟩
        have e := encBs_nil e2
        subst e
        rw [List.append_nil] at e1
        subst e1
        have Sc2 : updC C c (.lst ((keptP L.pn.act L.doc.all).map D.int)) S = C S := updC_ne Sc
        have h1' : updC C c (.lst ((keptP L.pn.act L.doc.all).map D.int)) S = _ := Sc2.trans h1
        refine nx_show ?_
        refine ws_freeze (i := 2) rfl updC_same ?_
        rw [delC_updC hc]
        have hL3 : LsC (updC C S (.tdic (lsF s none { L with made := L.made + 1, begun := false, dirty := false }))) S s none { L with made := L.made + 1, begun := false, dirty := false } := hL.put rfl rfl
        kwd_rel
        rw [updC_updC, updC_updC]
        show W B _ _ (updC C S (.tdic (lsF s none { L with made := L.made + 1, begun := false, dirty := false }))) _
        have hfr : ∀ z, z ≠ S → updC C S (.tdic (lsF s none { L with made := L.made + 1, begun := false, dirty := false })) z = C z := fun z hz => updC_ne hz
        generalize updC C S (.tdic (lsF s none { L with made := L.made + 1, begun := false, dirty := false })) = C3 at hL3 hfr ⊢
        have g1 := hL3.cS
        unfold lsF lsD at g1
        refine w_dispT ?_
        intro q hq
        have Sq : S ≠ q := fun e => by rw [← e, hL3.cS] at hq; cases hq
        have sq : s ≠ q := fun e => by rw [← e, hL3.cs] at hq; cases hq
        have g2 : updC C3 q (.tdic []) S = _ := (updC_ne Sq).trans g1
        refine wpt_cons (w_str ⟨_, rfl, ?_⟩)
        kwd_rel
        refine wpt_cons (w_str ⟨_, rfl, ?_⟩)
        kwd_rel
        refine wpt_cons (w_str ⟨_, rfl, ?_⟩)
        kwd_rel
        refine wpt_cons (w_str ⟨_, rfl, ?_⟩)
        kwd_rel
        refine wpt_cons (w_str ⟨_, rfl, ?_⟩)
        kwd_rel
        refine wpt_cons (w_str ⟨_, rfl, ?_⟩)
        kwd_rel
        refine wpt_cons (w_str ⟨_, rfl, ?_⟩)
        kwd_rel
        refine wc_sorted .lst (fun hs' p1 w1 => ?_)
        rw [srt_eq p1 w1]
        refine wpt_nil ?_
        refine ⟨updC_same, by simp, ?_⟩
        rw [updC_updC, merge_tr]
        have g3 : updC C3 q (trC { newT L with painted := srt (keptL L.pn.act L.doc) }) S = _ := (updC_ne Sq).trans g1
        show W B _ _ (updC C3 q (trC { newT L with painted := srt (keptL L.pn.act L.doc) })) _
        kwd_rel
        refine ⟨_, fun _ _ z => z, ?_⟩
        refine q2 hb rfl _ q (by rw [← hfr q (Ne.symm Sq)]; exact hq) ⟨updC_same, ?_, ?_, Ne.symm sq⟩ fun z z1 z2 => by rw [updC_ne z1, updC_ne z2, hfr z z1]
        · rw [updC_ne (Ne.symm hL.ps), updC_ne sq, hfr s (Ne.symm hL.ps)]; exact hL.cs
        · rw [updC_ne (Ne.symm Sq)]; exact updC_same
      · rintro x xs E1 C1 ⟨pre, post, x3, e1, e2, rfl, rfl⟩
        obtain ⟨p, r, rfl, rfl, rfl⟩ := encBs_cons e2
        have h2' : updC C c (.lst ((keptP L.pn.act pre).map D.int)) s = _ := (updC_ne sc).trans h2
        have hpl := keptP_len L.pn.act pre
        have hpl2 : pre.length ≤ L.doc.all.length := by rw [e1]; simp
        cases p with
        | scroller m h ps =>
          have e : keptP L.pn.act (pre ++ [.scroller m h ps]) = keptP L.pn.act pre := by rw [keptP_snoc]; simp [keptP, Box.isS]
          kwd_rel
          kwd_less
          kwd_rel
          kwd_less
          kwd_rel
          exact ⟨pre ++ [.scroller m h ps], r, _, by simp [e1], rfl, rfl, by rw [e]⟩
        | block m h =>
          have ek : keptP L.pn.act [.block m h] = if (decide (m ∈ L.pn.act.painted) && isBlk (findB L.pn.act.doc.all m) m h) = true then [m] else [] := by
            rw [blk_hgt]
            unfold keptP
            by_cases z : hgtOf L.pn.act m = some h <;> simp [Box.isS, Box.num, Box.hgt, z]
          have tail : ∀ l : List Int, keptP L.pn.act [.block m h] = l → ∃ (pre1 post : List Box) (x3 : Option D), L.doc.all = pre1 ++ post ∧ encBs r = encBs post ∧ [some (D.ref S), some (.ref s), some (.ref c), some (encB (.block m h))] = [some (D.ref S), some (.ref s), some (.ref c), x3] ∧
              updC C c (.lst ((keptP L.pn.act pre ++ l).map D.int)) = updC C c (.lst ((keptP L.pn.act pre1).map D.int)) := fun l e => ⟨pre ++ [.block m h], r, _, by simp [e1], rfl, rfl, by rw [keptP_snoc, e]⟩
          kwd_rel
          kwd_less
          kwd_rel
          refine wr_inI .lst ?_
          kwd_rel
          refine ite_two (fun hc1 => ?_) (fun hc1 => ?_)
          · replace hc1 : decide (m ∈ L.pn.act.painted) = true := hc1
            rw [hc1, Bool.true_and] at ek
            kwd_rel
            refine ⟨L.pn.act.doc, m, by omega, by omega, rfl, ?_⟩
            kwd_rel
            refine wr_eqB (hlb m) ?_
            kwd_rel
            refine ite_two (fun hc2 => ?_) (fun hc2 => ?_)
            · rw [if_pos hc2] at ek
              kwd_rel
              refine w_bmL ?_
              kwd_rel
              refine ⟨⟨_, .cell updC_same⟩, ?_⟩
              kwd_rel
              refine wm_append updC_same (by rw [List.length_map]; omega) ?_
              kwd_rel
              have := tail _ ek
              rw [List.map_append] at this
              rw [updC_updC]
              exact this
            · rw [if_neg (by rw [hc2]; decide)] at ek
              kwd_rel
              have := tail _ ek
              simpa using this
          · replace hc1 : decide (m ∈ L.pn.act.painted) = false := hc1
            rw [hc1, Bool.false_and, if_neg (by decide)] at ek
            kwd_rel
            kwd_less
            kwd_rel
            have := tail _ ek
            simpa using this
end
section
variable {P : Program} {w : World} {K : PySem.W.Frag} {mg : Str → Option Value} {base : Heap}
/-! ### what the law hands to the painter -/
theorem LsC.to {C C1 : CH} {S s : Addr} {o : Option Addr} {L L1 : Ls} (h : LsC C S s o L) (hS : C1 S = some (.tdic (lsF s o L1))) (hp : L1.pn = L.pn) (h1 : C1 s = C s) (h2 : ∀ q, o = some q → C1 q = C q) : LsC C1 S s o L1 := by
  refine ⟨hS, by rw [h1, hp]; exact h.cs, ?_⟩
  rw [hp]
  cases o with
  | none => rw [h.pn0]; trivial
  | some q =>
    obtain ⟨_, g2, t, g3, g4⟩ := h.pq
    rw [g3]
    exact ⟨by rw [h2 q rfl]; exact g4, g2⟩
theorem draw_neC {C : CH} {d a : Addr} {c : Cell} (h : IsDraw C d) (h2 : C a = some c) (hn : ∀ l, c ≠ .lst l) : d ≠ a := fun e => by
  obtain ⟨z, h1, ns, p, q, s, rfl, _⟩ := h
  rw [e, h2] at h1
  exact hn _ (Option.some.inj h1)
structure GivenL (L L' : Ls) : Prop where
  pn : L'.pn = L.pn
  made : L'.made = L.made
  deeds : L'.deeds = L.deeds
  begun : L'.begun = true
  doc : DocM L'.fresh L'.doc
  f0 : L.fresh ≤ L'.fresh
  f1 : L'.fresh ≤ L.fresh + 2
  good : GoodS L'.doc L'.off
  hl : L'.held.length ≤ 7
  t0 : L.told ≤ L'.told
  t1 : L'.told ≤ L.pn.mv.length
def fLGiven (mg : Str → Option Value) : SpD := fun ds C P => ∃ (d S s : Addr) (o : Option Addr) (L : Ls), ds = [.ref d, .ref S] ∧ IsDraw C d ∧ LsC C S s o L ∧ DocM L.fresh L.doc ∧ 0 ≤ L.fresh ∧ L.fresh ≤ 900 ∧ L.told ≤ L.pn.mv.length ∧ L.pn.mv.length ≤ 10000 ∧
  ∀ C' L' r, C r = none → IsDraw C' d → LsC C' S s o L' → GivenL L L' → C' r = some (stC mg (newT L')) → (∀ z, z ≠ d → z ≠ S → z ≠ r → ∀ c, C z = some c → C' z = some c) → P (.ref r) C'
abbrev slaw_given : Stmt := topS 66
theorem sclaw_given : FnScope ["_law_draw_here", "_law_state", "_law_document_here", "_law_k", "_law_offsets", "_law_box_here", "_law_held", "_law_number"] ["_law_draw_here", "_law_state"] (defScope slaw_given) := ⟨rfl, rfl, rfl, by decide +kernel, rfl, by decide +kernel, by decide +kernel⟩
theorem ok_law_given {k : Nat} (Df : DefAt K mg "_law_given" slaw_given ["_law_draw_here", "_law_state"]) (T : Top mg) (TK : TopK K mg) (h_law_next : Has P w K mg base k "_law_next" ["_law_draw_here", "_law_many"] (spD fNext)) (h_law_rebuilt : Has P w K mg base k "_law_rebuilt" ["_law_box_here", "_law_edit_here"] (spD (fRebuilt 8))) (h_law_edit : Has P w K mg base k "_law_edit" ["_law_draw_here", "_law_document_here", "_law_fresh"] (spD fTEdit)) (h_law_scrollers : Has P w K mg base k "_law_scrollers" ["_law_document_here"] (spD (fScrs 8))) (h_law_fit : Has P w K mg base k "_law_fit" ["_law_document_here", "_law_offsets"] (spD (fFitted 8))) (h_State : HasI P w K mg base k "State" ["self", "number", "document", "base", "held", "included"] (spD (fStInit mg))) : Has P w K mg base (k+2) "_law_given" ["_law_draw_here", "_law_state"] (spD (fLGiven mg)) := by
  refine has_of Df sclaw_given (fun ds C P ⟨_, _, _, _, _, h, _⟩ => by rw [h]; rfl) fun f cdv A outer s H E hr => ⟨_, 
    (pss_cons (ps_nm 2 sclaw_given.nd (pe_dget (hu_of hr) (pv 1) pe_str (fun _ _ => rfl)))
    (pss_cons (ps_for PassesOwn.never rfl (pi_range1 (by rfl) T.range (pa_cons (pe_def h_law_next (hr.mono (by omega)) (pa_cons (pv 0) (pa_cons pe_int pa_nil))) pa_nil)) (pg_nm 3 sclaw_given.nd) 
      (pss_cons (ps_dput (hu_of hr) (pv 1) pe_str (pe_op (op_addK K) (pe_dget (hu_of hr) (pv 1) pe_str (fun _ _ => rfl)) pe_int) rfl)
      (pss_one (ps_nm 2 sclaw_given.nd (pe_def h_law_rebuilt (hr.mono (by omega)) (pa_cons (pv 2) (pa_cons (pe_def h_law_edit (hr.mono (by omega)) (pa_cons (pv 0) (pa_cons (pv 2) (pa_cons (pe_dget (hu_of hr) (pv 1) pe_str (fun _ _ => rfl)) pa_nil)))) pa_nil)))))))
    (pss_cons (ps_nm 4 sclaw_given.nd pe_dnewK)
    (pss_cons (ps_for PassesOwn.never rfl (pi_seqK K (pe_def h_law_scrollers (hr.mono (by omega)) (pa_cons (pv 2) pa_nil))) (pg_nm 5 sclaw_given.nd) 
      (pss_one (ps_dput (hu_of hr) (pv 4) (pe_ix (ix_seqK K) (pv 5) pe_int (fun _ _ => rfl)) (pe_def h_law_next (hr.mono (by omega)) (pa_cons (pv 0) (pa_cons pe_int pa_nil))) rfl)))
    (pss_cons (ps_setLc (i := 6) (own := [("_law_number", 7)]) rfl sclaw_given.nd rfl rfl (sw_true rfl rfl rfl (by decide +kernel)) (pi_range2 (by rfl) T.range (pa_cons pe_int (pa_cons pe_int pa_nil))) (blkOk_by (N := ["_law_draw_here", "_law_state", "_law_document_here", "_law_k", "_law_offsets", "_law_box_here", "_law_held", "_law_number"]) (sc := defScope slaw_given) (by decide +kernel)) (fun _ _ _ _ _ => pg_nm 7 sclaw_given.nd) (fun _ _ _ _ _ => (pts_one (pt_cmpR (op_eqK K hr) (pe_def h_law_next (hr.mono (by omega)) (pa_cons (pv 0) (pa_cons pe_int pa_nil))) pe_int (nomark _)))) (fun _ _ _ _ _ => (pv 7)))
    (pss_cons (ps_dput (hu_of hr) (pv 1) pe_str (pv 2) rfl)
    (pss_cons (ps_dput (hu_of hr) (pv 1) pe_str (pe_def h_law_fit (hr.mono (by omega)) (pa_cons (pv 2) (pa_cons (pv 4) pa_nil))) rfl)
    (pss_cons (ps_dput (hu_of hr) (pv 1) pe_str (pv 6) rfl)
    (pss_cons (ps_dput (hu_of hr) (pv 1) pe_str (pe_op (op_addK K) (pe_dget (hu_of hr) (pv 1) pe_str (fun _ _ => rfl)) (pe_def h_law_next (hr.mono (by omega)) (pa_cons (pv 0) (pa_cons (pe_op (op_addK K) (pe_op op_sub (pe_callB (call_lenK K) (by rfl) T.len bt_len (pa_cons (pe_dget (hu_of hr) (pv 1) pe_str (fun _ _ => rfl)) pa_nil)) (pe_dget (hu_of hr) (pv 1) pe_str (fun _ _ => rfl))) pe_int) pa_nil)))) rfl)
    (pss_cons (ps_dput (hu_of hr) (pv 1) pe_str pe_bl rfl)
    (pss_cons (ps_nm 7 sclaw_given.nd (pe_op (op_addK K) (pe_dget (hu_of hr) (pv 1) pe_str (fun _ _ => rfl)) pe_int))
    (pss_one (ps_ret (pe_mkI mg h_State TK.k_State.at_ (hr.mono (by omega)) (pa_cons (pv 7) (pa_cons (pv 2) (pa_cons (pe_callTy call_dictN (by rfl) T.dict bt_dict (pa_cons (pe_dget (hu_of hr) (pv 1) pe_str (fun _ _ => rfl)) pa_nil)) (pa_cons (pe_callTy (call_lstK K) (by rfl) T.list bt_list (pa_cons (pv 6) pa_nil)) (pa_cons (pe_dget (hu_of hr) (pv 1) pe_str (fun _ _ => rfl)) pa_nil))))))))))))))))))), fun B ds C P ⟨d, S, s, o, L, hd, hD, hL, hdoc, hf0, hf1, ht, hml, q⟩ => ?_⟩
  subst hd
  have kA := TK.k_State
  have dS : d ≠ S := draw_neC hD hL.cS fun _ e => by cases e
  have ds : d ≠ s := draw_neC hD hL.cs fun _ e => by cases e
  have Ss := hL.ps
  have dq : ∀ q, o = some q → d ≠ q ∧ S ≠ q := fun q e => by
    subst e
    obtain ⟨g1, g2, t, g3, g4⟩ := hL.pq
    exact ⟨draw_neC hD g4 (fun _ e => by cases e), g1⟩
  have h1 := hL.cS
  unfold lsF lsD at h1
  kwd_rel
  refine ws_for (fun rest E1 C1 => ∃ (M i : Nat) (b1 : Box) (x3 : Option D), rest = (rngD 0 M).drop i ∧ i ≤ M ∧ M ≤ 2 ∧ E1 = [some (.ref d), some (.ref S), some (encB b1), x3, none, none, none, none] ∧ IsDraw C1 d ∧
    C1 S = some (.tdic (lsF s o { L with fresh := L.fresh + (i : Nat) })) ∧ DocM (L.fresh + (i : Nat)) b1 ∧ ∀ z, z ≠ d → z ≠ S → C1 z = C z) (wi_rng1 ?_) ?_ ?_
  · kwd_rel
    refine next_call (by decide) (by decide) hD (fun v C1 g3 g4 D1 o1 => ?_)
    kwd_rel
    exact ⟨by omega, by omega, v.toNat, 0, L.doc, none, by simp, Nat.zero_le _, by omega, rfl, D1, by rw [o1 S (Ne.symm dS)]; simpa using hL.cS, by simpa using hdoc, fun z z1 z2 => o1 z z1⟩
  rotate_left
  · rintro y ys E1 C1 ⟨M, i, b1, x3, e1, e2, e3, rfl, D1, hS1, hb1, o1⟩
    obtain ⟨i1, rfl, rfl⟩ := rng_cons e1
    have h11 := hS1
    unfold lsF lsD at h11
    obtain ⟨f1, f2, f3, f4, f5, f6⟩ := isDoc_facts hb1.doc
    have f7 := lev_deep b1
    kwd_rel
    refine ⟨d, b1, L.fresh + (i : Nat), L.fresh + (i : Nat) + 1, rfl, isDraw_upd D1 dS, hb1, by omega, by omega, fun e C3 he D3 o3 => ?_⟩
    kwd_rel
    refine ⟨b1, e, by omega, by omega, ?_, rfl, ?_⟩
    · cases e with
      | ins n j x =>
        obtain ⟨u, h, u1, u2, u3, u4, u5, _⟩ := he
        have := parts_len u1
        exact ⟨u4, by omega⟩
      | rem _ => trivial
      | res _ _ => trivial
    kwd_rel
    refine ⟨M, i + 1, withB e b1, _, rfl, i1, e3, rfl, D3, ?_, ?_, fun z z1 z2 => by rw [o3 z z1, updC_ne z2]; exact o1 z z1 z2⟩
    · have e : L.fresh + ((i + 1 : Nat) : Int) = L.fresh + (i : Nat) + 1 := by omega
      rw [o3 S (Ne.symm dS), updC_same, e]
      rfl
    · have e : L.fresh + (i : Nat) + 1 = L.fresh + ((i + 1 : Nat) : Int) := by omega
      rw [← e]
      exact editM_doc hb1 he
  rintro E1 C1 ⟨M, i, b1, x3, e1, e2, e3, rfl, D1, hS1, hb1, o1⟩
  obtain ⟨f1, f2, f3, f4, f5, f6⟩ := isDoc_facts hb1.doc
  have f7 := lev_deep b1
  have hi : i ≤ 2 := by omega
  refine nx_show ?_
  refine ws_weak ?_
  kwd_rel
  refine w_dnewC ?_
  intro a ha
  have da : d ≠ a := fun e => by
    obtain ⟨c, g1, _⟩ := D1
    rw [e, ha] at g1
    cases g1
  have Sa : S ≠ a := fun e => by rw [← e, hS1] at ha; cases ha
  have hCa : C a = none := by rw [← o1 a (Ne.symm da) (Ne.symm Sa)]; exact ha
  have scl := scrs_len b1
  kwd_rel
  refine ws_for (fun rest E2 C2 => ∃ (pre post : List Box) (l : List (Int × Int)) (x5 : Option D), scrsB b1 = pre ++ post ∧ rest = encBs post ∧ l.length ≤ pre.length ∧ E2 = [some (.ref d), some (.ref S), some (encB b1), x3, some (.ref a), x5, none, none] ∧ IsDraw C2 d ∧
    C2 a = some (.dic (encI l)) ∧ C2 S = C1 S ∧ ∀ z, z ≠ d → z ≠ S → z ≠ a → C2 z = C z) (wi_seq ?_) ?_ ?_
  · kwd_rel
    refine ⟨b1, by omega, by omega, rfl, ?_⟩
    kwd_rel
    exact ⟨[], _, [], none, rfl, rfl, Nat.le_refl _, rfl, isDraw_upd D1 da, updC_same, updC_ne Sa, fun z z1 z2 z3 => by rw [updC_ne z3]; exact o1 z z1 z2⟩
  rotate_left
  · rintro y ys E2 C2 ⟨pre, post, l, x5, k1, k2, k3, rfl, D2, ca, cS, o2⟩
    obtain ⟨p, r, rfl, rfl, rfl⟩ := encBs_cons k2
    have hpl := congrArg List.length k1
    simp at hpl
    kwd_rel
    refine ws_dput ?_
    kwd_rel
    refine next_call (by decide) (by decide) D2 (fun v C3 g3 g4 D3 o3 => ?_)
    kwd_rel
    refine ⟨a, _, p.num, rfl, rfl, by rw [o3 a (Ne.symm da)]; exact ca, by rw [encI_len]; omega, ?_⟩
    rw [putD_encI]
    have pl : (putI l p.num v).length ≤ l.length + 1 := by unfold putI; split <;> simp
    refine ⟨pre ++ [p], r, _, _, by simp [k1], rfl, by simp; omega, rfl, isDraw_upd D3 da, updC_same, by rw [updC_ne Sa, o3 S (Ne.symm dS)]; exact cS, fun z z1 z2 z3 => by rw [updC_ne z3, o3 z z1]; exact o2 z z1 z2 z3⟩
  rintro E2 C2 ⟨pre, post, l, x5, k1, k2, k3, rfl, D2, ca, cS, o2⟩
  rw [hS1] at cS
  kwd_rel
  refine w_lc (fun rest acc C3 => ∃ (j : Nat) (hs : List Int), rest = (rngD 1 7).drop j ∧ j ≤ 7 ∧ acc = hs.map D.int ∧ hs.length ≤ j ∧ IsDraw C3 d ∧ ∀ z, z ≠ d → C3 z = C2 z) (sets_name (by simp)) (wi_rng2 ?_) ?_ ?_
  · kwd_rel
    exact ⟨_, _, rfl, by decide, by rw [rngD_len]; decide, 0, [], rfl, Nat.zero_le _, rfl, Nat.le_refl _, D2, fun z _ => rfl⟩
  rotate_left
  · rintro y ys acc C3 ⟨j, hs, k4, k5, rfl, k6, D3, o3⟩
    obtain ⟨j2, rfl, rfl⟩ := rng_cons k4
    kwd_rel
    refine next_call (by decide) (by decide) D3 (fun v C4 g3 g4 D4 o4 => ?_)
    kwd_rel
    refine ⟨fun hb => ?_, fun hb => ?_⟩
    · kwd_rel
      exact ⟨j + 1, hs ++ [1 + (j : Int)], rfl, j2, by simp, by simp; omega, D4, fun z hz => by rw [o4 z hz]; exact o3 z hz⟩
    · exact ⟨j + 1, hs, rfl, j2, rfl, by omega, D4, fun z hz => by rw [o4 z hz]; exact o3 z hz⟩
  rintro acc C3 ⟨j, hs, k4, k5, rfl, k6, D3, o3⟩
  have cS3 : C3 S = some (.tdic (lsF s o { L with fresh := L.fresh + (i : Nat) })) := by rw [o3 S (Ne.symm dS)]; exact cS
  have ca3 : C3 a = some (.dic (encI l)) := by rw [o3 a (Ne.symm da)]; exact ca
  have o3' : ∀ z, z ≠ d → z ≠ S → z ≠ a → C3 z = C z := fun z z1 z2 z3 => by rw [o3 z z1]; exact o2 z z1 z2 z3
  clear o3 o2 cS ca D2 D1 hS1 ha o1 h1
  have h3 := cS3
  unfold lsF lsD at h3
  refine nx_show ?_
  refine ws_seq (ws_tputS ?_)
  refine w_var rfl ?_
  refine w_var rfl ?_
  refine ⟨S, rfl, _, h3, by simp, ?_⟩
  refine nx_show ?_
  refine ws_seq (ws_tputS (w_frzD ?_))
  kwd_rel
  refine ⟨b1, l, _, by omega, by omega, rfl, .cell (by rw [updC_ne (Ne.symm Sa)]; exact ca3), fun a2 ha2 => ⟨a2, _, rfl, updC_same, ?_⟩⟩
  rw [delC_updC ha2]
  kwd_rel
  refine next_call (by simp; omega) (by simp; omega) (isDraw_upd (isDraw_upd (isDraw_upd D3 dS) dS) dS) (fun v C4 g3 g4 D4 o4 => ?_)
  obtain ⟨v, rfl⟩ := Int.eq_ofNat_of_zero_le g3
  rw [List.length_map] at g4
  replace g4 : (v : Int) < (L.pn.mv.length : Int) - (L.told : Int) + 1 := g4
  have h4 : C4 S = some (.tdic (lsF s o { L with fresh := L.fresh + (i : Nat), doc := b1, off := fitB l b1, held := hs })) := by rw [o4 S (Ne.symm dS), updC_same]; rfl
  have o4' : ∀ z, z ≠ d → z ≠ S → C4 z = C3 z := fun z z1 z2 => by rw [o4 z z1, updC_ne z2, updC_ne z2, updC_ne z2]
  clear o4
  unfold lsF lsD at h4
  kwd_rel
  refine w_make ?_
  kwd_rel
  refine wc_dict .dic ?_
  kwd_rel
  refine wc_list .lst ?_
  kwd_rel
  intro r hr0
  have Sr : S ≠ r := fun e => by rw [← e, updC_same] at hr0; cases hr0
  have hr1 : C4 r = none := by rw [updC_ne (Ne.symm Sr), updC_ne (Ne.symm Sr)] at hr0; exact hr0
  have dr : d ≠ r := fun e => by
    obtain ⟨c, g1, _⟩ := D4
    rw [e, hr1] at g1
    cases g1
  have ar : a ≠ r := fun e => by rw [← e, o4' a (Ne.symm da) (Ne.symm Sa), ca3] at hr1; cases hr1
  have hCr : C r = none := by rw [← o3' r (Ne.symm dr) (Ne.symm Sr) (Ne.symm ar), ← o4' r (Ne.symm dr) (Ne.symm Sr)]; exact hr1
  have et : (L.told : Int) + (v : Int) = ((L.told + v : Nat) : Int) := by omega
  rw [et]
  refine ⟨r, _, _, b1, _, _, rfl, updC_same, fun C5 h5 o5 => ⟨rfl, ?_⟩⟩
  have fr : ∀ z, z ≠ d → z ≠ S → z ≠ r → C5 z = C3 z := fun z z1 z2 z3 => by rw [o5 z z3, updC_ne z3, updC_ne z2, updC_ne z2, o4' z z1 z2]
  have sa : s ≠ a := fun e => by have := hL.cs; rw [e, hCa] at this; cases this
  have sr : s ≠ r := fun e => by have := hL.cs; rw [e, hCr] at this; cases this
  refine ⟨C5, fun _ _ z => z, q C5 { L with fresh := L.fresh + (i : Nat), doc := b1, off := fitB l b1, held := hs, told := L.told + v, begun := true } r hCr ?_ ?_ ?_ h5 fun z z1 z2 z3 c hz => ?_⟩
  · obtain ⟨c, g1, g2⟩ := D4
    exact ⟨c, by rw [o5 d dr, updC_ne dr, updC_ne dS, updC_ne dS]; exact g1, g2⟩
  · refine hL.to ?_ rfl ?_ fun q1 hq => ?_
    · rw [o5 S Sr, updC_ne Sr, updC_same]
      rfl
    · rw [fr s (Ne.symm ds) (Ne.symm Ss) sr, o3' s (Ne.symm ds) (Ne.symm Ss) sa]
    · obtain ⟨dq1, dq2⟩ := dq q1 hq
      subst hq
      obtain ⟨_, _, t, _, g4'⟩ := hL.pq
      have qa : q1 ≠ a := fun e => by rw [e, hCa] at g4'; cases g4'
      have qr : q1 ≠ r := fun e => by rw [e, hCr] at g4'; cases g4'
      rw [fr q1 (Ne.symm dq1) (Ne.symm dq2) qr, o3' q1 (Ne.symm dq1) (Ne.symm dq2) qa]
  · refine ⟨rfl, rfl, rfl, rfl, hb1, by show L.fresh ≤ L.fresh + (i : Nat); omega, by show L.fresh + (i : Nat) ≤ L.fresh + 2; omega, show GoodS b1 (fitB l b1) from good_fit l (by omega) (by omega) f4, by show hs.length ≤ 7; omega, Nat.le_add_right _ _, by show L.told + v ≤ L.pn.mv.length; omega⟩
  · have za : z ≠ a := fun e => by rw [e, hCa] at hz; cases hz
    rw [fr z z1 z2 z3, o3' z z1 z2 za]
    exact hz
end
section
variable {P : Program} {w : World} {K : PySem.W.Frag} {mg : Str → Option Value} {base : Heap}
/-! ### what is asked of the painter, and what is due -/
def askX (X : Pn) (form row am : Int) : Pn × D :=
  if form = 0 then scrollX X row am
  else if form = 1 then (match answerX X (decide (0 < am)) with | none => (X, .str "none") | some z => z)
  else if form = 2 then paintX X
  else if form = 3 then (match takeX X with | none => (X, .str "not ready") | some z => z)
  else (X, frameX X)
/-- where the active tree is afterwards -/
def goneX (X : Pn) (form : Int) (s : Addr) (o : Option Addr) : Addr × Option Addr := if form = 3 then (match takeX X, o with | some _, some q => (q, none) | _, _ => (s, o)) else (s, o)
theorem take_pen {X Y : Pn} {v : D} (h : takeX X = some (Y, v)) : ∃ t, X.pen = some t := by
  unfold takeX at h
  cases e : X.pen with
  | none => rw [e] at h; cases h
  | some t => exact ⟨t, rfl⟩
theorem PnC.gotQ {C : CH} {p s : Addr} {o : Option Addr} {X : Pn} (h : PnC mg C p s o X) {t : Tr} (e : X.pen = some t) : ∃ q, o = some q := by
  have z := h.co
  rw [e] at z
  cases o with
  | none => exact z.elim
  | some q => exact ⟨q, rfl⟩
theorem LsC.gotQ {C : CH} {p s : Addr} {o : Option Addr} {L : Ls} (h : LsC C p s o L) {t : Tr} (e : L.pn.pen = some t) : ∃ q, o = some q := by
  have z := h.co
  rw [e] at z
  cases o with
  | none => exact z.elim
  | some q => exact ⟨q, rfl⟩
def fRecv (mg : Str → Option Value) : SpD := fun ds C P => ∃ (p s r : Addr) (o : Option Addr) (X : Pn) (t : Tr), ds = [.ref p, .ref r] ∧ PnC mg C p s o X ∧ PnOk X ∧ C r = some (stC mg t) ∧ TrOk t ∧
  (o ≠ none → P (.str "busy") C) ∧ (o = none → ∀ C' q, C q = none → PnC mg C' p s (some q) (receiveX X t) → (∀ z, z ≠ p → z ≠ q → C' z = C z) → P .non C')
theorem own_cls {B : Hp} {x : Str} {c : Value} {d : Option Addr} (h : ClsG mg x) (o : ExnOk mg B (.own x) c d) : c = .ref (clsAd mg x) ∧ d = none := by
  cases o with
  | own e =>
    rw [h.at] at e
    exact ⟨(Option.some.inj e).symm, rfl⟩
abbrev slaw_received : Stmt := topS 67
theorem sclaw_received : FnScope ["_law_painter", "_law_given_here"] ["_law_painter", "_law_given_here"] (defScope slaw_received) := ⟨rfl, rfl, rfl, by decide +kernel, rfl, by decide +kernel, by decide +kernel⟩
theorem ok_law_received {k : Nat} (Df : DefAt K mg "_law_received" slaw_received ["_law_painter", "_law_given_here"]) (T : Top mg) (TK : TopK K mg) (TX : TopX K mg) (h_Painter_receive : HasXM P w K mg base k "Painter" "receive" ["self", "state"] (spX mg (fReceive mg))) : Has P w K mg base (k+1) "_law_received" ["_law_painter", "_law_given_here"] (spD (fRecv mg)) := by
  refine has_of Df sclaw_received (fun ds C P ⟨_, _, _, _, _, _, h, _⟩ => by rw [h]; rfl) fun f cdv A outer s H E hr => ⟨_, 
    (pss_one (ps_tryK (X := (cxOf CX0 P w K mg base ["_law_painter", "_law_given_here"] "_law_received" (defScope slaw_received) f cdv A outer s H E).nox) K rfl rfl sclaw_received.nd takes_none5 (fun W pn xe tkW pW => 
      (pss_one (ps_ret (pe_mtX mg h_Painter_receive TK.k_Painter.cls (hr.mono (by omega)) (pv 0) (pa_cons (pv 1) pa_nil) tkW)))) (HdsA.plain (nm_cls TX.g_Busy) (fun a ob cls d pn hz hf => 
      (pss_one (ps_ret pe_str))) HdsA.nil))), fun B ds C P ⟨p, s, r, o, X, t, hd, hP, hok, hr0, hot, q0, q1⟩ => ?_⟩
  subst hd
  have kA := TK.k_Painter
  have h1 := hP.cp
  unfold pnF at h1
  refine ws_tryA (mg := mg) (PXo := fun _ _ => False) (fun x C1 => x = .own "Busy" ∧ C1 = C ∧ o ≠ none) (fun _ _ _ _ _ _ _ _ _ _ _ _ z => z.elim) (fun B1 Wx hX => ?_) ?_
  · refine ws_ret ?_
    refine w_methX hX ?_
    kwd_rel
    refine ⟨p, s, r, o, X, t, rfl, hP, hok, hr0, hot, fun h => ⟨rfl, rfl, h⟩, fun h C' q g1 g2 g3 => q1 h C' q g1 g2 g3⟩
  · rintro x C1 ⟨rfl, rfl, ho⟩
    intro B1 cls d hx _
    obtain ⟨rfl, rfl⟩ := own_cls (mg := mg) TX.g_Busy hx
    refine ⟨true, TX.m_BB, fun _ a => ?_, fun z => by cases z⟩
    exact ws_ret (w_str (q0 ho))
def fAsked (mg : Str → Option Value) : SpD := fun ds C P => ∃ (p s : Addr) (o : Option Addr) (X : Pn) (form row am : Int), ds = [.ref p, .int form, .int row, .int am] ∧ PnC mg C p s o X ∧ PnOk X ∧ 0 ≤ row ∧ row < X.act.doc.hgt ∧
  ∀ C' s' o', PnC mg C' p s' o' (askX X form row am).1 → (s' = s ∨ o = some s') → (∀ z, z ≠ p → z ≠ s → (∀ q, o = some q → z ≠ q) → C' z = C z) → P (askX X form row am).2 C'
abbrev slaw_asked : Stmt := topS 68
theorem sclaw_asked : FnScope ["_law_painter", "_law_form", "_law_row", "_law_amount", "error"] ["_law_painter", "_law_form", "_law_row", "_law_amount"] (defScope slaw_asked) := ⟨rfl, rfl, rfl, by decide +kernel, rfl, by decide +kernel, by decide +kernel⟩
theorem ok_law_asked {k : Nat} (Df : DefAt K mg "_law_asked" slaw_asked ["_law_painter", "_law_form", "_law_row", "_law_amount"]) (T : Top mg) (TK : TopK K mg) (TX : TopX K mg) (h_Painter_scroll : HasM P w K mg base k "Painter" "scroll" ["self", "row", "amount"] (spD (fScroll mg))) (h_Painter_answer : HasXM P w K mg base k "Painter" "answer" ["self", "allowed"] (spX mg (fAnswer mg))) (h_Painter_paint : HasM P w K mg base k "Painter" "paint" ["self"] (spD (fPaint mg)))
    (h_Painter_take : HasXM P w K mg base k "Painter" "take" ["self"] (spX mg (fTake mg))) (h_Painter_frame : HasM P w K mg base k "Painter" "frame" ["self"] (spD (fFrame mg))) : Has P w K mg base (k+1) "_law_asked" ["_law_painter", "_law_form", "_law_row", "_law_amount"] (spD (fAsked mg)) := by
  refine has_of Df sclaw_asked (fun ds C P ⟨_, _, _, _, _, _, _, h, _⟩ => by rw [h]; rfl) fun f cdv A outer s H E hr => ⟨_, 
    (pss_one (ps_tryK (X := (cxOf CX0 P w K mg base ["_law_painter", "_law_form", "_law_row", "_law_amount", "error"] "_law_asked" (defScope slaw_asked) f cdv A outer s H E).nox) K rfl rfl sclaw_asked.nd takes_none5 (fun W pn xe tkW pW => 
      (pss_cons (ps_if (pt_cmpR (op_eqK K hr) (pv 1) pe_int (nomark _)) 
        (pss_one (ps_ret (pe_mt mg h_Painter_scroll TK.k_Painter.cls (hr.mono (by omega)) (pv 0) (pa_cons (pv 2) (pa_cons (pv 3) pa_nil))))) pss_nil)
      (pss_cons (ps_if (pt_cmpR (op_eqK K hr) (pv 1) pe_int (nomark _)) 
        (pss_one (ps_ret (pe_mtX mg h_Painter_answer TK.k_Painter.cls (hr.mono (by omega)) (pv 0) (pa_cons (pe_cmpR op_gt (pv 3) pe_int (nomark _)) pa_nil) tkW))) pss_nil)
      (pss_cons (ps_if (pt_cmpR (op_eqK K hr) (pv 1) pe_int (nomark _)) 
        (pss_one (ps_ret (pe_mt0 mg h_Painter_paint TK.k_Painter.cls (hr.mono (by omega)) (pv 0)))) pss_nil)
      (pss_one (ps_ret (pe_ifExp (pt_cmpR (op_eqK K hr) (pv 1) pe_int (nomark _)) (pe_mtX0 mg h_Painter_take TK.k_Painter.cls (hr.mono (by omega)) (pv 0) tkW) (pe_mt0 mg h_Painter_frame TK.k_Painter.cls (hr.mono (by omega)) (pv 0))))))))) (HdsA.named (i := 4) rfl rfl (nm_cls TX.g_NoneWaiting) (fun a ob cls d pn hz hf => 
      (pss_one (ps_ret (pe_ifExp (pt_truK K (pe_callB (call_isXK K hz hf) (by rfl) T.isinstance bt_isinstance (pa_cons (pv 4) (pa_cons (pe_clsG TX.g_FrameError) pa_nil)))) pe_str pe_str)))) (HdsA.named (i := 4) rfl rfl (nm_cls TX.g_NotReady) (fun a ob cls d pn hz hf => 
      (pss_one (ps_ret (pe_ifExp (pt_truK K (pe_callB (call_isXK K hz hf) (by rfl) T.isinstance bt_isinstance (pa_cons (pv 4) (pa_cons (pe_clsG TX.g_FrameError) pa_nil)))) pe_str pe_str)))) HdsA.nil)))), fun B ds C P ⟨p, s, o, X, form, row, am, hd, hP, hok, r0, r1, q⟩ => ?_⟩
  subst hd
  have kA := TK.k_Painter
  have h1 := hP.cp
  unfold pnF at h1
  refine ws_tryA (mg := mg) (PXo := fun _ _ => False) (fun x C1 => C1 = C ∧ ((x = .own "NoneWaiting" ∧ P (.str "none") C) ∨ (x = .own "NotReady" ∧ P (.str "not ready") C))) (fun _ _ _ _ _ _ _ _ _ _ _ _ z => z.elim) (fun B1 Wx hX => ?_) ?_
  · unfold askX at q
    kwd_rel
    refine ite_two (fun hc => ?_) (fun hc => ?_)
    · have c1 : form = 0 := of_decide_eq_true hc
      rw [if_pos c1] at q
      kwd_rel
      exact ⟨p, s, o, X, row, am, rfl, hP, hok, r0, r1, fun C' a b => q C' s o a (.inl rfl) fun z z1 _ _ => b z z1⟩
    have n0 : ¬ form = 0 := of_decide_eq_false hc
    rw [if_neg n0] at q
    refine ws_next ?_
    kwd_rel
    refine ite_two (fun hc => ?_) (fun hc => ?_)
    · have c1 : form = 1 := of_decide_eq_true hc
      rw [if_pos c1] at q
      refine ws_ret ?_
      refine w_methX hX ?_
      kwd_rel
      refine ⟨p, s, o, X, _, rfl, hP, hok, fun e => ?_, fun Y v e C' a b => ?_⟩
      · rw [e] at q
        exact ⟨rfl, .inl ⟨rfl, q C s o hP (.inl rfl) fun z _ _ _ => rfl⟩⟩
      · rw [e] at q
        exact q C' s o a (.inl rfl) fun z z1 _ _ => b z z1
    have n1 : ¬ form = 1 := of_decide_eq_false hc
    rw [if_neg n1] at q
    refine ws_next ?_
    kwd_rel
    refine ite_two (fun hc => ?_) (fun hc => ?_)
    · have c1 : form = 2 := of_decide_eq_true hc
      rw [if_pos c1] at q
      kwd_rel
      exact ⟨p, s, o, X, rfl, hP, hok, fun C' a b => q C' s o a (.inl rfl) fun z _ z2 z3 => b z z2 z3⟩
    have n2 : ¬ form = 2 := of_decide_eq_false hc
    rw [if_neg n2] at q
    refine ws_next ?_
    kwd_rel
    refine ite_two (fun hc => ?_) (fun hc => ?_)
    · have c1 : form = 3 := of_decide_eq_true hc
      rw [if_pos c1] at q
      refine w_methX hX ?_
      kwd_rel
      refine ⟨p, s, o, X, rfl, hP, hok, fun e => ?_, fun Y v q' ho e C' a b => ?_⟩
      · rw [e] at q
        exact ⟨rfl, .inr ⟨rfl, q C s o hP (.inl rfl) fun z _ _ _ => rfl⟩⟩
      · rw [e] at q
        exact q C' q' none a (.inr ho) fun z z1 _ _ => b z z1
    have n3 : ¬ form = 3 := of_decide_eq_false hc
    rw [if_neg n3] at q
    kwd_rel
    exact ⟨p, s, o, X, rfl, hP, hok, q C s o hP (.inl rfl) fun z _ _ _ => rfl⟩
  · rintro x C1 ⟨rfl, ⟨rfl, h⟩ | ⟨rfl, h⟩⟩
    · intro B1 cls d hx _
      obtain ⟨rfl, rfl⟩ := own_cls (mg := mg) TX.g_NoneWaiting hx
      refine ⟨true, TX.m_NN, fun _ a => ?_, fun z => by cases z⟩
      show WS ⟨B1, B.f⟩ (tRet _) [some (.ref p), some (.int form), some (.int row), some (.int am), some (.ref a)] C1 _
      kwd_rel
      refine wc_isX TX.c_N TX.k_N ?_
      exact ⟨true, rfl, fun _ => w_str h, fun z => by cases z⟩
    · intro B1 cls d hx _
      obtain ⟨rfl, rfl⟩ := own_cls (mg := mg) TX.g_NotReady hx
      refine ⟨false, TX.m_RN, (fun z => by cases z), fun _ => ?_⟩
      intro B1 cls d hx _
      obtain ⟨rfl, rfl⟩ := own_cls (mg := mg) TX.g_NotReady hx
      refine ⟨true, TX.m_RR, fun _ a => ?_, fun z => by cases z⟩
      show WS ⟨B1, B.f⟩ (tRet _) [some (.ref p), some (.int form), some (.int row), some (.int am), some (.ref a)] C1 _
      kwd_rel
      refine wc_isX TX.c_R TX.k_R ?_
      exact ⟨true, rfl, fun _ => w_str h, fun z => by cases z⟩
def fDue : SpD := fun ds C P => ∃ (S s : Addr) (o : Option Addr) (L : Ls) (form row am : Int), ds = [.ref S, .int form, .int row, .int am] ∧ LsC C S s o L ∧ PnOk L.pn ∧ 0 ≤ row ∧ row < L.pn.act.doc.hgt ∧
  ∀ C' s' o', LsC C' S s' o' { L with pn := (askX L.pn form row am).1 } → (s' = s ∨ o = some s') → (∀ z, z ≠ S → z ≠ s → (∀ q, o = some q → z ≠ q) → C' z = C z) → P (askX L.pn form row am).2 C'
abbrev slaw_due : Stmt := topS 69
theorem sclaw_due : FnScope ["_law_state", "_law_form", "_law_row", "_law_amount"] ["_law_state", "_law_form", "_law_row", "_law_amount"] (defScope slaw_due) := ⟨rfl, rfl, rfl, by decide +kernel, rfl, by decide +kernel, by decide +kernel⟩
theorem ok_law_due {k : Nat} (Df : DefAt K mg "_law_due" slaw_due ["_law_state", "_law_form", "_law_row", "_law_amount"]) (T : Top mg) (h_law_do_scroll : Has P w K mg base k "_law_do_scroll" ["_law_state", "_law_row", "_law_amount"] (spD fLScr)) (h_law_do_answer : Has P w K mg base k "_law_do_answer" ["_law_state", "_law_allowed"] (spD fLAns)) (h_law_do_paint : Has P w K mg base k "_law_do_paint" ["_law_state"] (spD fLPaint)) (h_law_do_take : Has P w K mg base k "_law_do_take" ["_law_state"] (spD fLTake)) (h_law_frame : Has P w K mg base k "_law_frame" ["_law_state"] (spD fLFrame)) : Has P w K mg base (k+1) "_law_due" ["_law_state", "_law_form", "_law_row", "_law_amount"] (spD fDue) := by
  refine has_of Df sclaw_due (fun ds C P ⟨_, _, _, _, _, _, _, h, _⟩ => by rw [h]; rfl) fun f cdv A outer s H E hr => ⟨_, 
    (pss_cons (ps_if (pt_cmpR (op_eqK K hr) (pv 1) pe_int (nomark _)) 
      (pss_one (ps_ret (pe_def h_law_do_scroll (hr.mono (by omega)) (pa_cons (pv 0) (pa_cons (pv 2) (pa_cons (pv 3) pa_nil)))))) pss_nil)
    (pss_cons (ps_if (pt_cmpR (op_eqK K hr) (pv 1) pe_int (nomark _)) 
      (pss_one (ps_ret (pe_def h_law_do_answer (hr.mono (by omega)) (pa_cons (pv 0) (pa_cons (pe_cmpR op_gt (pv 3) pe_int (nomark _)) pa_nil))))) pss_nil)
    (pss_cons (ps_if (pt_cmpR (op_eqK K hr) (pv 1) pe_int (nomark _)) 
      (pss_one (ps_ret (pe_def h_law_do_paint (hr.mono (by omega)) (pa_cons (pv 0) pa_nil)))) pss_nil)
    (pss_one (ps_ret (pe_ifExp (pt_cmpR (op_eqK K hr) (pv 1) pe_int (nomark _)) (pe_def h_law_do_take (hr.mono (by omega)) (pa_cons (pv 0) pa_nil)) (pe_def h_law_frame (hr.mono (by omega)) (pa_cons (pv 0) pa_nil)))))))), fun B ds C P ⟨S, s, o, L, form, row, am, hd, hL, hok, r0, r1, q⟩ => ?_⟩
  subst hd
  unfold askX at q
  kwd_rel
  refine ite_two (fun hc => ?_) (fun hc => ?_)
  · have c1 : form = 0 := of_decide_eq_true hc
    rw [if_pos c1] at q
    kwd_rel
    exact ⟨S, s, o, L, row, am, rfl, hL, hok, r0, r1, fun C' a b => q C' s o a (.inl rfl) fun z z1 _ _ => b z z1⟩
  have n0 : ¬ form = 0 := of_decide_eq_false hc
  rw [if_neg n0] at q
  refine ws_next ?_
  kwd_rel
  refine ite_two (fun hc => ?_) (fun hc => ?_)
  · have c1 : form = 1 := of_decide_eq_true hc
    rw [if_pos c1] at q
    kwd_rel
    refine ⟨S, s, o, L, _, rfl, hL, hok, fun e => ?_, fun Y v e C' a b => ?_⟩
    · rw [e] at q
      exact q C s o hL (.inl rfl) fun z _ _ _ => rfl
    · rw [e] at q
      exact q C' s o a (.inl rfl) fun z z1 _ _ => b z z1
  have n1 : ¬ form = 1 := of_decide_eq_false hc
  rw [if_neg n1] at q
  refine ws_next ?_
  kwd_rel
  refine ite_two (fun hc => ?_) (fun hc => ?_)
  · have c1 : form = 2 := of_decide_eq_true hc
    rw [if_pos c1] at q
    kwd_rel
    exact ⟨S, s, o, L, rfl, hL, hok, fun C' a b => q C' s o a (.inl rfl) fun z _ z2 z3 => b z z2 z3⟩
  have n2 : ¬ form = 2 := of_decide_eq_false hc
  rw [if_neg n2] at q
  refine ws_next ?_
  kwd_rel
  refine ite_two (fun hc => ?_) (fun hc => ?_)
  · have c1 : form = 3 := of_decide_eq_true hc
    rw [if_pos c1] at q
    kwd_rel
    refine ⟨S, s, o, L, rfl, hL, hok, fun e => ?_, fun Y v q' ho e C' a b => ?_⟩
    · rw [e] at q
      exact q C s o hL (.inl rfl) fun z _ _ _ => rfl
    · rw [e] at q
      exact q C' q' none a (.inr ho) fun z z1 _ _ => b z z1
  have n3 : ¬ form = 3 := of_decide_eq_false hc
  rw [if_neg n3] at q
  kwd_rel
  exact ⟨S, s, o, L, rfl, hL, hok, q C s o hL (.inl rfl) fun z _ _ _ => rfl⟩
end
section
variable {P : Program} {w : World} {K : PySem.W.Frag} {mg : Str → Option Value} {base : Heap}
/-! ### bounds by the number of steps -/
structure TrB (n : Nat) (t : Tr) : Prop where
  good : GoodS t.doc t.base
  root : t.doc.isS = true
  hh : ∀ p ∈ t.doc.all, 0 ≤ p.hgt
  hl : t.held.length ≤ 7
  pl : t.painted.length ≤ 200 + n
  tall : 20 ≤ t.doc.hgt ∧ t.doc.hgt ≤ 1000
theorem TrB.ok {n : Nat} {t : Tr} (h : TrB n t) (hn : n ≤ 100) : TrOk t := ⟨h.good, h.root, h.hh, by have := h.hl; omega, by have := h.pl; omega⟩
theorem TrB.mono {n m : Nat} {t : Tr} (h : TrB n t) (l : n ≤ m) : TrB m t := { h with pl := by have := h.pl; omega }
structure PnB (n : Nat) (X : Pn) : Prop where
  act : TrB n X.act
  pen : ∀ t, X.pen = some t → TrB n t
  ml : X.mv.length ≤ 5 * n
  wl : X.wt.length ≤ n
  wp : ∀ w ∈ X.wt, w.1.length ≤ 5
theorem PnB.ok {n : Nat} {X : Pn} (h : PnB n X) (hn : n ≤ 100) : PnOk X := ⟨h.act.ok hn, fun t e => (h.pen t e).ok hn, by have := h.ml; omega, by have := h.wl; omega, fun w hw => by have := h.wp w hw; omega⟩
theorem PnB.mono {n m : Nat} {X : Pn} (h : PnB n X) (l : n ≤ m) : PnB m X := ⟨h.act.mono l, fun t e => (h.pen t e).mono l, by have := h.ml; omega, by have := h.wl; omega, h.wp⟩
theorem PnB.push {n : Nat} {X : Pn} (h : PnB n X) {path : List Int} {am : Int} (hp : path.length ≤ 5) : PnB (n + 1) (pushX X path am) := by
  have hm := h.mono (Nat.le_succ n)
  refine ⟨hm.act, hm.pen, ?_, hm.wl, hm.wp⟩
  show (X.mv ++ madeX X path am).length ≤ _
  rw [List.length_append]
  have := made_len X path am
  have := h.ml
  omega
theorem TrB.add {n : Nat} {t : Tr} (h : TrB n t) (k : Int) : TrB (n + 1) (addT t k) := by
  refine ⟨h.good, h.root, h.hh, h.hl, ?_, h.tall⟩
  show (srt (t.painted ++ [k])).length ≤ _
  rw [srt_len]
  have := h.pl
  simp
  omega
theorem askB {n : Nat} {X : Pn} (h : PnB n X) (hn : n ≤ 100) (form row am : Int) : PnB (n + 1) (askX X form row am).1 := by
  have hm := h.mono (Nat.le_succ n)
  have ok := h.act.ok hn
  unfold askX
  split
  · unfold scrollX
    split
    · exact hm
    · obtain ⟨_, u2⟩ := undX_path ok row
      split
      · refine ⟨hm.act, hm.pen, hm.ml, ?_, fun w hw => ?_⟩
        · show (X.wt ++ _).length ≤ _
          have := h.wl
          simp
          omega
        · rcases List.mem_append.mp hw with hw | hw
          · exact h.wp w hw
          · simp at hw; subst hw; exact u2
      · exact h.push u2
  split
  · cases e : answerX X (decide (0 < am)) with
    | none => exact hm
    | some z =>
      obtain ⟨Y, v⟩ := z
      unfold answerX at e
      cases ew : X.wt with
      | nil => rw [ew] at e; cases e
      | cons wd r =>
        rw [ew] at e
        have hr : PnB n { X with wt := r } := ⟨h.act, h.pen, h.ml, by have := h.wl; rw [ew] at this; show r.length ≤ n; simp at this; omega, fun w hw => h.wp w (by rw [ew]; simp [show w ∈ r from hw])⟩
        have hwd := h.wp wd (by rw [ew]; simp)
        obtain rfl : Y = _ := congrArg Prod.fst (Option.some.inj e).symm
        show PnB (n + 1) (if _ then _ else _ : Pn × D).1
        split
        · refine hr.push ?_
          exact Nat.le_trans (List.length_filter_le _ _) hwd
        · exact hr.mono (Nat.le_succ n)
  split
  · unfold paintX
    cases ep : X.pen with
    | none =>
      simp only []
      cases ec : chosenT X.act X.mv with
      | nil => exact hm
      | cons k l => exact ⟨h.act.add k, (fun t2 e => by cases e), hm.ml, hm.wl, hm.wp⟩
    | some t =>
      simp only []
      cases ec : chosenT t X.mv with
      | nil => exact hm
      | cons k l => exact ⟨hm.act, (fun t2 e => by cases e; exact (h.pen t ep).add k), hm.ml, hm.wl, hm.wp⟩
  split
  · unfold takeX
    cases ep : X.pen with
    | none => exact hm
    | some t =>
      simp only []
      split
      · exact hm
      · rename_i z e
        split at e
        · cases e
          exact ⟨(h.pen t ep).mono (Nat.le_succ n), (fun t2 e => by cases e), hm.ml, hm.wl, hm.wp⟩
        · cases e
  · exact hm
theorem ask_mv (X : Pn) (form row am : Int) : X.mv.length ≤ (askX X form row am).1.mv.length := by
  have push : ∀ (Z : Pn) (path : List Int) (m : Int), Z.mv.length ≤ (pushX Z path m).mv.length := fun Z path m => by
    show Z.mv.length ≤ (Z.mv ++ madeX Z path m).length
    rw [List.length_append]
    omega
  unfold askX
  split
  · unfold scrollX
    split
    · exact Nat.le_refl _
    · split
      · exact Nat.le_refl _
      · exact push _ _ _
  split
  · cases e : answerX X (decide (0 < am)) with
    | none => exact Nat.le_refl _
    | some z =>
      obtain ⟨Y, v⟩ := z
      unfold answerX at e
      cases ew : X.wt with
      | nil => rw [ew] at e; cases e
      | cons wd r =>
        rw [ew] at e
        obtain rfl : Y = _ := congrArg Prod.fst (Option.some.inj e).symm
        show X.mv.length ≤ (if _ then _ else _ : Pn × D).1.mv.length
        split
        · exact push { X with wt := r } _ _
        · exact Nat.le_refl _
  split
  · unfold paintX
    cases ep : X.pen with
    | none =>
      simp only []
      cases ec : chosenT X.act X.mv <;> exact Nat.le_refl _
    | some t =>
      simp only []
      cases ec : chosenT t X.mv <;> exact Nat.le_refl _
  split
  · unfold takeX
    cases ep : X.pen with
    | none => exact Nat.le_refl _
    | some t =>
      simp only []
      split
      · exact Nat.le_refl _
      · rename_i z e
        split at e
        · cases e
          exact Nat.le_refl _
        · cases e
  · exact Nat.le_refl _
theorem good_made {l : List (Int × Int)} (h : l.length ≤ 1000) : GoodD 4 (.tup (l.map pairD)) := .tup (by rw [List.length_map]; omega) fun x hx => by
  obtain ⟨p, _, rfl⟩ := List.mem_map.mp hx
  refine .tup (by simp) fun y hy => ?_
  simp at hy
  rcases hy with rfl | rfl <;> exact .int
theorem good_ask {X : Pn} (h : PnOk X) (form row am : Int) (hp : (undX X row).1.length ≤ 5) : GoodD 4 (askX X form row am).2 := by
  unfold askX
  split
  · unfold scrollX
    split
    · exact .tup (by simp) fun x hx => by cases hx
    · split
      · exact .non
      · exact good_made (by have := made_len X (undX X row).1 am; omega)
  split
  · cases e : answerX X (decide (0 < am)) with
    | none => exact .str
    | some z =>
      obtain ⟨Y, v⟩ := z
      unfold answerX at e
      cases ew : X.wt with
      | nil => rw [ew] at e; cases e
      | cons wd r =>
        rw [ew] at e
        have hwd := h.wp wd (by rw [ew]; simp)
        obtain rfl : v = _ := congrArg Prod.snd (Option.some.inj e).symm
        show GoodD 4 (if _ then _ else _ : Pn × D).2
        split
        · refine good_made ?_
          have := made_len X (thereX X wd.1) wd.2
          have : (thereX X wd.1).length ≤ wd.1.length := List.length_filter_le _ _
          omega
        · exact .tup (by simp) fun x hx => by cases hx
  split
  · unfold paintX
    cases ep : X.pen with
    | none =>
      simp only []
      cases ec : chosenT X.act X.mv with
      | nil => exact .non
      | cons k l => exact .int
    | some t =>
      simp only []
      cases ec : chosenT t X.mv with
      | nil => exact .non
      | cons k l => exact .int
  split
  · unfold takeX
    cases ep : X.pen with
    | none => exact .str
    | some t =>
      simp only []
      split
      · exact .str
      · rename_i z e
        split at e
        · cases e
          exact .int
        · cases e
  · have pl := pictD_len (winsOf (viewT X.act X.mv) X.act.doc) X.act.doc
    have gz := h.act.good.len
    refine .tup (by simp) fun x hx => ?_
    simp only [List.mem_cons, List.not_mem_nil, or_false] at hx
    rcases hx with rfl | rfl | rfl
    · exact .int
    · exact .int
    · refine .lst (by rw [List.length_map]; omega) fun y hy => ?_
      obtain ⟨z, hz, rfl⟩ := List.mem_map.mp hy
      obtain ⟨n, t, f, e, rfl⟩ := pictD_mem hz
      refine .tup (by simp) fun u hu => ?_
      simp at hu
      rcases hu with rfl | rfl | rfl | rfl | rfl
      · exact .int
      · exact .int
      · exact .int
      · exact .int
      · exact .bl
theorem pyg_mv {l : List (Int × Int)} : ∀ z ∈ l.map pairD, PyG 5 z := fun z hz => by
  obtain ⟨p, _, rfl⟩ := List.mem_map.mp hz
  refine .tup fun y hy => ?_
  simp at hy
  rcases hy with rfl | rfl <;> exact .int
theorem pyg_wt {l : List (List Int × Int)} : ∀ z ∈ l.map encW, PyG 5 z := fun z hz => by
  obtain ⟨p, _, rfl⟩ := List.mem_map.mp hz
  refine .tup fun y hy => ?_
  simp at hy
  rcases hy with rfl | rfl
  · refine .tup fun u hu => ?_
    obtain ⟨k, _, rfl⟩ := List.mem_map.mp hu
    exact .int
  · exact .int
theorem DocM.mono {f g : Int} {b : Box} (h : DocM f b) (l : f ≤ g) : DocM g b := ⟨h.doc, h.len, fun p hp => Int.le_trans (h.num p hp) l, h.tall⟩
theorem DocM.trB {f : Int} {b : Box} (h : DocM f b) {t : Tr} (e : t.doc = b) (g : GoodS b t.base) (hl : t.held.length ≤ 7) (hp : t.painted.length ≤ 200) : TrB 0 t := by
  obtain ⟨f1, f2, f3, f4, f5, f6⟩ := isDoc_facts h.doc
  subst e
  exact ⟨g, f1, fun p hp => (f6 p hp).1, hl, hp, h.tall.2, (f6 t.doc (by rw [all_eq]; simp)).2⟩
end
section
variable {P : Program} {w : World} {K : PySem.W.Frag} {mg : Str → Option Value} {base : Heap}
/-! ### law k42 -/
structure LInv (mg : Str → Option Value) (C : CH) (d S p s : Addr) (o : Option Addr) (s2 : Addr) (o2 : Option Addr) (L : Ls) (i : Nat) : Prop where
  draw : IsDraw C d
  ls : LsC C S s o L
  pn : PnC mg C p s2 o2 L.pn
  b : PnB i L.pn
  doc : DocM L.fresh L.doc
  f0 : 100 ≤ L.fresh
  f1 : L.fresh ≤ 100 + 2 * i
  good : GoodS L.doc L.off
  ht : L.told ≤ L.pn.mv.length
  hl : L.held.length ≤ 7
theorem ins_td {C : CH} {a b c : Addr} {gs hs : List (Str × D)} (h : C a = some (.ins c gs)) (h2 : C b = some (.tdic hs)) : a ≠ b := fun e => by
  subst e
  rw [h] at h2
  cases h2
/-- the law's state stays where the painter's cells change -/
theorem LsC.frame {C C1 : CH} {S s p s2 : Addr} {o o2 : Option Addr} {L : Ls} {X : Pn} (h : LsC C S s o L) (hp : PnC mg C p s2 o2 X) (fr : ∀ z, z ≠ p → z ≠ s2 → (∀ q, o2 = some q → z ≠ q) → C1 z = C z) : LsC C1 S s o L := by
  have key : ∀ a gs, C a = some (.tdic gs) → C1 a = C a := fun a gs ha => fr a (Ne.symm (ins_td hp.cp ha)) (Ne.symm (ins_td hp.cs ha)) fun q e => by
    subst e
    obtain ⟨_, _, t, _, g⟩ := hp.pq
    exact Ne.symm (ins_td g ha)
  refine h.keep (key _ _ h.cS) (key _ _ h.cs) fun q e => ?_
  subst e
  obtain ⟨_, _, t, _, g⟩ := h.pq
  exact key _ _ g
/-- the painter's cells stay where the law's state changes -/
theorem PnC.frame {C C1 : CH} {S s p s2 : Addr} {o o2 : Option Addr} {L : Ls} {X : Pn} (h : PnC mg C p s2 o2 X) (hL : LsC C S s o L) (fr : ∀ z, z ≠ S → z ≠ s → (∀ q, o = some q → z ≠ q) → C1 z = C z) : PnC mg C1 p s2 o2 X := by
  have key : ∀ a c gs, C a = some (.ins c gs) → C1 a = C a := fun a c gs ha => fr a (ins_td ha hL.cS) (ins_td ha hL.cs) fun q e => by
    subst e
    obtain ⟨_, _, t, _, g⟩ := hL.pq
    exact ins_td ha g
  refine h.keep (key _ _ _ h.cp) (key _ _ _ h.cs) fun q e => ?_
  subst e
  obtain ⟨_, _, t, _, g⟩ := h.pq
  exact key _ _ _ g
theorem IsDraw.frame {C C1 : CH} {d : Addr} (h : IsDraw C d) (e : C1 d = C d) : IsDraw C1 d := by
  obtain ⟨c, h1, h2⟩ := h
  exact ⟨c, by rw [e]; exact h1, h2⟩
theorem LInv.next {C C' : CH} {d S p s : Addr} {o : Option Addr} {s2 : Addr} {o2 : Option Addr} {L : Ls} {i : Nat} (h : LInv mg C d S p s o s2 o2 L i) (D : IsDraw C' d) (fr : ∀ a, a ≠ d → C' a = C a) : LInv mg C' d S p s o s2 o2 L i := by
  have k1 : ∀ a c, C a = some c → (∀ l, c ≠ .lst l) → C' a = C a := fun a c ha hn => fr a (Ne.symm (draw_neC h.draw ha hn))
  refine { h with draw := D, ls := h.ls.keep (k1 _ _ h.ls.cS fun _ e => by cases e) (k1 _ _ h.ls.cs fun _ e => by cases e) fun q e => ?_, pn := h.pn.keep (k1 _ _ h.pn.cp fun _ e => by cases e) (k1 _ _ h.pn.cs fun _ e => by cases e) fun q e => ?_ }
  · subst e
    obtain ⟨_, _, t, _, g⟩ := h.ls.pq
    exact k1 _ _ g fun _ e => by cases e
  · subst e
    obtain ⟨_, _, t, _, g⟩ := h.pn.pq
    exact k1 _ _ g fun _ e => by cases e
abbrev slaw : Stmt := topS 70
theorem sclaw : FnScope ["_law_script", "_law_draw_here", "_law_document_here", "_law_state", "_law_painter", "_law_k", "_law_kept", "_law_given_here", "_law_due_here", "_law_form", "_law_row", "_law_amount"] ["_law_script"] (defScope slaw) := ⟨rfl, rfl, rfl, by decide +kernel, rfl, by decide +kernel, by decide +kernel⟩
theorem ok_law {k : Nat} {f : Addr} {fd : FuncData} (F : Fun K "law" "law" slaw f fd) (T : Top mg) (TK : TopK K mg)
    (h_law_draw : Has P w K mg base k "_law_draw" ["_law_script"] (spScr K fDraw)) (h_law_document : Has P w K mg base k "_law_document" ["_law_draw_here"] (spD fTDoc)) (h_law_next : Has P w K mg base k "_law_next" ["_law_draw_here", "_law_many"] (spD fNext)) (h_law_start : Has P w K mg base k "_law_start" ["_law_document_here"] (spD fLStart)) (h_law_fit : Has P w K mg base k "_law_fit" ["_law_document_here", "_law_offsets"] (spD (fFitted 8)))
    (h_State : HasI P w K mg base k "State" ["self", "number", "document", "base", "held", "included"] (spD (fStInit mg))) (h_Painter : HasI P w K mg base k "Painter" ["self", "state"] (spD (fPnInit mg))) (h_law_given : Has P w K mg base k "_law_given" ["_law_draw_here", "_law_state"] (spD (fLGiven mg))) (h_law_do_commit : Has P w K mg base k "_law_do_commit" ["_law_state"] (spD fLCommit)) (h_law_same : Has P w K mg base k "_law_same" ["_law_actual", "_law_due_here"] (spD (fSame 20)))
    (h_law_received : Has P w K mg base k "_law_received" ["_law_painter", "_law_given_here"] (spD (fRecv mg))) (h_law_asked : Has P w K mg base k "_law_asked" ["_law_painter", "_law_form", "_law_row", "_law_amount"] (spD (fAsked mg))) (h_law_due : Has P w K mg base k "_law_due" ["_law_state", "_law_form", "_law_row", "_law_amount"] (spD fDue)) (h_State_view : HasM P w K mg base k "State" "view" ["self", "moves"] (spD (fView mg))) (h_law_view : Has P w K mg base k "_law_view" ["_law_state", "_law_tree"] (spD fLView)) :
    FnOk P w K mg base CX0 (k+1+1) f fd ["_law_script"] (spScr K fun ns C P => ns.length ≤ 63 ∧ C = (fun _ => none) ∧ ∀ C', P (.bl true) C') := by
  refine fn_ofScr F sclaw fun f cdv A outer s H E hr => ⟨_, 
    (pss_cons (ps_nm 1 sclaw.nd (pe_def h_law_draw (hr.mono (by omega)) (pa_cons (pv 0) pa_nil)))
    (pss_cons (ps_nm 2 sclaw.nd (pe_def h_law_document (hr.mono (by omega)) (pa_cons (pv 1) pa_nil)))
    (pss_cons (ps_nm 3 sclaw.nd (pe_def h_law_start (hr.mono (by omega)) (pa_cons (pv 2) pa_nil)))
    (pss_cons (ps_nm 4 sclaw.nd (pe_mkI mg h_Painter TK.k_Painter.at_ (hr.mono (by omega)) (pa_cons (pe_mkI mg h_State TK.k_State.at_ (hr.mono (by omega)) (pa_cons pe_int (pa_cons (pv 2) (pa_cons (pe_def h_law_fit (hr.mono (by omega)) (pa_cons (pv 2) (pa_cons pe_dnewK pa_nil))) (pa_cons (pe_lst pa_nil) (pa_cons pe_int pa_nil)))))) pa_nil)))
    (pss_cons (ps_for PassesOwn.never rfl (pi_range1 (by rfl) T.range (pa_cons (pe_op (op_addK K) pe_int (pe_def h_law_next (hr.mono (by omega)) (pa_cons (pv 1) (pa_cons pe_int pa_nil)))) pa_nil)) (pg_nm 5 sclaw.nd) 
      (pss_cons (ps_if (pt_cmpR (op_eqK K hr) (pe_def h_law_next (hr.mono (by omega)) (pa_cons (pv 1) (pa_cons pe_int pa_nil))) pe_int (nomark _)) 
        (pss_cons (ps_nm 6 sclaw.nd (pe_lst (pa_cons (pe_dget (hu_of hr) (pv 3) pe_str (fun _ _ => rfl)) (pa_cons (pe_dget (hu_of hr) (pv 3) pe_str (fun _ _ => rfl)) (pa_cons (pe_dget (hu_of hr) (pv 3) pe_str (fun _ _ => rfl)) (pa_cons (pe_dget (hu_of hr) (pv 3) pe_str (fun _ _ => rfl)) pa_nil))))))
        (pss_cons (ps_nm 7 sclaw.nd (pe_def h_law_given (hr.mono (by omega)) (pa_cons (pv 1) (pa_cons (pv 3) pa_nil))))
        (pss_cons (ps_nm 8 sclaw.nd (pe_def h_law_do_commit (hr.mono (by omega)) (pa_cons (pv 3) pa_nil)))
        (pss_cons (ps_if (pt_cmpR (op_eqK K hr) (pv 8) pe_str (nomark _)) 
          (pss_one (ps_asg (pv 6) (pg_lstK K (n := 4) (pgs_cons (pg_sub (pv 3) pe_str (set_dict (hu_of hr))) (pgs_cons (pg_sub (pv 3) pe_str (set_dict (hu_of hr))) (pgs_cons (pg_sub (pv 3) pe_str (set_dict (hu_of hr))) (pgs_cons (pg_sub (pv 3) pe_str (set_dict (hu_of hr))) pgs_nil))))))) pss_nil)
        (pss_one (ps_if (pt_not (pt_truK K (pe_def h_law_same (hr.mono (by omega)) (pa_cons (pe_def h_law_received (hr.mono (by omega)) (pa_cons (pv 4) (pa_cons (pv 7) pa_nil))) (pa_cons (pe_ifExp (pt_cmpR (op_eqK K hr) (pv 8) pe_str (nomark _)) pe_str pe_non) pa_nil))))) 
          (pss_one (ps_ret pe_bl)) pss_nil)))))) 
        (pss_cons (ps_nm 9 sclaw.nd (pe_ix (ix_seqK K) (pe_lst (pa_cons pe_int (pa_cons pe_int (pa_cons pe_int (pa_cons pe_int (pa_cons pe_int (pa_cons pe_int (pa_cons pe_int (pa_cons pe_int pa_nil))))))))) (pe_def h_law_next (hr.mono (by omega)) (pa_cons (pv 1) (pa_cons pe_int pa_nil))) (fun _ _ => rfl)))
        (pss_cons (ps_nm 10 sclaw.nd (pe_def h_law_next (hr.mono (by omega)) (pa_cons (pv 1) (pa_cons (pe_ix (ix_seqK K) (pe_dget (hu_of hr) (pe_dget (hu_of hr) (pv 3) pe_str (fun _ _ => rfl)) pe_str (fun _ _ => rfl)) pe_int (fun _ _ => rfl)) pa_nil))))
        (pss_cons (ps_nm 11 sclaw.nd (pe_ix (ix_seqK K) (pe_lst (pa_cons pe_int (pa_cons pe_int (pa_cons pe_int (pa_cons pe_int (pa_cons (pe_un un_neg pe_int) (pa_cons (pe_un un_neg pe_int) (pa_cons (pe_un un_neg pe_int) (pa_cons pe_int pa_nil))))))))) (pe_def h_law_next (hr.mono (by omega)) (pa_cons (pv 1) (pa_cons pe_int pa_nil))) (fun _ _ => rfl)))
        (pss_one (ps_if (pt_not (pt_truK K (pe_def h_law_same (hr.mono (by omega)) (pa_cons (pe_def h_law_asked (hr.mono (by omega)) (pa_cons (pv 4) (pa_cons (pv 9) (pa_cons (pv 10) (pa_cons (pv 11) pa_nil))))) (pa_cons (pe_def h_law_due (hr.mono (by omega)) (pa_cons (pv 3) (pa_cons (pv 9) (pa_cons (pv 10) (pa_cons (pv 11) pa_nil))))) pa_nil))))) 
          (pss_one (ps_ret pe_bl)) pss_nil))))))
      (pss_cons (ps_if (PW.pt (pw_or (pt_cmpR (op_neK K hr) (pe_callTy (call_lstK K) (by rfl) T.list bt_list (pa_cons (pe_fldK K (pv 4) rfl) pa_nil)) (pe_dget (hu_of hr) (pv 3) pe_str (fun _ _ => rfl)) (nomark _)) (pw_or1 (pt_cmpR (op_neK K hr) (pe_callTy (call_lstK K) (by rfl) T.list bt_list (pa_cons (pe_fldK K (pv 4) rfl) pa_nil)) (pe_dget (hu_of hr) (pv 3) pe_str (fun _ _ => rfl)) (nomark _))))) 
        (pss_one (ps_ret pe_bl)) pss_nil)
      (pss_cons (ps_if (pt_cmpR (op_neK K hr) (pe_mt mg h_State_view TK.k_State.cls (hr.mono (by omega)) (pe_fldK K (pv 4) rfl) (pa_cons (pe_callTy (call_lstK K) (by rfl) T.list bt_list (pa_cons (pe_fldK K (pv 4) rfl) pa_nil)) pa_nil)) (pe_def h_law_view (hr.mono (by omega)) (pa_cons (pv 3) (pa_cons (pe_dget (hu_of hr) (pv 3) pe_str (fun _ _ => rfl)) pa_nil))) (nomark _)) 
        (pss_one (ps_ret pe_bl)) pss_nil)
      (pss_one (ps_if (pt_cmpR (op_neK K hr) (pe_callTy (call_lstK K) (by rfl) T.list bt_list (pa_cons (pe_fldK K (pe_fldK K (pv 4) rfl) rfl) pa_nil)) (pe_dget (hu_of hr) (pe_dget (hu_of hr) (pv 3) pe_str (fun _ _ => rfl)) pe_str (fun _ _ => rfl)) (nomark _)) 
        (pss_one (ps_ret pe_bl)) pss_nil))))))
    (pss_one (ps_ret pe_bl))))))), fun B sa ns C P hs ⟨_, hC, q⟩ => ?_⟩
  have kA := TK.k_Painter
  have kB := TK.k_State
  kwd_rel
  refine w_callScr rfl hs ?_
  intro d c0 hd0 hc0
  kwd_rel
  refine ⟨d, rfl, ⟨c0, updC_same, hc0⟩, fun b C2 hb D2 o2 => ?_⟩
  obtain ⟨f1, f2, f3, f4, f5, f6⟩ := isDoc_facts hb.doc
  have f7 := lev_deep b
  kwd_rel
  refine ⟨b, by omega, by omega, rfl, fun C3 S s hS hs0 hL3 o3 => ?_⟩
  have dS : d ≠ S := fun e => by
    obtain ⟨c, g1, _⟩ := D2
    rw [e, hS] at g1
    cases g1
  have ds : d ≠ s := fun e => by
    obtain ⟨c, g1, _⟩ := D2
    rw [e, hs0] at g1
    cases g1
  have D3 : IsDraw C3 d := D2.frame (o3 d dS ds)
  clear o3 o2 hS hs0 D2
  refine nx_show ?_
  refine ws_seq (ws_set (w_make ?_))
  refine wa_cons (w_make ?_)
  refine wa_cons (w_int ?_)
  refine wa_cons (w_var rfl ?_)
  refine wa_cons (w_frzD ?_)
  kwd_rel
  refine w_dnew ?_
  kwd_rel
  refine ⟨b, [], _, by omega, by omega, rfl, .dic, fun a ha => ⟨a, _, rfl, updC_same, ?_⟩⟩
  rw [delC_updC ha]
  kwd_rel
  refine w_lst ?_
  kwd_rel
  intro r hr0
  have k3 : ∀ a c, C3 a = some c → a ≠ r := fun a c ha e => by rw [e, hr0] at ha; cases ha
  refine ⟨r, 0, 0, b, _, _, rfl, updC_same, fun C4 hr4 o4 => ⟨rfl, ?_⟩⟩
  kwd_rel
  intro p hp0
  have k4 : ∀ a c, C4 a = some c → a ≠ p := fun a c ha e => by rw [e, hp0] at ha; cases ha
  refine ⟨p, r, actL b, rfl, updC_same, by rw [updC_ne (k4 r _ hr4)]; exact hr4, fun C5 s2 hs2 hP5 o5 => ⟨rfl, ?_⟩⟩
  have k5 : ∀ a c, C3 a = some c → C5 a = some c := fun a c ha => by
    have n1 := k3 a c ha
    have h4 : C4 a = some c := by rw [o4 a n1, updC_ne n1]; exact ha
    have n2 := k4 a c h4
    have h4' : updC C4 p (.ins (clsA mg "Painter") []) a = some c := by rw [updC_ne n2]; exact h4
    have n3 : a ≠ s2 := fun e => by rw [e, hs2] at h4'; cases h4'
    rw [o5 a n2 n3]
    exact h4'
  have hL5 : LsC C5 S s none (stL b) := hL3.keep (by rw [hL3.cS]; exact k5 _ _ hL3.cS) (by rw [hL3.cs]; exact k5 _ _ hL3.cs) fun q e => by cases e
  have D5 : IsDraw C5 d := by
    obtain ⟨c, g1, g2⟩ := D3
    exact ⟨c, k5 _ _ g1, g2⟩
  have g0 : GoodS b (fitB [] b) := good_fit [] (by omega) (by omega) f4
  have I0 : LInv mg C5 d S p s none s2 none (stL b) 0 := ⟨D5, hL5, hP5, ⟨hb.trB rfl g0 (by show ([] : List Int).length ≤ 7; simp) (by show ([] : List Int).length ≤ 200; simp), (fun t e => by cases e), Nat.le_refl _, Nat.le_refl _, (fun w hw => by cases hw)⟩, hb, Int.le_refl _, by show (100 : Int) ≤ 100 + 2 * (0 : Nat); omega, g0, Nat.le_refl _, by show ([] : List Int).length ≤ 7; simp⟩
  clear hP5 hL5 D5 k5 k4 k3 hs2 o5 o4 hr4 hp0 hr0 hL3 D3 dS ds hC hd0
  kwd_rel
  refine ws_for (fun rest E1 C1 => ∃ (M i : Nat) (s : Addr) (o : Option Addr) (s2 : Addr) (o2 : Option Addr) (L : Ls) (x5 x6 x7 x8 x9 x10 x11 : Option D), rest = (rngD 0 M).drop i ∧ i ≤ M ∧ M ≤ 40 ∧ E1 = [some (.ref sa), some (.ref d), some (encB b), some (.ref S), some (.ref p), x5, x6, x7, x8, x9, x10, x11] ∧ LInv mg C1 d S p s o s2 o2 L i) (wi_rng1 ?_) ?_ ?_
  · kwd_rel
    refine next_call (by decide) (by decide) I0.draw (fun v C4 g3 g4 D4 o4 => ?_)
    kwd_rel
    exact ⟨by omega, by omega, (10 + v).toNat, 0, s, none, s2, none, _, none, none, none, none, none, none, none, rfl, Nat.zero_le _, by omega, rfl, I0.next D4 o4⟩
  · rintro E1 C1 ⟨M, i, s, o, s2, o2, L, x5, x6, x7, x8, x9, x10, x11, h1, h2, h3, rfl, I⟩
    kwd_rel
    exact q _
  clear I0
  rintro y ys E1 C1 ⟨M, i, s, o, s2, o2, L, x5, x6, x7, x8, x9, x10, x11, h1, h2, h3, rfl, I⟩
  obtain ⟨i1, rfl, rfl⟩ := rng_cons h1
  refine wg_name ?_
  refine ws_seq (ws_cut (fun E2 C2 => ∃ (s : Addr) (o : Option Addr) (s2 : Addr) (o2 : Option Addr) (L : Ls) (x5 x6 x7 x8 x9 x10 x11 : Option D), E2 = [some (.ref sa), some (.ref d), some (encB b), some (.ref S), some (.ref p), x5, x6, x7, x8, x9, x10, x11] ∧ LInv mg C2 d S p s o s2 o2 L (i + 1)) ?_ ?_)
  rotate_left
  · clear I hr
    rintro E2 C2 ⟨s, o, s2, o2, L, x5, x6, x7, x8, x9, x10, x11, rfl, I⟩
    have hcS := I.ls.cS
    have hcs := I.ls.cs
    have hcp := I.pn.cp
    have hcq := I.pn.cs
    unfold lsF lsD at hcS
    unfold trC trF trD at hcs
    unfold pnF at hcp
    unfold stC stF at hcq
    have okP := I.b.ok (show i + 1 ≤ 100 by omega)
    have oa := okP.act
    have ga := oa.good
    have gv := oa.view L.pn.mv
    kwd_rel
    refine wc_list .lst ?_
    kwd_rel
    refine wr_neL .lst .lst pyg_mv (by decide) ?_
    kwd_rel
    kwd_less
    kwd_rel
    refine wc_list .lst ?_
    kwd_rel
    refine wr_neL .lst .lst pyg_wt (by decide) ?_
    kwd_rel
    kwd_less
    kwd_rel
    refine wc_list .lst ?_
    kwd_rel
    refine ⟨s2, L.pn.act, _, L.pn.mv, rfl, I.pn.cs, rfl, oa, ?_⟩
    kwd_rel
    refine ⟨S, s, _, L.pn.act, L.pn.mv, rfl, I.ls.cS, rfl, I.ls.cs, ga, ?_⟩
    kwd_rel
    refine wr_neDicI .dic .dic gv.ndO ?_
    kwd_rel
    kwd_less
    kwd_rel
    refine wc_list .lst ?_
    kwd_rel
    refine wr_neInts ?_
    simp only [decide_true, Bool.not_true]
    kwd_rel
    kwd_less
    kwd_rel
    exact ⟨M, i + 1, s, o, s2, o2, L, _, _, _, _, _, _, _, rfl, i1, h3, rfl, I⟩
  kwd_rel
  refine next_call (by decide) (by decide) I.draw (fun v1 C4 g3 g4 D4 o4 => ?_)
  replace I := I.next D4 o4
  clear D4 o4
  have okP := I.b.ok (show i ≤ 100 by omega)
  kwd_rel
  refine ite_two (fun hv => ?_) (fun hv => ?_)
  · have hcS := I.ls.cS
    unfold lsF lsD at hcS
    kwd_rel
    refine w_lst ?_
    kwd_rel
    have f0 := I.f0
    have f1 := I.f1
    have ml := I.b.ml
    refine ⟨d, S, s, o, L, rfl, I.draw, I.ls, I.doc, by omega, by omega, I.ht, by omega, fun C5 L1 r hr0 D5 hL5 G hr5 o5 => ?_⟩
    have kp : ∀ a cl gs, C4 a = some (.ins cl gs) → C5 a = C4 a := fun a cl gs ha => by
      rw [ha]
      exact o5 a (Ne.symm (draw_neC I.draw ha fun _ e => by cases e)) (ins_td ha I.ls.cS) (fun e => by rw [e, hr0] at ha; cases ha) _ ha
    have hP5 : PnC mg C5 p s2 o2 L.pn := I.pn.keep (kp _ _ _ I.pn.cp) (kp _ _ _ I.pn.cs) fun q e => by
      subst e
      obtain ⟨_, _, t, _, g⟩ := I.pn.pq
      exact kp _ _ _ g
    have hdL1 := G.doc
    obtain ⟨f21, f22, f23, f24, f25, f26⟩ := isDoc_facts hdL1.doc
    have f27 := lev_deep L1.doc
    have tB : TrB 0 (newT L1) := hdL1.trB rfl G.good G.hl (by show ([] : List Int).length ≤ 200; simp)
    have ePn := G.pn
    kwd_rel
    refine ⟨S, s, o, L1, rfl, hL5, by rw [ePn]; exact okP.act, by omega, by omega, fun e => ?_, fun _ ho => ?_, fun _ ho C6 q hq hL6 o6 => ?_⟩
    · rw [G.begun] at e; cases e
    · obtain ⟨q, rfl⟩ : ∃ q, o = some q := by
        cases o with
        | none => exact absurd rfl ho
        | some q => exact ⟨q, rfl⟩
      obtain ⟨_, _, tp, hpen, _⟩ := I.ls.pq
      obtain ⟨q2, rfl⟩ := I.pn.gotQ hpen
      have hcS5 := hL5.cS
      unfold lsF lsD at hcS5
      kwd_rel
      kwd_less
      kwd_rel
      refine wg_lst rfl (wgs_cons ?_)
      kwd_rel
      refine wset_t hcS5 (by with_unfolding_all exact Nat.le_of_ble_eq_true rfl) ?_
      refine wgs_cons ?_
      kwd_rel
      refine wset_t updC_same (by with_unfolding_all exact Nat.le_of_ble_eq_true rfl) ?_
      refine wgs_cons ?_
      kwd_rel
      refine wset_t updC_same (by with_unfolding_all exact Nat.le_of_ble_eq_true rfl) ?_
      refine wgs_cons ?_
      kwd_rel
      refine wset_t updC_same (by with_unfolding_all exact Nat.le_of_ble_eq_true rfl) ?_
      refine wgs_nil ?_
      rw [updC_updC, updC_updC, updC_updC]
      refine nx_show ?_
      show WS B _ _ (updC C5 S (.tdic (lsF s (some q) { L1 with doc := L.doc, off := L.off, held := L.held, told := L.told }))) _
      have hL6 : LsC (updC C5 S (.tdic (lsF s (some q) { L1 with doc := L.doc, off := L.off, held := L.held, told := L.told }))) S s (some q) { L1 with doc := L.doc, off := L.off, held := L.held, told := L.told } := hL5.put rfl rfl
      have hP6 : PnC mg (updC C5 S (.tdic (lsF s (some q) { L1 with doc := L.doc, off := L.off, held := L.held, told := L.told }))) p s2 (some q2) L.pn := hP5.frame hL5 fun z z1 _ _ => updC_ne z1
      have hr6 : updC C5 S (.tdic (lsF s (some q) { L1 with doc := L.doc, off := L.off, held := L.held, told := L.told })) r = some (stC mg (newT L1)) := by rw [updC_ne (ins_td hr5 hL5.cS)]; exact hr5
      have D6 : IsDraw (updC C5 S (.tdic (lsF s (some q) { L1 with doc := L.doc, off := L.off, held := L.held, told := L.told }))) d := isDraw_upd D5 (draw_neC D5 hL5.cS fun _ e => by cases e)
      generalize updC C5 S (.tdic (lsF s (some q) { L1 with doc := L.doc, off := L.off, held := L.held, told := L.told })) = C6 at hL6 hP6 hr6 D6 ⊢
      kwd_rel
      refine ⟨p, s2, r, some q2, L.pn, newT L1, rfl, hP6, okP, hr6, tB.ok (by omega), fun _ => ?_, fun e => by cases e⟩
      kwd_rel
      kwd_less
      kwd_rel
      refine ⟨.str "busy", 0, by decide, .str, rfl, ?_⟩
      kwd_rel
      kwd_less
      kwd_rel
      have f00 := G.f0
      have f01 := G.f1
      refine ⟨s, some q, s2, some q2, _, _, _, _, _, _, _, _, rfl, D6, hL6, ?_, ?_, I.doc.mono G.f0, by show 100 ≤ L1.fresh; omega, by show L1.fresh ≤ 100 + 2 * ((i + 1 : Nat) : Int); omega, I.good, ?_, I.hl⟩
      · show PnC mg C6 p s2 (some q2) L1.pn
        rw [ePn]
        exact hP6
      · show PnB (i + 1) L1.pn
        rw [ePn]
        exact I.b.mono (Nat.le_succ i)
      · show L.told ≤ L1.pn.mv.length
        rw [ePn]
        exact I.ht
    · subst ho
      have hpen : L.pn.pen = none := by rw [← ePn]; exact hL5.pn0
      have ho2 : o2 = none := by
        have z := I.pn.co
        rw [hpen] at z
        cases o2 with
        | none => rfl
        | some _ => exact z.elim
      subst ho2
      have kp6 : ∀ a cl gs, C5 a = some (.ins cl gs) → C6 a = C5 a := fun a cl gs ha => o6 a (ins_td ha hL5.cS) fun e => by rw [e, hq] at ha; cases ha
      have hP6 : PnC mg C6 p s2 none L.pn := hP5.keep (kp6 _ _ _ hP5.cp) (kp6 _ _ _ hP5.cs) fun q e => by cases e
      have hr6 : C6 r = some (stC mg (newT L1)) := by rw [kp6 _ _ _ hr5]; exact hr5
      have D6 : IsDraw C6 d := D5.frame (o6 d (draw_neC D5 hL5.cS fun _ e => by cases e) fun e => by
        obtain ⟨c, g1, _⟩ := D5
        rw [e, hq] at g1
        cases g1)
      kwd_rel
      kwd_less
      kwd_rel
      refine ⟨p, s2, r, none, L.pn, newT L1, rfl, hP6, okP, hr6, tB.ok (by omega), fun e => absurd rfl e, fun _ C7 q2 hq2 hP7 o7 => ?_⟩
      kwd_rel
      kwd_less
      kwd_rel
      refine ⟨.non, 0, by decide, .non, rfl, ?_⟩
      kwd_rel
      kwd_less
      kwd_rel
      have kl : ∀ a gs, C6 a = some (.tdic gs) → C7 a = C6 a := fun a gs ha => o7 a (Ne.symm (ins_td hP6.cp ha)) fun e => by rw [e, hq2] at ha; cases ha
      have f00 := G.f0
      have f01 := G.f1
      refine ⟨s, some q, s2, some q2, commitL L1, _, _, _, _, _, _, _, rfl, D6.frame (o7 d (draw_neC D6 hP6.cp fun _ e => by cases e) fun e => ?_), hL6.keep (kl _ _ hL6.cS) (kl _ _ hL6.cs) fun q' e => ?_, ?_, ?_, G.doc, by show 100 ≤ L1.fresh; omega, by show L1.fresh ≤ 100 + 2 * ((i + 1 : Nat) : Int); omega, G.good, ?_, G.hl⟩
      · obtain ⟨c, g1, _⟩ := D6
        rw [e, hq2] at g1
        cases g1
      · cases e
        obtain ⟨_, _, _, _, g⟩ := hL6.pq
        exact kl _ _ g
      · show PnC mg C7 p s2 (some q2) (receiveX L1.pn (newT L1))
        rw [ePn]
        exact hP7
      · show PnB (i + 1) (receiveX L1.pn (newT L1))
        rw [ePn]
        have hm := I.b.mono (Nat.le_succ i)
        refine ⟨hm.act, fun t e => ?_, hm.ml, hm.wl, hm.wp⟩
        cases e
        refine ⟨tB.good, tB.root, tB.hh, tB.hl, ?_, tB.tall⟩
        show (srt (keptL L.pn.act L1.doc)).length ≤ _
        rw [srt_len]
        have := kept_len L.pn.act L1.doc
        omega
      · show L1.told ≤ L1.pn.mv.length
        rw [ePn]
        exact G.t1
  · have hcS := I.ls.cS
    have hcs := I.ls.cs
    unfold lsF lsD at hcS
    unfold trC trF trD at hcs
    have tl := I.b.act.tall
    kwd_rel
    refine w_lst ?_
    kwd_rel
    refine next_call (by decide) (by decide) I.draw (fun v2 C5 g5 g6 D5 o5 => ?_)
    replace I := I.next D5 o5
    clear D5 o5 hcS hcs
    have hcS := I.ls.cS
    have hcs := I.ls.cs
    unfold lsF lsD at hcS
    unfold trC trF trD at hcs
    have hat : ∃ fm : Int, atI [D.int 0, D.int 0, D.int 0, D.int 1, D.int 2, D.int 2, D.int 3, D.int 4] v2 = some (.int fm) := by
      have : v2 = 0 ∨ v2 = 1 ∨ v2 = 2 ∨ v2 = 3 ∨ v2 = 4 ∨ v2 = 5 ∨ v2 = 6 ∨ v2 = 7 := by omega
      rcases this with rfl | rfl | rfl | rfl | rfl | rfl | rfl | rfl <;> exact ⟨_, rfl⟩
    obtain ⟨fm, hat⟩ := hat
    refine wr_ix .lst hat ?_
    kwd_rel
    refine next_call (by omega) (by omega) I.draw (fun row C6 g7 g8 D6 o6 => ?_)
    replace I := I.next D6 o6
    clear D6 o6 hcS hcs hat
    kwd_rel
    refine w_lst ?_
    kwd_rel
    refine next_call (by decide) (by decide) I.draw (fun v3 C7 g9 g10 D7 o7 => ?_)
    replace I := I.next D7 o7
    clear D7 o7
    have hat : ∃ am : Int, atI [D.int 1, D.int 7, D.int 30, D.int 200, D.int (-1), D.int (-9), D.int (-60), D.int 0] v3 = some (.int am) := by
      have : v3 = 0 ∨ v3 = 1 ∨ v3 = 2 ∨ v3 = 3 ∨ v3 = 4 ∨ v3 = 5 ∨ v3 = 6 ∨ v3 = 7 := by omega
      rcases this with rfl | rfl | rfl | rfl | rfl | rfl | rfl | rfl <;> exact ⟨_, rfl⟩
    obtain ⟨am, hat⟩ := hat
    refine wr_ix .lst hat ?_
    clear hat
    kwd_rel
    refine ⟨p, s2, o2, L.pn, fm, row, am, rfl, I.pn, okP, g7, g8, fun C8 s2' o2' hP8 _ fr8 => ?_⟩
    have hL8 : LsC C8 S s o L := I.ls.frame I.pn fr8
    have D8 : IsDraw C8 d := I.draw.frame (fr8 d (draw_neC I.draw I.pn.cp fun _ e => by cases e) (draw_neC I.draw I.pn.cs fun _ e => by cases e) fun q e => by
      subst e
      obtain ⟨_, _, _, _, g⟩ := I.pn.pq
      exact draw_neC I.draw g fun _ e => by cases e)
    kwd_rel
    refine ⟨S, s, o, L, fm, row, am, rfl, hL8, okP, g7, g8, fun C9 s' o' hL9 _ fr9 => ?_⟩
    kwd_rel
    refine ⟨_, 4, by decide, good_ask okP fm row am (undX_path okP.act row).2, rfl, ?_⟩
    kwd_rel
    kwd_less
    kwd_rel
    refine ⟨s', o', s2', o2', _, _, _, _, _, _, _, _, rfl, D8.frame (fr9 d (draw_neC D8 hL8.cS fun _ e => by cases e) (draw_neC D8 hL8.cs fun _ e => by cases e) fun q e => ?_), hL9, hP8.frame hL8 fr9, askB I.b (by omega) fm row am, I.doc, I.f0, by have := I.f1; show L.fresh ≤ 100 + 2 * ((i + 1 : Nat) : Int); omega, I.good, Nat.le_trans I.ht (ask_mv L.pn fm row am), I.hl⟩
    subst e
    obtain ⟨_, _, _, _, g⟩ := hL8.pq
    exact draw_neC D8 g fun _ e => by cases e
end
/-! steps as long as they are plain -/
local macro_rules
  | `(tactic| kwd_rel) => `(tactic| repeat (first
    | (with_reducible show W _ _ _ _ _; first
        | with_reducible refine w_var (by with_unfolding_all exact rfl) ?_
        | with_reducible refine w_int ?_
        | with_reducible refine w_op ?_
        | with_reducible refine w_str ?_
        | with_reducible refine w_cb ?_
        | with_reducible refine w_call ?_
        | with_reducible refine w_tup ?_
        | with_reducible refine w_ifExp ?_
        | with_reducible refine w_un ?_
        | with_reducible refine w_bl ?_
        | with_reducible refine w_non ?_
        | with_reducible refine w_ref ?_
        | with_reducible refine w_ty ?_
        | with_reducible refine w_notV ?_
        | with_reducible refine w_andV ?_
        | with_reducible refine w_orV ?_
        | with_reducible refine w_slice ?_
        | with_reducible refine w_chain ?_
        | with_reducible refine w_isN ?_
        | with_reducible refine w_notN ?_)
    | (with_reducible show WA _ _ _ _ _; first
        | with_reducible refine wa_cons ?_
        | with_reducible refine wa_nil ?_)
    | (with_reducible show WR _ _ _ _ _ _; first
        | with_reducible refine wr_bn ?_
        | with_reducible refine wr_bh ?_
        | (with_reducible show WR _ (rIx _) _ _ _ _; with_reducible refine wr_ix (by with_unfolding_all first | exact SeqD.tup | exact SeqD.lst | exact SeqD.cell updC_same | exact SeqD.cell (by assumption)) (by with_unfolding_all exact rfl) ?_)
        | with_reducible refine wr_intB ?_
        | with_reducible refine wr_ip ?_
        | with_reducible refine wr_int ?_
        | with_reducible refine wr_add ?_
        | (with_reducible show WR _ (rEqU _) _ _ _ _; with_reducible refine wr_eq (by with_unfolding_all exact rfl) ?_)
        | (with_reducible show WR _ (rNeU _) _ _ _ _; with_reducible refine wr_ne (by with_unfolding_all exact rfl) ?_)
        | (with_reducible show WR _ (rI _ _) _ _ _ _; with_reducible refine wr_mod (by first | assumption | decide | omega) ?_)
        | (with_reducible show WR _ (rI _ _) _ _ _ _; with_reducible refine wr_fdiv (by first | assumption | decide | omega) (by first | assumption | decide | omega) ?_)
        | (with_reducible show WR _ (rI _ _) _ _ _ _; with_reducible refine wr_mul (by omega) ?_)
        | with_reducible refine wr_pow (by decide) ?_
        | with_reducible refine wr_isN ?_
        | with_reducible refine wr_notN ?_)
    | (with_reducible show WS _ _ _ _ _; first
        | with_reducible refine ws_seq ?_
        | with_reducible refine ws_set ?_
        | with_reducible refine ws_ret ?_
        | with_reducible refine ws_if ?_
        | with_reducible refine ws_drop ?_
        | with_reducible refine ws_retN ?_
        | with_reducible refine ws_next ?_
        | with_reducible refine ws_break ?_
        | with_reducible refine ws_cont ?_
        | with_reducible refine ws_asg ?_
        | with_reducible refine ws_aug (by with_unfolding_all exact rfl) ?_)
    | (with_reducible show WT _ _ _ _ _; first
        | with_reducible refine wt_test ?_
        | with_reducible refine wt_B ?_
        | with_reducible refine wt_truth ?_
        | with_reducible refine wt_and ?_
        | with_reducible refine wt_or ?_
        | with_reducible refine wt_not ?_
        | with_reducible refine wt_yes ?_)
    | (with_reducible show WC _ _ _ _ _; first
        | (with_reducible show WC _ (rLenU _) _ _ _; with_reducible refine wc_len (by with_unfolding_all first | exact SeqD.tup | exact SeqD.lst | exact SeqD.cell updC_same | exact SeqD.cell (by assumption)) ?_)
        | with_reducible refine wc_int ?_
        | (with_reducible show WC _ (rIsiU _) _ _ _; with_reducible refine wc_isi2 (by with_unfolding_all exact rfl) (by with_reducible first | exact kit_NoneType_list | exact kit_NoneType_tuple | exact kit_NoneType_bool | exact kit_NoneType_str | exact kit_NoneType_int | exact kit_NoneType_dict | exact kit_bool_list | exact kit_bool_tuple | exact kit_bool_bool | exact kit_bool_str | exact kit_bool_int | exact kit_bool_dict | exact kit_int_list | exact kit_int_tuple | exact kit_int_bool | exact kit_int_str | exact kit_int_int | exact kit_int_dict | exact kit_str_list | exact kit_str_tuple | exact kit_str_bool | exact kit_str_str | exact kit_str_int | exact kit_str_dict | exact kit_tuple_list | exact kit_tuple_tuple | exact kit_tuple_bool | exact kit_tuple_str | exact kit_tuple_int | exact kit_tuple_dict | exact kit_list_list | exact kit_list_tuple | exact kit_list_bool | exact kit_list_str | exact kit_list_int | exact kit_list_dict | exact kit_dict_list | exact kit_dict_tuple | exact kit_dict_bool | exact kit_dict_str | exact kit_dict_int | exact kit_dict_dict) (by with_reducible first | exact kit_NoneType_list | exact kit_NoneType_tuple | exact kit_NoneType_bool | exact kit_NoneType_str | exact kit_NoneType_int | exact kit_NoneType_dict | exact kit_bool_list | exact kit_bool_tuple | exact kit_bool_bool | exact kit_bool_str | exact kit_bool_int | exact kit_bool_dict | exact kit_int_list | exact kit_int_tuple | exact kit_int_bool | exact kit_int_str | exact kit_int_int | exact kit_int_dict | exact kit_str_list | exact kit_str_tuple | exact kit_str_bool | exact kit_str_str | exact kit_str_int | exact kit_str_dict | exact kit_tuple_list | exact kit_tuple_tuple | exact kit_tuple_bool | exact kit_tuple_str | exact kit_tuple_int | exact kit_tuple_dict | exact kit_list_list | exact kit_list_tuple | exact kit_list_bool | exact kit_list_str | exact kit_list_int | exact kit_list_dict | exact kit_dict_list | exact kit_dict_tuple | exact kit_dict_bool | exact kit_dict_str | exact kit_dict_int | exact kit_dict_dict) ?_)
        | (with_reducible show WC _ (rIsiU _) _ _ _; with_reducible refine wc_isi (by with_unfolding_all exact rfl) (by with_reducible first | exact kit_NoneType_list | exact kit_NoneType_tuple | exact kit_NoneType_bool | exact kit_NoneType_str | exact kit_NoneType_int | exact kit_NoneType_dict | exact kit_bool_list | exact kit_bool_tuple | exact kit_bool_bool | exact kit_bool_str | exact kit_bool_int | exact kit_bool_dict | exact kit_int_list | exact kit_int_tuple | exact kit_int_bool | exact kit_int_str | exact kit_int_int | exact kit_int_dict | exact kit_str_list | exact kit_str_tuple | exact kit_str_bool | exact kit_str_str | exact kit_str_int | exact kit_str_dict | exact kit_tuple_list | exact kit_tuple_tuple | exact kit_tuple_bool | exact kit_tuple_str | exact kit_tuple_int | exact kit_tuple_dict | exact kit_list_list | exact kit_list_tuple | exact kit_list_bool | exact kit_list_str | exact kit_list_int | exact kit_list_dict | exact kit_dict_list | exact kit_dict_tuple | exact kit_dict_bool | exact kit_dict_str | exact kit_dict_int | exact kit_dict_dict) ?_)
        | with_reducible refine wc_abs ?_
        | with_reducible refine wc_max2 ?_
        | with_reducible refine wc_min2 ?_)
    | (with_reducible show WG _ _ _ _ _ _; first
        | with_reducible refine wg_name ?_
        | with_reducible refine wg_sub ?_)
    | (with_reducible show WU _ _ _ _ _; first
        | with_reducible refine wu_int ?_)
    | (with_reducible show WO _ _ _ _ _; first
        | with_reducible refine wo_none ?_
        | with_reducible refine wo_some ?_)
    | (with_reducible show WSl _ _ _ _ _ _ _; first
        | with_reducible refine wsl_tupE (by with_unfolding_all exact rfl) ?_
        | with_reducible refine wsl_lstE (by with_unfolding_all exact rfl) ?_)
    | (with_reducible show WSet _ _ _ _ _ _ _; first
        | with_reducible refine wset_list (by first | exact updC_same | assumption) (by with_unfolding_all exact rfl) ?_)
    | with_reducible refine ex_bl ?_
    | with_reducible refine tru_bl ?_
    | (with_reducible show ∃ _, _ ∧ _; with_reducible refine Exists.intro _ (And.intro (by with_unfolding_all first | exact rfl | exact SeqF.tup | exact SeqF.lst) ?_))
    | ((first | with_reducible show _ ≤ _ ∧ _ | with_reducible show _ < _ ∧ _); with_reducible refine And.intro (by with_unfolding_all exact Nat.le_of_ble_eq_true rfl) ?_)
    | with_reducible refine nx_show ?_
    | with_reducible refine rt_show ?_
    | with_reducible refine ct_show ?_
    | with_reducible refine bk_show ?_))
/-! a test's two ways; one that cannot be goes away -/
set_option hygiene false in
local macro_rules
  | `(tactic| kwd_less) => `(tactic| (refine ite_two (fun hc => ?_) (fun hc => ?_) <;> first | (exact absurd hc (by with_unfolding_all exact Bool.false_ne_true)) | (exact absurd hc (by with_unfolding_all exact Bool.noConfusion)) | (exact absurd hc (by decide +kernel)) | skip))
theorem chain {P : Program} {w : World} {K : PySem.W.Frag} {mg : Str → Option Value} {base : Heap} (T : Top mg) (TK : TopK K mg) (TX : TopX K mg)
    (D_parts_of : DefAt K mg "parts_of" sparts_of ["box"])
    (D_all_boxes : DefAt K mg "all_boxes" sall_boxes ["document"])
    (D_find : DefAt K mg "find" sfind ["document", "number"])
    (D_length_of : DefAt K mg "length_of" slength_of ["scroller"])
    (D_range_of : DefAt K mg "range_of" srange_of ["scroller"])
    (D_scrollers_of : DefAt K mg "scrollers_of" sscrollers_of ["document"])
    (D_places : DefAt K mg "places" splaces ["scroller"])
    (D_brought : DefAt K mg "brought" sbrought ["number", "most"])
    (D_scrolled : DefAt K mg "scrolled" sscrolled ["document", "offsets", "path", "amount"])
    (D_moved : DefAt K mg "moved" smoved ["document", "offsets", "moves"])
    (D_add_windows : DefAt K mg "add_windows" sadd_windows ["scroller", "offsets", "found"])
    (D_windows : DefAt K mg "windows" swindows ["document", "offsets"])
    (D_picture : DefAt K mg "picture" spicture ["document", "offsets"])
    (D_part_under : DefAt K mg "part_under" spart_under ["scroller", "found", "row"])
    (D_under : DefAt K mg "under" sunder ["document", "offsets", "row"])
    (D_State_init : IniAt K mg "State" "State.__init__" sState_init ["self", "number", "document", "base", "held", "included"])
    (D_State_view : MetAt K mg "State" "view" "State.view" sState_view ["self", "moves"])
    (D_State_blocks : MetAt K mg "State" "blocks" "State.blocks" sState_blocks ["self"])
    (D_State_unpainted : MetAt K mg "State" "unpainted" "State.unpainted" sState_unpainted ["self"])
    (D_State_missing : MetAt K mg "State" "missing" "State.missing" sState_missing ["self", "moves"])
    (D_State_add_painted : MetAt K mg "State" "add_painted" "State.add_painted" sState_add_painted ["self", "number"])
    (D_twin_state : DefAt K mg "twin_state" stwin_state ["state"])
    (D_Painter_init : IniAt K mg "Painter" "Painter.__init__" sPainter_init ["self", "state"])
    (D_Painter_shift : MetAt K mg "Painter" "shift" "Painter.shift" sPainter_shift ["self", "path", "amount"])
    (D_Painter_scroll : MetAt K mg "Painter" "scroll" "Painter.scroll" sPainter_scroll ["self", "row", "amount"])
    (D_Painter_answer : MetAt K mg "Painter" "answer" "Painter.answer" sPainter_answer ["self", "allowed"])
    (D_Painter_paint : MetAt K mg "Painter" "paint" "Painter.paint" sPainter_paint ["self"])
    (D_Painter_take : MetAt K mg "Painter" "take" "Painter.take" sPainter_take ["self"])
    (D_Painter_frame : MetAt K mg "Painter" "frame" "Painter.frame" sPainter_frame ["self"])
    (D_Painter_receive : MetAt K mg "Painter" "receive" "Painter.receive" sPainter_receive ["self", "state"])
    (D_law_draw : DefAt K mg "_law_draw" slaw_draw ["_law_script"])
    (D_law_next : DefAt K mg "_law_next" slaw_next ["_law_draw_here", "_law_many"])
    (D_law_same : DefAt K mg "_law_same" slaw_same ["_law_actual", "_law_due_here"])
    (D_law_flat : DefAt K mg "_law_flat" slaw_flat ["_law_box_here"])
    (D_law_box : DefAt K mg "_law_box" slaw_box ["_law_document_here", "_law_number"])
    (D_law_scrollers : DefAt K mg "_law_scrollers" slaw_scrollers ["_law_document_here"])
    (D_law_range : DefAt K mg "_law_range" slaw_range ["_law_box_here"])
    (D_law_fit : DefAt K mg "_law_fit" slaw_fit ["_law_document_here", "_law_offsets"])
    (D_law_parts : DefAt K mg "_law_parts" slaw_parts ["_law_draw_here", "_law_state", "_law_depth"])
    (D_law_document : DefAt K mg "_law_document" slaw_document ["_law_draw_here"])
    (D_law_moved : DefAt K mg "_law_moved" slaw_moved ["_law_document_here", "_law_offsets", "_law_moves"])
    (D_law_rebuilt : DefAt K mg "_law_rebuilt" slaw_rebuilt ["_law_box_here", "_law_edit_here"])
    (D_law_edit : DefAt K mg "_law_edit" slaw_edit ["_law_draw_here", "_law_document_here", "_law_fresh"])
    (D_law_spans : DefAt K mg "_law_spans" slaw_spans ["_law_box_here", "_law_top", "_law_first", "_law_behind", "_law_offsets"])
    (D_law_windows : DefAt K mg "_law_windows" slaw_windows ["_law_document_here", "_law_offsets"])
    (D_law_picture : DefAt K mg "_law_picture" slaw_picture ["_law_document_here", "_law_offsets"])
    (D_law_under : DefAt K mg "_law_under" slaw_under ["_law_document_here", "_law_offsets", "_law_row"])
    (D_law_scroll : DefAt K mg "_law_scroll" slaw_scroll ["_law_document_here", "_law_offsets", "_law_path", "_law_amount"])
    (D_law_start : DefAt K mg "_law_start" slaw_start ["_law_document_here"])
    (D_law_view : DefAt K mg "_law_view" slaw_view ["_law_state", "_law_tree"])
    (D_law_pushed : DefAt K mg "_law_pushed" slaw_pushed ["_law_state", "_law_path", "_law_amount"])
    (D_law_do_scroll : DefAt K mg "_law_do_scroll" slaw_do_scroll ["_law_state", "_law_row", "_law_amount"])
    (D_law_do_answer : DefAt K mg "_law_do_answer" slaw_do_answer ["_law_state", "_law_allowed"])
    (D_law_lacks : DefAt K mg "_law_lacks" slaw_lacks ["_law_state", "_law_tree"])
    (D_law_do_paint : DefAt K mg "_law_do_paint" slaw_do_paint ["_law_state"])
    (D_law_do_take : DefAt K mg "_law_do_take" slaw_do_take ["_law_state"])
    (D_law_frame : DefAt K mg "_law_frame" slaw_frame ["_law_state"])
    (D_law_do_commit : DefAt K mg "_law_do_commit" slaw_do_commit ["_law_state"])
    (D_law_given : DefAt K mg "_law_given" slaw_given ["_law_draw_here", "_law_state"])
    (D_law_received : DefAt K mg "_law_received" slaw_received ["_law_painter", "_law_given_here"])
    (D_law_asked : DefAt K mg "_law_asked" slaw_asked ["_law_painter", "_law_form", "_law_row", "_law_amount"])
    (D_law_due : DefAt K mg "_law_due" slaw_due ["_law_state", "_law_form", "_law_row", "_law_amount"])
    {f : Addr} {fd : FuncData} (F : Fun K "law" "law" slaw f fd) :
    FnOk P w K mg base CX0 24 f fd ["_law_script"] (spScr K fun ns C P => ns.length ≤ 63 ∧ C = (fun _ => none) ∧ ∀ C', P (.bl true) C') := by
  have h_parts_of := ok_parts_of (P := P) (w := w) (base := base) D_parts_of T
  have h_all_boxes := ok_all_boxes D_all_boxes T h_parts_of 8
  have h_find := ok_find (k := 10) D_find T (h_all_boxes.mono (by decide))
  have h_length_of := ok_length_of (P := P) (w := w) (base := base) D_length_of T
  have h_range_of := ok_range_of (k := 1) D_range_of T (h_length_of.mono (by decide))
  have h_scrollers_of := ok_scrollers_of (k := 10) D_scrollers_of T (h_all_boxes.mono (by decide))
  have h_places := ok_places (P := P) (w := w) (base := base) D_places T
  have h_brought := ok_brought (P := P) (w := w) (base := base) D_brought T
  have h_scrolled := ok_scrolled (k := 11) D_scrolled T (h_find.mono (by decide)) (h_range_of.mono (by decide)) (h_brought.mono (by decide))
  have h_moved := ok_moved (k := 11) D_moved T (h_scrollers_of.mono (by decide)) (h_range_of.mono (by decide)) (h_brought.mono (by decide))
  have h_add_windows := ok_add_windows (k := 1) D_add_windows T h_places 8
  have h_windows := ok_windows (k := 10) D_windows T (h_add_windows.mono (by decide))
  have h_picture := ok_picture (k := 11) D_picture T (h_all_boxes.mono (by decide)) (h_windows.mono (by decide))
  have h_part_under := ok_part_under (P := P) (w := w) (base := base) D_part_under T
  have h_under := ok_under (k := 11) (by decide) D_under T (h_find.mono (by decide)) (h_windows.mono (by decide)) (h_part_under.mono (by decide))
  have h_State := ok_State_init (P := P) (w := w) (base := base) (k := 0) D_State_init T TK
  have h_State_view := ok_State_view (k := 12) D_State_view T TK (h_moved.mono (by decide))
  have h_State_blocks := ok_State_blocks (k := 10) D_State_blocks T TK (h_all_boxes.mono (by decide))
  have h_State_unpainted := ok_State_unpainted (k := 11) D_State_unpainted T TK (h_State_blocks.mono (by decide))
  have h_State_missing := ok_State_missing (k := 13) D_State_missing T TK (h_State_view.mono (by decide)) (h_picture.mono (by decide))
  have h_State_add_painted := ok_State_add_painted (P := P) (w := w) (base := base) (k := 0) D_State_add_painted T TK
  have h_twin_state := ok_twin_state (k := 1) D_twin_state T TK (h_State.mono (by decide))
  have h_Painter := ok_Painter_init (k := 3) D_Painter_init T TK (h_twin_state.mono (by decide))
  have h_Painter_shift := ok_Painter_shift (k := 13) D_Painter_shift T TK (h_scrolled.mono (by decide)) (h_State_view.mono (by decide))
  have h_Painter_scroll := ok_Painter_scroll (k := 14) D_Painter_scroll T TK (h_under.mono (by decide)) (h_State_view.mono (by decide)) (h_Painter_shift.mono (by decide))
  have h_Painter_answer := ok_Painter_answer (k := 14) D_Painter_answer T TK TX (h_find.mono (by decide)) (h_Painter_shift.mono (by decide))
  have h_Painter_paint := ok_Painter_paint (k := 14) D_Painter_paint T TK (h_State_missing.mono (by decide)) (h_State_unpainted.mono (by decide)) (h_State_add_painted.mono (by decide))
  have h_Painter_take := ok_Painter_take (k := 14) D_Painter_take T TK TX (h_State_missing.mono (by decide))
  have h_Painter_frame := ok_Painter_frame (k := 13) D_Painter_frame T TK (h_State_view.mono (by decide)) (h_picture.mono (by decide))
  have h_Painter_receive := ok_Painter_receive (k := 11) D_Painter_receive T TK TX (h_State_blocks.mono (by decide)) (h_twin_state.mono (by decide))
  have h_law_draw := ok_law_draw (P := P) (w := w) (base := base) D_law_draw T
  have h_law_next := ok_law_next (P := P) (w := w) (base := base) D_law_next T
  have h_law_same := ok_law_same (P := P) (w := w) (base := base) D_law_same T 20
  have h_law_flat := ok_law_flat (P := P) (w := w) (base := base) D_law_flat T 8
  have h_law_box := ok_law_box (k := 9) D_law_box T (h_law_flat.mono (by decide))
  have h_law_scrollers := ok_law_scrollers (k := 9) D_law_scrollers T (h_law_flat.mono (by decide))
  have h_law_range := ok_law_range (P := P) (w := w) (base := base) (k := 0) D_law_range T
  have h_law_fit := ok_law_fit (k := 10) D_law_fit T (h_law_scrollers.mono (by decide)) (h_law_range.mono (by decide))
  have h_law_parts := ok_law_parts D_law_parts T h_law_next 3
  have h_law_document := ok_law_document (k := 5) D_law_document T (h_law_next.mono (by decide)) (h_law_parts.mono (by decide))
  have h_law_moved := ok_law_moved (k := 11) D_law_moved T (h_law_fit.mono (by decide))
  have h_law_rebuilt := ok_law_rebuilt (P := P) (w := w) (base := base) D_law_rebuilt T 8
  have h_law_edit := ok_law_edit (k := 10) D_law_edit T (h_law_flat.mono (by decide)) (h_law_scrollers.mono (by decide)) (h_law_next.mono (by decide))
  have h_law_spans := ok_law_spans (P := P) (w := w) (base := base) D_law_spans T 8
  have h_law_windows := ok_law_windows (k := 9) D_law_windows T (h_law_spans.mono (by decide))
  have h_law_picture := ok_law_picture (k := 10) D_law_picture T (h_law_windows.mono (by decide)) (h_law_flat.mono (by decide))
  have h_law_under := ok_law_under (k := 10) D_law_under T (h_law_windows.mono (by decide)) (h_law_flat.mono (by decide))
  have h_law_scroll := ok_law_scroll (k := 12) D_law_scroll T (h_law_moved.mono (by decide))
  have h_law_start := ok_law_start (k := 11) D_law_start T (h_law_fit.mono (by decide))
  have h_law_view := ok_law_view (k := 12) D_law_view T (h_law_moved.mono (by decide))
  have h_law_pushed := ok_law_pushed (k := 13) D_law_pushed T (h_law_scroll.mono (by decide)) (h_law_view.mono (by decide))
  have h_law_do_scroll := ok_law_do_scroll (k := 14) D_law_do_scroll T (h_law_under.mono (by decide)) (h_law_view.mono (by decide)) (h_law_pushed.mono (by decide))
  have h_law_do_answer := ok_law_do_answer (k := 14) D_law_do_answer T (h_law_scrollers.mono (by decide)) (h_law_pushed.mono (by decide))
  have h_law_lacks := ok_law_lacks (k := 13) D_law_lacks T (h_law_picture.mono (by decide)) (h_law_view.mono (by decide))
  have h_law_do_paint := ok_law_do_paint (k := 13) D_law_do_paint T (h_law_picture.mono (by decide)) (h_law_view.mono (by decide)) (h_law_flat.mono (by decide))
  have h_law_do_take := ok_law_do_take (k := 14) D_law_do_take T (h_law_lacks.mono (by decide))
  have h_law_frame := ok_law_frame (k := 13) D_law_frame T (h_law_picture.mono (by decide)) (h_law_view.mono (by decide))
  have h_law_do_commit := ok_law_do_commit (k := 10) D_law_do_commit T (h_law_flat.mono (by decide)) (h_law_box.mono (by decide))
  have h_law_given := ok_law_given (k := 11) D_law_given T TK (h_law_next.mono (by decide)) (h_law_rebuilt.mono (by decide)) (h_law_edit.mono (by decide)) (h_law_scrollers.mono (by decide)) (h_law_fit.mono (by decide)) (h_State.mono (by decide))
  have h_law_received := ok_law_received (k := 12) D_law_received T TK TX (h_Painter_receive.mono (by decide))
  have h_law_asked := ok_law_asked (k := 15) D_law_asked T TK TX (h_Painter_scroll.mono (by decide)) (h_Painter_answer.mono (by decide)) (h_Painter_paint.mono (by decide)) (h_Painter_take.mono (by decide)) (h_Painter_frame.mono (by decide))
  have h_law_due := ok_law_due (k := 15) D_law_due T (h_law_do_scroll.mono (by decide)) (h_law_do_answer.mono (by decide)) (h_law_do_paint.mono (by decide)) (h_law_do_take.mono (by decide)) (h_law_frame.mono (by decide))
  exact ok_law (k := 22) F T TK (h_law_draw.mono (by decide)) (h_law_document.mono (by decide)) (h_law_next.mono (by decide)) (h_law_start.mono (by decide)) (h_law_fit.mono (by decide)) (h_State.mono (by decide)) (h_Painter.mono (by decide)) (h_law_given.mono (by decide)) (h_law_do_commit.mono (by decide)) (h_law_same.mono (by decide)) (h_law_received.mono (by decide)) (h_law_asked.mono (by decide)) (h_law_due.mono (by decide)) (h_State_view.mono (by decide)) (h_law_view.mono (by decide))
/-! ### the top, the end -/
theorem all_mk {l : PySem.W.OpenLaw}  {w : World} {K : PySem.W.Frag} {h : Heap} {mg : Str → Option Value} {fa f1 f2 f3 f4 f5 f6 f7 f8 f9 f10 f11 f12 f13 f14 f15 f16 f17 f18 f19 f20 f21 f22 f23 f24 f25 f26 f27 f28 f29 f30 f31 f32 f33 f34 f35 f36 f37 f38 f39 f40 f41 f42 f43 f44 f45 f46 f47 f48 f49 f50 f51 f52 f53 f54 f55 f56 f57 f58 f59 f60 f61 f62 f63 : Addr} (X : K.In h) (G : h.Ns mainGlobals mg) (hfa : mg "law" = some (.ref fa))
    {od1 an1 od2 an2 od3 an3 od4 an4 od5 an5 od6 an6 od7 an7 od8 an8 od9 an9 od10 an10 od11 an11 od12 an12 od13 an13 od14 an14 od15 an15 od16 an16 od17 an17 od18 an18 od19 an19 od20 an20 od21 an21 od22 an22 od23 an23 od24 an24 od25 an25 od26 an26 od27 an27 od28 an28 od29 an29 od30 an30 od31 an31 od32 an32 od33 an33 od34 an34 od35 an35 od36 an36 od37 an37 od38 an38 od39 an39 od40 an40 od41 an41 od42 an42 od43 an43 od44 an44 od45 an45 od46 an46 od47 an47 od48 an48 od49 an49 od50 an50 od51 an51 od52 an52 od53 an53 od54 an54 od55 an55 od56 an56 od57 an57 od58 an58 od59 an59 od60 an60 od61 an61 od62 an62 od63 an63 : Option Addr} {sl1 sl2 sl3 sl4 sl5 sl6 sl7 sl8 sl9 sl10 sl11 sl12 sl13 sl14 sl15 sl16 sl17 sl18 sl19 sl20 sl21 sl22 sl23 sl24 sl25 sl26 sl27 sl28 sl29 sl30 sl31 sl32 sl33 sl34 sl35 sl36 sl37 sl38 sl39 sl40 sl41 sl42 sl43 sl44 sl45 sl46 sl47 sl48 sl49 sl50 sl51 sl52 sl53 sl54 sl55 sl56 sl57 sl58 sl59 sl60 sl61 sl62 sl63 : Array (Option Value)} {oc1 kV1 dc1 pm1 ct1 cd1 oc2 kV2 dc2 pm2 ct2 cd2 oc3 kV3 dc3 pm3 ct3 cd3 oc4 kV4 dc4 pm4 ct4 cd4 oc5 kV5 dc5 pm5 ct5 cd5 oc6 kV6 dc6 pm6 ct6 cd6 oc7 kV7 dc7 pm7 ct7 cd7 oc8 kV8 dc8 pm8 ct8 cd8 oc9 kV9 dc9 pm9 ct9 cd9 oc10 kV10 dc10 pm10 ct10 cd10 oc11 kV11 dc11 pm11 ct11 cd11 oc12 kV12 dc12 pm12 ct12 cd12 oc13 kV13 dc13 pm13 ct13 cd13 oc14 kV14 dc14 pm14 ct14 cd14 oc15 kV15 dc15 pm15 ct15 cd15 oc16 kV16 dc16 pm16 ct16 cd16 oc17 kV17 dc17 pm17 ct17 cd17 oc18 kV18 dc18 pm18 ct18 cd18 oc19 kV19 dc19 pm19 ct19 cd19 oc20 kV20 dc20 pm20 ct20 cd20 oc21 kV21 dc21 pm21 ct21 cd21 oc22 kV22 dc22 pm22 ct22 cd22 oc23 kV23 dc23 pm23 ct23 cd23 oc24 kV24 dc24 pm24 ct24 cd24 oc25 kV25 dc25 pm25 ct25 cd25 oc26 kV26 dc26 pm26 ct26 cd26 oc27 kV27 dc27 pm27 ct27 cd27 oc28 kV28 dc28 pm28 ct28 cd28 oc29 kV29 dc29 pm29 ct29 cd29 oc30 kV30 dc30 pm30 ct30 cd30 oc31 kV31 dc31 pm31 ct31 cd31 oc32 kV32 dc32 pm32 ct32 cd32 oc33 kV33 dc33 pm33 ct33 cd33 oc34 kV34 dc34 pm34 ct34 cd34 oc35 kV35 dc35 pm35 ct35 cd35 oc36 kV36 dc36 pm36 ct36 cd36 oc37 kV37 dc37 pm37 ct37 cd37 oc38 kV38 dc38 pm38 ct38 cd38 oc39 kV39 dc39 pm39 ct39 cd39 oc40 kV40 dc40 pm40 ct40 cd40 oc41 kV41 dc41 pm41 ct41 cd41 oc42 kV42 dc42 pm42 ct42 cd42 oc43 kV43 dc43 pm43 ct43 cd43 oc44 kV44 dc44 pm44 ct44 cd44 oc45 kV45 dc45 pm45 ct45 cd45 oc46 kV46 dc46 pm46 ct46 cd46 oc47 kV47 dc47 pm47 ct47 cd47 oc48 kV48 dc48 pm48 ct48 cd48 oc49 kV49 dc49 pm49 ct49 cd49 oc50 kV50 dc50 pm50 ct50 cd50 oc51 kV51 dc51 pm51 ct51 cd51 oc52 kV52 dc52 pm52 ct52 cd52 oc53 kV53 dc53 pm53 ct53 cd53 oc54 kV54 dc54 pm54 ct54 cd54 oc55 kV55 dc55 pm55 ct55 cd55 oc56 kV56 dc56 pm56 ct56 cd56 oc57 kV57 dc57 pm57 ct57 cd57 oc58 kV58 dc58 pm58 ct58 cd58 oc59 kV59 dc59 pm59 ct59 cd59 oc60 kV60 dc60 pm60 ct60 cd60 oc61 kV61 dc61 pm61 ct61 cd61 oc62 kV62 dc62 pm62 ct62 cd62 oc63 kV63 dc63 pm63 ct63 cd63 : Value}
    {C_State : Addr} (aC_State : PySem.W.nsIn K mainGlobals "State" = some (some (.ref C_State))) (pg_State : PySem.W.plainGet K C_State Str.empty = true) (hdk_State : PySem.W.hasDictIn K C_State = true) (po_State : PySem.W.plainOver K C_State = true) (sa_State : PySem.W.findIn K (.ref C_State) "__setattr__" = some (some (.builtin "object.__setattr__"))) (mk_State : PySem.W.makesIn K C_State = true) (kc_State : PySem.W.keepIn K (.ref C_State) = true)
    (nf_State_number : PySem.W.findIn K (.ref C_State) "number" = some none)
    (nf_State_document : PySem.W.findIn K (.ref C_State) "document" = some none)
    (nf_State_base : PySem.W.findIn K (.ref C_State) "base" = some none)
    (nf_State_held : PySem.W.findIn K (.ref C_State) "held" = some none)
    (nf_State_included : PySem.W.findIn K (.ref C_State) "included" = some none)
    (nf_State_painted : PySem.W.findIn K (.ref C_State) "painted" = some none)
    {C_Painter : Addr} (aC_Painter : PySem.W.nsIn K mainGlobals "Painter" = some (some (.ref C_Painter))) (pg_Painter : PySem.W.plainGet K C_Painter Str.empty = true) (hdk_Painter : PySem.W.hasDictIn K C_Painter = true) (po_Painter : PySem.W.plainOver K C_Painter = true) (sa_Painter : PySem.W.findIn K (.ref C_Painter) "__setattr__" = some (some (.builtin "object.__setattr__"))) (mk_Painter : PySem.W.makesIn K C_Painter = true) (kc_Painter : PySem.W.keepIn K (.ref C_Painter) = true)
    (nf_Painter_active : PySem.W.findIn K (.ref C_Painter) "active" = some none)
    (nf_Painter_pending : PySem.W.findIn K (.ref C_Painter) "pending" = some none)
    (nf_Painter_moves : PySem.W.findIn K (.ref C_Painter) "moves" = some none)
    (nf_Painter_waiting : PySem.W.findIn K (.ref C_Painter) "waiting" = some none)
    (a1 : PySem.W.nsIn K mainGlobals "parts_of" = some (some (.ref f1))) (l1 : K.lookup f1 = some ⟨oc1, od1, .func (PySem.W.fnOf "parts_of" "parts_of" (defArgs sparts_of) (defBody sparts_of) (defScope sparts_of) .none kV1 dc1 pm1 an1 cd1 ct1), sl1⟩) (c1 : PySem.W.codeIn K cd1 "parts_of" = true) (k1 : PySem.W.keepIn K (.ref f1) = true)
    (a2 : PySem.W.nsIn K mainGlobals "all_boxes" = some (some (.ref f2))) (l2 : K.lookup f2 = some ⟨oc2, od2, .func (PySem.W.fnOf "all_boxes" "all_boxes" (defArgs sall_boxes) (defBody sall_boxes) (defScope sall_boxes) .none kV2 dc2 pm2 an2 cd2 ct2), sl2⟩) (c2 : PySem.W.codeIn K cd2 "all_boxes" = true) (k2 : PySem.W.keepIn K (.ref f2) = true)
    (a3 : PySem.W.nsIn K mainGlobals "find" = some (some (.ref f3))) (l3 : K.lookup f3 = some ⟨oc3, od3, .func (PySem.W.fnOf "find" "find" (defArgs sfind) (defBody sfind) (defScope sfind) .none kV3 dc3 pm3 an3 cd3 ct3), sl3⟩) (c3 : PySem.W.codeIn K cd3 "find" = true) (k3 : PySem.W.keepIn K (.ref f3) = true)
    (a4 : PySem.W.nsIn K mainGlobals "length_of" = some (some (.ref f4))) (l4 : K.lookup f4 = some ⟨oc4, od4, .func (PySem.W.fnOf "length_of" "length_of" (defArgs slength_of) (defBody slength_of) (defScope slength_of) .none kV4 dc4 pm4 an4 cd4 ct4), sl4⟩) (c4 : PySem.W.codeIn K cd4 "length_of" = true) (k4 : PySem.W.keepIn K (.ref f4) = true)
    (a5 : PySem.W.nsIn K mainGlobals "range_of" = some (some (.ref f5))) (l5 : K.lookup f5 = some ⟨oc5, od5, .func (PySem.W.fnOf "range_of" "range_of" (defArgs srange_of) (defBody srange_of) (defScope srange_of) .none kV5 dc5 pm5 an5 cd5 ct5), sl5⟩) (c5 : PySem.W.codeIn K cd5 "range_of" = true) (k5 : PySem.W.keepIn K (.ref f5) = true)
    (a6 : PySem.W.nsIn K mainGlobals "scrollers_of" = some (some (.ref f6))) (l6 : K.lookup f6 = some ⟨oc6, od6, .func (PySem.W.fnOf "scrollers_of" "scrollers_of" (defArgs sscrollers_of) (defBody sscrollers_of) (defScope sscrollers_of) .none kV6 dc6 pm6 an6 cd6 ct6), sl6⟩) (c6 : PySem.W.codeIn K cd6 "scrollers_of" = true) (k6 : PySem.W.keepIn K (.ref f6) = true)
    (a7 : PySem.W.nsIn K mainGlobals "places" = some (some (.ref f7))) (l7 : K.lookup f7 = some ⟨oc7, od7, .func (PySem.W.fnOf "places" "places" (defArgs splaces) (defBody splaces) (defScope splaces) .none kV7 dc7 pm7 an7 cd7 ct7), sl7⟩) (c7 : PySem.W.codeIn K cd7 "places" = true) (k7 : PySem.W.keepIn K (.ref f7) = true)
    (a8 : PySem.W.nsIn K mainGlobals "brought" = some (some (.ref f8))) (l8 : K.lookup f8 = some ⟨oc8, od8, .func (PySem.W.fnOf "brought" "brought" (defArgs sbrought) (defBody sbrought) (defScope sbrought) .none kV8 dc8 pm8 an8 cd8 ct8), sl8⟩) (c8 : PySem.W.codeIn K cd8 "brought" = true) (k8 : PySem.W.keepIn K (.ref f8) = true)
    (a9 : PySem.W.nsIn K mainGlobals "scrolled" = some (some (.ref f9))) (l9 : K.lookup f9 = some ⟨oc9, od9, .func (PySem.W.fnOf "scrolled" "scrolled" (defArgs sscrolled) (defBody sscrolled) (defScope sscrolled) .none kV9 dc9 pm9 an9 cd9 ct9), sl9⟩) (c9 : PySem.W.codeIn K cd9 "scrolled" = true) (k9 : PySem.W.keepIn K (.ref f9) = true)
    (a10 : PySem.W.nsIn K mainGlobals "moved" = some (some (.ref f10))) (l10 : K.lookup f10 = some ⟨oc10, od10, .func (PySem.W.fnOf "moved" "moved" (defArgs smoved) (defBody smoved) (defScope smoved) .none kV10 dc10 pm10 an10 cd10 ct10), sl10⟩) (c10 : PySem.W.codeIn K cd10 "moved" = true) (k10 : PySem.W.keepIn K (.ref f10) = true)
    (a11 : PySem.W.nsIn K mainGlobals "add_windows" = some (some (.ref f11))) (l11 : K.lookup f11 = some ⟨oc11, od11, .func (PySem.W.fnOf "add_windows" "add_windows" (defArgs sadd_windows) (defBody sadd_windows) (defScope sadd_windows) .none kV11 dc11 pm11 an11 cd11 ct11), sl11⟩) (c11 : PySem.W.codeIn K cd11 "add_windows" = true) (k11 : PySem.W.keepIn K (.ref f11) = true)
    (a12 : PySem.W.nsIn K mainGlobals "windows" = some (some (.ref f12))) (l12 : K.lookup f12 = some ⟨oc12, od12, .func (PySem.W.fnOf "windows" "windows" (defArgs swindows) (defBody swindows) (defScope swindows) .none kV12 dc12 pm12 an12 cd12 ct12), sl12⟩) (c12 : PySem.W.codeIn K cd12 "windows" = true) (k12 : PySem.W.keepIn K (.ref f12) = true)
    (a13 : PySem.W.nsIn K mainGlobals "picture" = some (some (.ref f13))) (l13 : K.lookup f13 = some ⟨oc13, od13, .func (PySem.W.fnOf "picture" "picture" (defArgs spicture) (defBody spicture) (defScope spicture) .none kV13 dc13 pm13 an13 cd13 ct13), sl13⟩) (c13 : PySem.W.codeIn K cd13 "picture" = true) (k13 : PySem.W.keepIn K (.ref f13) = true)
    (a14 : PySem.W.nsIn K mainGlobals "part_under" = some (some (.ref f14))) (l14 : K.lookup f14 = some ⟨oc14, od14, .func (PySem.W.fnOf "part_under" "part_under" (defArgs spart_under) (defBody spart_under) (defScope spart_under) .none kV14 dc14 pm14 an14 cd14 ct14), sl14⟩) (c14 : PySem.W.codeIn K cd14 "part_under" = true) (k14 : PySem.W.keepIn K (.ref f14) = true)
    (a15 : PySem.W.nsIn K mainGlobals "under" = some (some (.ref f15))) (l15 : K.lookup f15 = some ⟨oc15, od15, .func (PySem.W.fnOf "under" "under" (defArgs sunder) (defBody sunder) (defScope sunder) .none kV15 dc15 pm15 an15 cd15 ct15), sl15⟩) (c15 : PySem.W.codeIn K cd15 "under" = true) (k15 : PySem.W.keepIn K (.ref f15) = true)
    (a16 : PySem.W.findIn K (.ref C_State) "__init__" = some (some (.ref f16))) (i16 : PySem.W.isFn K (.ref f16) = true) (l16 : K.lookup f16 = some ⟨oc16, od16, .func (PySem.W.fnOf "__init__" "State.__init__" (defArgs sState_init) (defBody sState_init) (defScope sState_init) .none kV16 dc16 pm16 an16 cd16 ct16), sl16⟩) (c16 : PySem.W.codeIn K cd16 "State.__init__" = true) (k16 : PySem.W.keepIn K (.ref f16) = true)
    (a17 : PySem.W.findIn K (.ref C_State) "view" = some (some (.ref f17))) (i17 : PySem.W.isFn K (.ref f17) = true) (l17 : K.lookup f17 = some ⟨oc17, od17, .func (PySem.W.fnOf "view" "State.view" (defArgs sState_view) (defBody sState_view) (defScope sState_view) .none kV17 dc17 pm17 an17 cd17 ct17), sl17⟩) (c17 : PySem.W.codeIn K cd17 "State.view" = true) (k17 : PySem.W.keepIn K (.ref f17) = true)
    (a18 : PySem.W.findIn K (.ref C_State) "blocks" = some (some (.ref f18))) (i18 : PySem.W.isFn K (.ref f18) = true) (l18 : K.lookup f18 = some ⟨oc18, od18, .func (PySem.W.fnOf "blocks" "State.blocks" (defArgs sState_blocks) (defBody sState_blocks) (defScope sState_blocks) .none kV18 dc18 pm18 an18 cd18 ct18), sl18⟩) (c18 : PySem.W.codeIn K cd18 "State.blocks" = true) (k18 : PySem.W.keepIn K (.ref f18) = true)
    (a19 : PySem.W.findIn K (.ref C_State) "unpainted" = some (some (.ref f19))) (i19 : PySem.W.isFn K (.ref f19) = true) (l19 : K.lookup f19 = some ⟨oc19, od19, .func (PySem.W.fnOf "unpainted" "State.unpainted" (defArgs sState_unpainted) (defBody sState_unpainted) (defScope sState_unpainted) .none kV19 dc19 pm19 an19 cd19 ct19), sl19⟩) (c19 : PySem.W.codeIn K cd19 "State.unpainted" = true) (k19 : PySem.W.keepIn K (.ref f19) = true)
    (a20 : PySem.W.findIn K (.ref C_State) "missing" = some (some (.ref f20))) (i20 : PySem.W.isFn K (.ref f20) = true) (l20 : K.lookup f20 = some ⟨oc20, od20, .func (PySem.W.fnOf "missing" "State.missing" (defArgs sState_missing) (defBody sState_missing) (defScope sState_missing) .none kV20 dc20 pm20 an20 cd20 ct20), sl20⟩) (c20 : PySem.W.codeIn K cd20 "State.missing" = true) (k20 : PySem.W.keepIn K (.ref f20) = true)
    (a21 : PySem.W.findIn K (.ref C_State) "add_painted" = some (some (.ref f21))) (i21 : PySem.W.isFn K (.ref f21) = true) (l21 : K.lookup f21 = some ⟨oc21, od21, .func (PySem.W.fnOf "add_painted" "State.add_painted" (defArgs sState_add_painted) (defBody sState_add_painted) (defScope sState_add_painted) .none kV21 dc21 pm21 an21 cd21 ct21), sl21⟩) (c21 : PySem.W.codeIn K cd21 "State.add_painted" = true) (k21 : PySem.W.keepIn K (.ref f21) = true)
    (a22 : PySem.W.nsIn K mainGlobals "twin_state" = some (some (.ref f22))) (l22 : K.lookup f22 = some ⟨oc22, od22, .func (PySem.W.fnOf "twin_state" "twin_state" (defArgs stwin_state) (defBody stwin_state) (defScope stwin_state) .none kV22 dc22 pm22 an22 cd22 ct22), sl22⟩) (c22 : PySem.W.codeIn K cd22 "twin_state" = true) (k22 : PySem.W.keepIn K (.ref f22) = true)
    (a23 : PySem.W.findIn K (.ref C_Painter) "__init__" = some (some (.ref f23))) (i23 : PySem.W.isFn K (.ref f23) = true) (l23 : K.lookup f23 = some ⟨oc23, od23, .func (PySem.W.fnOf "__init__" "Painter.__init__" (defArgs sPainter_init) (defBody sPainter_init) (defScope sPainter_init) .none kV23 dc23 pm23 an23 cd23 ct23), sl23⟩) (c23 : PySem.W.codeIn K cd23 "Painter.__init__" = true) (k23 : PySem.W.keepIn K (.ref f23) = true)
    (a24 : PySem.W.findIn K (.ref C_Painter) "shift" = some (some (.ref f24))) (i24 : PySem.W.isFn K (.ref f24) = true) (l24 : K.lookup f24 = some ⟨oc24, od24, .func (PySem.W.fnOf "shift" "Painter.shift" (defArgs sPainter_shift) (defBody sPainter_shift) (defScope sPainter_shift) .none kV24 dc24 pm24 an24 cd24 ct24), sl24⟩) (c24 : PySem.W.codeIn K cd24 "Painter.shift" = true) (k24 : PySem.W.keepIn K (.ref f24) = true)
    (a25 : PySem.W.findIn K (.ref C_Painter) "scroll" = some (some (.ref f25))) (i25 : PySem.W.isFn K (.ref f25) = true) (l25 : K.lookup f25 = some ⟨oc25, od25, .func (PySem.W.fnOf "scroll" "Painter.scroll" (defArgs sPainter_scroll) (defBody sPainter_scroll) (defScope sPainter_scroll) .none kV25 dc25 pm25 an25 cd25 ct25), sl25⟩) (c25 : PySem.W.codeIn K cd25 "Painter.scroll" = true) (k25 : PySem.W.keepIn K (.ref f25) = true)
    (a26 : PySem.W.findIn K (.ref C_Painter) "answer" = some (some (.ref f26))) (i26 : PySem.W.isFn K (.ref f26) = true) (l26 : K.lookup f26 = some ⟨oc26, od26, .func (PySem.W.fnOf "answer" "Painter.answer" (defArgs sPainter_answer) (defBody sPainter_answer) (defScope sPainter_answer) .none kV26 dc26 pm26 an26 cd26 ct26), sl26⟩) (c26 : PySem.W.codeIn K cd26 "Painter.answer" = true) (k26 : PySem.W.keepIn K (.ref f26) = true)
    (a27 : PySem.W.findIn K (.ref C_Painter) "paint" = some (some (.ref f27))) (i27 : PySem.W.isFn K (.ref f27) = true) (l27 : K.lookup f27 = some ⟨oc27, od27, .func (PySem.W.fnOf "paint" "Painter.paint" (defArgs sPainter_paint) (defBody sPainter_paint) (defScope sPainter_paint) .none kV27 dc27 pm27 an27 cd27 ct27), sl27⟩) (c27 : PySem.W.codeIn K cd27 "Painter.paint" = true) (k27 : PySem.W.keepIn K (.ref f27) = true)
    (a28 : PySem.W.findIn K (.ref C_Painter) "take" = some (some (.ref f28))) (i28 : PySem.W.isFn K (.ref f28) = true) (l28 : K.lookup f28 = some ⟨oc28, od28, .func (PySem.W.fnOf "take" "Painter.take" (defArgs sPainter_take) (defBody sPainter_take) (defScope sPainter_take) .none kV28 dc28 pm28 an28 cd28 ct28), sl28⟩) (c28 : PySem.W.codeIn K cd28 "Painter.take" = true) (k28 : PySem.W.keepIn K (.ref f28) = true)
    (a29 : PySem.W.findIn K (.ref C_Painter) "frame" = some (some (.ref f29))) (i29 : PySem.W.isFn K (.ref f29) = true) (l29 : K.lookup f29 = some ⟨oc29, od29, .func (PySem.W.fnOf "frame" "Painter.frame" (defArgs sPainter_frame) (defBody sPainter_frame) (defScope sPainter_frame) .none kV29 dc29 pm29 an29 cd29 ct29), sl29⟩) (c29 : PySem.W.codeIn K cd29 "Painter.frame" = true) (k29 : PySem.W.keepIn K (.ref f29) = true)
    (a30 : PySem.W.findIn K (.ref C_Painter) "receive" = some (some (.ref f30))) (i30 : PySem.W.isFn K (.ref f30) = true) (l30 : K.lookup f30 = some ⟨oc30, od30, .func (PySem.W.fnOf "receive" "Painter.receive" (defArgs sPainter_receive) (defBody sPainter_receive) (defScope sPainter_receive) .none kV30 dc30 pm30 an30 cd30 ct30), sl30⟩) (c30 : PySem.W.codeIn K cd30 "Painter.receive" = true) (k30 : PySem.W.keepIn K (.ref f30) = true)
    (a31 : PySem.W.nsIn K mainGlobals "_law_draw" = some (some (.ref f31))) (l31 : K.lookup f31 = some ⟨oc31, od31, .func (PySem.W.fnOf "_law_draw" "_law_draw" (defArgs slaw_draw) (defBody slaw_draw) (defScope slaw_draw) .none kV31 dc31 pm31 an31 cd31 ct31), sl31⟩) (c31 : PySem.W.codeIn K cd31 "_law_draw" = true) (k31 : PySem.W.keepIn K (.ref f31) = true)
    (a32 : PySem.W.nsIn K mainGlobals "_law_next" = some (some (.ref f32))) (l32 : K.lookup f32 = some ⟨oc32, od32, .func (PySem.W.fnOf "_law_next" "_law_next" (defArgs slaw_next) (defBody slaw_next) (defScope slaw_next) .none kV32 dc32 pm32 an32 cd32 ct32), sl32⟩) (c32 : PySem.W.codeIn K cd32 "_law_next" = true) (k32 : PySem.W.keepIn K (.ref f32) = true)
    (a33 : PySem.W.nsIn K mainGlobals "_law_same" = some (some (.ref f33))) (l33 : K.lookup f33 = some ⟨oc33, od33, .func (PySem.W.fnOf "_law_same" "_law_same" (defArgs slaw_same) (defBody slaw_same) (defScope slaw_same) .none kV33 dc33 pm33 an33 cd33 ct33), sl33⟩) (c33 : PySem.W.codeIn K cd33 "_law_same" = true) (k33 : PySem.W.keepIn K (.ref f33) = true)
    (a34 : PySem.W.nsIn K mainGlobals "_law_flat" = some (some (.ref f34))) (l34 : K.lookup f34 = some ⟨oc34, od34, .func (PySem.W.fnOf "_law_flat" "_law_flat" (defArgs slaw_flat) (defBody slaw_flat) (defScope slaw_flat) .none kV34 dc34 pm34 an34 cd34 ct34), sl34⟩) (c34 : PySem.W.codeIn K cd34 "_law_flat" = true) (k34 : PySem.W.keepIn K (.ref f34) = true)
    (a35 : PySem.W.nsIn K mainGlobals "_law_box" = some (some (.ref f35))) (l35 : K.lookup f35 = some ⟨oc35, od35, .func (PySem.W.fnOf "_law_box" "_law_box" (defArgs slaw_box) (defBody slaw_box) (defScope slaw_box) .none kV35 dc35 pm35 an35 cd35 ct35), sl35⟩) (c35 : PySem.W.codeIn K cd35 "_law_box" = true) (k35 : PySem.W.keepIn K (.ref f35) = true)
    (a36 : PySem.W.nsIn K mainGlobals "_law_scrollers" = some (some (.ref f36))) (l36 : K.lookup f36 = some ⟨oc36, od36, .func (PySem.W.fnOf "_law_scrollers" "_law_scrollers" (defArgs slaw_scrollers) (defBody slaw_scrollers) (defScope slaw_scrollers) .none kV36 dc36 pm36 an36 cd36 ct36), sl36⟩) (c36 : PySem.W.codeIn K cd36 "_law_scrollers" = true) (k36 : PySem.W.keepIn K (.ref f36) = true)
    (a37 : PySem.W.nsIn K mainGlobals "_law_range" = some (some (.ref f37))) (l37 : K.lookup f37 = some ⟨oc37, od37, .func (PySem.W.fnOf "_law_range" "_law_range" (defArgs slaw_range) (defBody slaw_range) (defScope slaw_range) .none kV37 dc37 pm37 an37 cd37 ct37), sl37⟩) (c37 : PySem.W.codeIn K cd37 "_law_range" = true) (k37 : PySem.W.keepIn K (.ref f37) = true)
    (a38 : PySem.W.nsIn K mainGlobals "_law_fit" = some (some (.ref f38))) (l38 : K.lookup f38 = some ⟨oc38, od38, .func (PySem.W.fnOf "_law_fit" "_law_fit" (defArgs slaw_fit) (defBody slaw_fit) (defScope slaw_fit) .none kV38 dc38 pm38 an38 cd38 ct38), sl38⟩) (c38 : PySem.W.codeIn K cd38 "_law_fit" = true) (k38 : PySem.W.keepIn K (.ref f38) = true)
    (a39 : PySem.W.nsIn K mainGlobals "_law_parts" = some (some (.ref f39))) (l39 : K.lookup f39 = some ⟨oc39, od39, .func (PySem.W.fnOf "_law_parts" "_law_parts" (defArgs slaw_parts) (defBody slaw_parts) (defScope slaw_parts) .none kV39 dc39 pm39 an39 cd39 ct39), sl39⟩) (c39 : PySem.W.codeIn K cd39 "_law_parts" = true) (k39 : PySem.W.keepIn K (.ref f39) = true)
    (a40 : PySem.W.nsIn K mainGlobals "_law_document" = some (some (.ref f40))) (l40 : K.lookup f40 = some ⟨oc40, od40, .func (PySem.W.fnOf "_law_document" "_law_document" (defArgs slaw_document) (defBody slaw_document) (defScope slaw_document) .none kV40 dc40 pm40 an40 cd40 ct40), sl40⟩) (c40 : PySem.W.codeIn K cd40 "_law_document" = true) (k40 : PySem.W.keepIn K (.ref f40) = true)
    (a41 : PySem.W.nsIn K mainGlobals "_law_moved" = some (some (.ref f41))) (l41 : K.lookup f41 = some ⟨oc41, od41, .func (PySem.W.fnOf "_law_moved" "_law_moved" (defArgs slaw_moved) (defBody slaw_moved) (defScope slaw_moved) .none kV41 dc41 pm41 an41 cd41 ct41), sl41⟩) (c41 : PySem.W.codeIn K cd41 "_law_moved" = true) (k41 : PySem.W.keepIn K (.ref f41) = true)
    (a42 : PySem.W.nsIn K mainGlobals "_law_rebuilt" = some (some (.ref f42))) (l42 : K.lookup f42 = some ⟨oc42, od42, .func (PySem.W.fnOf "_law_rebuilt" "_law_rebuilt" (defArgs slaw_rebuilt) (defBody slaw_rebuilt) (defScope slaw_rebuilt) .none kV42 dc42 pm42 an42 cd42 ct42), sl42⟩) (c42 : PySem.W.codeIn K cd42 "_law_rebuilt" = true) (k42 : PySem.W.keepIn K (.ref f42) = true)
    (a43 : PySem.W.nsIn K mainGlobals "_law_edit" = some (some (.ref f43))) (l43 : K.lookup f43 = some ⟨oc43, od43, .func (PySem.W.fnOf "_law_edit" "_law_edit" (defArgs slaw_edit) (defBody slaw_edit) (defScope slaw_edit) .none kV43 dc43 pm43 an43 cd43 ct43), sl43⟩) (c43 : PySem.W.codeIn K cd43 "_law_edit" = true) (k43 : PySem.W.keepIn K (.ref f43) = true)
    (a44 : PySem.W.nsIn K mainGlobals "_law_spans" = some (some (.ref f44))) (l44 : K.lookup f44 = some ⟨oc44, od44, .func (PySem.W.fnOf "_law_spans" "_law_spans" (defArgs slaw_spans) (defBody slaw_spans) (defScope slaw_spans) .none kV44 dc44 pm44 an44 cd44 ct44), sl44⟩) (c44 : PySem.W.codeIn K cd44 "_law_spans" = true) (k44 : PySem.W.keepIn K (.ref f44) = true)
    (a45 : PySem.W.nsIn K mainGlobals "_law_windows" = some (some (.ref f45))) (l45 : K.lookup f45 = some ⟨oc45, od45, .func (PySem.W.fnOf "_law_windows" "_law_windows" (defArgs slaw_windows) (defBody slaw_windows) (defScope slaw_windows) .none kV45 dc45 pm45 an45 cd45 ct45), sl45⟩) (c45 : PySem.W.codeIn K cd45 "_law_windows" = true) (k45 : PySem.W.keepIn K (.ref f45) = true)
    (a46 : PySem.W.nsIn K mainGlobals "_law_picture" = some (some (.ref f46))) (l46 : K.lookup f46 = some ⟨oc46, od46, .func (PySem.W.fnOf "_law_picture" "_law_picture" (defArgs slaw_picture) (defBody slaw_picture) (defScope slaw_picture) .none kV46 dc46 pm46 an46 cd46 ct46), sl46⟩) (c46 : PySem.W.codeIn K cd46 "_law_picture" = true) (k46 : PySem.W.keepIn K (.ref f46) = true)
    (a47 : PySem.W.nsIn K mainGlobals "_law_under" = some (some (.ref f47))) (l47 : K.lookup f47 = some ⟨oc47, od47, .func (PySem.W.fnOf "_law_under" "_law_under" (defArgs slaw_under) (defBody slaw_under) (defScope slaw_under) .none kV47 dc47 pm47 an47 cd47 ct47), sl47⟩) (c47 : PySem.W.codeIn K cd47 "_law_under" = true) (k47 : PySem.W.keepIn K (.ref f47) = true)
    (a48 : PySem.W.nsIn K mainGlobals "_law_scroll" = some (some (.ref f48))) (l48 : K.lookup f48 = some ⟨oc48, od48, .func (PySem.W.fnOf "_law_scroll" "_law_scroll" (defArgs slaw_scroll) (defBody slaw_scroll) (defScope slaw_scroll) .none kV48 dc48 pm48 an48 cd48 ct48), sl48⟩) (c48 : PySem.W.codeIn K cd48 "_law_scroll" = true) (k48 : PySem.W.keepIn K (.ref f48) = true)
    (a49 : PySem.W.nsIn K mainGlobals "_law_start" = some (some (.ref f49))) (l49 : K.lookup f49 = some ⟨oc49, od49, .func (PySem.W.fnOf "_law_start" "_law_start" (defArgs slaw_start) (defBody slaw_start) (defScope slaw_start) .none kV49 dc49 pm49 an49 cd49 ct49), sl49⟩) (c49 : PySem.W.codeIn K cd49 "_law_start" = true) (k49 : PySem.W.keepIn K (.ref f49) = true)
    (a50 : PySem.W.nsIn K mainGlobals "_law_view" = some (some (.ref f50))) (l50 : K.lookup f50 = some ⟨oc50, od50, .func (PySem.W.fnOf "_law_view" "_law_view" (defArgs slaw_view) (defBody slaw_view) (defScope slaw_view) .none kV50 dc50 pm50 an50 cd50 ct50), sl50⟩) (c50 : PySem.W.codeIn K cd50 "_law_view" = true) (k50 : PySem.W.keepIn K (.ref f50) = true)
    (a51 : PySem.W.nsIn K mainGlobals "_law_pushed" = some (some (.ref f51))) (l51 : K.lookup f51 = some ⟨oc51, od51, .func (PySem.W.fnOf "_law_pushed" "_law_pushed" (defArgs slaw_pushed) (defBody slaw_pushed) (defScope slaw_pushed) .none kV51 dc51 pm51 an51 cd51 ct51), sl51⟩) (c51 : PySem.W.codeIn K cd51 "_law_pushed" = true) (k51 : PySem.W.keepIn K (.ref f51) = true)
    (a52 : PySem.W.nsIn K mainGlobals "_law_do_scroll" = some (some (.ref f52))) (l52 : K.lookup f52 = some ⟨oc52, od52, .func (PySem.W.fnOf "_law_do_scroll" "_law_do_scroll" (defArgs slaw_do_scroll) (defBody slaw_do_scroll) (defScope slaw_do_scroll) .none kV52 dc52 pm52 an52 cd52 ct52), sl52⟩) (c52 : PySem.W.codeIn K cd52 "_law_do_scroll" = true) (k52 : PySem.W.keepIn K (.ref f52) = true)
    (a53 : PySem.W.nsIn K mainGlobals "_law_do_answer" = some (some (.ref f53))) (l53 : K.lookup f53 = some ⟨oc53, od53, .func (PySem.W.fnOf "_law_do_answer" "_law_do_answer" (defArgs slaw_do_answer) (defBody slaw_do_answer) (defScope slaw_do_answer) .none kV53 dc53 pm53 an53 cd53 ct53), sl53⟩) (c53 : PySem.W.codeIn K cd53 "_law_do_answer" = true) (k53 : PySem.W.keepIn K (.ref f53) = true)
    (a54 : PySem.W.nsIn K mainGlobals "_law_lacks" = some (some (.ref f54))) (l54 : K.lookup f54 = some ⟨oc54, od54, .func (PySem.W.fnOf "_law_lacks" "_law_lacks" (defArgs slaw_lacks) (defBody slaw_lacks) (defScope slaw_lacks) .none kV54 dc54 pm54 an54 cd54 ct54), sl54⟩) (c54 : PySem.W.codeIn K cd54 "_law_lacks" = true) (k54 : PySem.W.keepIn K (.ref f54) = true)
    (a55 : PySem.W.nsIn K mainGlobals "_law_do_paint" = some (some (.ref f55))) (l55 : K.lookup f55 = some ⟨oc55, od55, .func (PySem.W.fnOf "_law_do_paint" "_law_do_paint" (defArgs slaw_do_paint) (defBody slaw_do_paint) (defScope slaw_do_paint) .none kV55 dc55 pm55 an55 cd55 ct55), sl55⟩) (c55 : PySem.W.codeIn K cd55 "_law_do_paint" = true) (k55 : PySem.W.keepIn K (.ref f55) = true)
    (a56 : PySem.W.nsIn K mainGlobals "_law_do_take" = some (some (.ref f56))) (l56 : K.lookup f56 = some ⟨oc56, od56, .func (PySem.W.fnOf "_law_do_take" "_law_do_take" (defArgs slaw_do_take) (defBody slaw_do_take) (defScope slaw_do_take) .none kV56 dc56 pm56 an56 cd56 ct56), sl56⟩) (c56 : PySem.W.codeIn K cd56 "_law_do_take" = true) (k56 : PySem.W.keepIn K (.ref f56) = true)
    (a57 : PySem.W.nsIn K mainGlobals "_law_frame" = some (some (.ref f57))) (l57 : K.lookup f57 = some ⟨oc57, od57, .func (PySem.W.fnOf "_law_frame" "_law_frame" (defArgs slaw_frame) (defBody slaw_frame) (defScope slaw_frame) .none kV57 dc57 pm57 an57 cd57 ct57), sl57⟩) (c57 : PySem.W.codeIn K cd57 "_law_frame" = true) (k57 : PySem.W.keepIn K (.ref f57) = true)
    (a58 : PySem.W.nsIn K mainGlobals "_law_do_commit" = some (some (.ref f58))) (l58 : K.lookup f58 = some ⟨oc58, od58, .func (PySem.W.fnOf "_law_do_commit" "_law_do_commit" (defArgs slaw_do_commit) (defBody slaw_do_commit) (defScope slaw_do_commit) .none kV58 dc58 pm58 an58 cd58 ct58), sl58⟩) (c58 : PySem.W.codeIn K cd58 "_law_do_commit" = true) (k58 : PySem.W.keepIn K (.ref f58) = true)
    (a59 : PySem.W.nsIn K mainGlobals "_law_given" = some (some (.ref f59))) (l59 : K.lookup f59 = some ⟨oc59, od59, .func (PySem.W.fnOf "_law_given" "_law_given" (defArgs slaw_given) (defBody slaw_given) (defScope slaw_given) .none kV59 dc59 pm59 an59 cd59 ct59), sl59⟩) (c59 : PySem.W.codeIn K cd59 "_law_given" = true) (k59 : PySem.W.keepIn K (.ref f59) = true)
    (a60 : PySem.W.nsIn K mainGlobals "_law_received" = some (some (.ref f60))) (l60 : K.lookup f60 = some ⟨oc60, od60, .func (PySem.W.fnOf "_law_received" "_law_received" (defArgs slaw_received) (defBody slaw_received) (defScope slaw_received) .none kV60 dc60 pm60 an60 cd60 ct60), sl60⟩) (c60 : PySem.W.codeIn K cd60 "_law_received" = true) (k60 : PySem.W.keepIn K (.ref f60) = true)
    (a61 : PySem.W.nsIn K mainGlobals "_law_asked" = some (some (.ref f61))) (l61 : K.lookup f61 = some ⟨oc61, od61, .func (PySem.W.fnOf "_law_asked" "_law_asked" (defArgs slaw_asked) (defBody slaw_asked) (defScope slaw_asked) .none kV61 dc61 pm61 an61 cd61 ct61), sl61⟩) (c61 : PySem.W.codeIn K cd61 "_law_asked" = true) (k61 : PySem.W.keepIn K (.ref f61) = true)
    (a62 : PySem.W.nsIn K mainGlobals "_law_due" = some (some (.ref f62))) (l62 : K.lookup f62 = some ⟨oc62, od62, .func (PySem.W.fnOf "_law_due" "_law_due" (defArgs slaw_due) (defBody slaw_due) (defScope slaw_due) .none kV62 dc62 pm62 an62 cd62 ct62), sl62⟩) (c62 : PySem.W.codeIn K cd62 "_law_due" = true) (k62 : PySem.W.keepIn K (.ref f62) = true)
    (a63 : PySem.W.nsIn K mainGlobals "law" = some (some (.ref f63))) (l63 : K.lookup f63 = some ⟨oc63, od63, .func (PySem.W.fnOf "law" "law" (defArgs slaw) (defBody slaw) (defScope slaw) .none kV63 dc63 pm63 an63 cd63 ct63), sl63⟩) (c63 : PySem.W.codeIn K cd63 "law" = true) (k63 : PySem.W.keepIn K (.ref f63) = true)
    {C_Busy : Addr} (aC_Busy : PySem.W.nsIn K mainGlobals "Busy" = some (some (.ref C_Busy))) (xC_Busy : PySem.W.excIn K C_Busy [.type "ValueError", .type "Exception", .type "BaseException", .type "object"] "ValueError.__new__" = true) (kC_Busy : PySem.W.keepIn K (.ref C_Busy) = true) (sC_Busy : PySem.W.subIn K (.ref C_Busy) (.type "BaseException") = some true) (tC_Busy : PySem.W.typeIn K (.ref C_Busy) = some (.type "type")) (dC_Busy : PySem.W.hasDictIn K C_Busy = true)
    {C_NoneWaiting : Addr} (aC_NoneWaiting : PySem.W.nsIn K mainGlobals "NoneWaiting" = some (some (.ref C_NoneWaiting))) (xC_NoneWaiting : PySem.W.excIn K C_NoneWaiting [.type "ValueError", .type "Exception", .type "BaseException", .type "object"] "ValueError.__new__" = true) (kC_NoneWaiting : PySem.W.keepIn K (.ref C_NoneWaiting) = true) (sC_NoneWaiting : PySem.W.subIn K (.ref C_NoneWaiting) (.type "BaseException") = some true) (tC_NoneWaiting : PySem.W.typeIn K (.ref C_NoneWaiting) = some (.type "type")) (dC_NoneWaiting : PySem.W.hasDictIn K C_NoneWaiting = true)
    {C_NotReady : Addr} (aC_NotReady : PySem.W.nsIn K mainGlobals "NotReady" = some (some (.ref C_NotReady))) (xC_NotReady : PySem.W.excIn K C_NotReady [.type "ValueError", .type "Exception", .type "BaseException", .type "object"] "ValueError.__new__" = true) (kC_NotReady : PySem.W.keepIn K (.ref C_NotReady) = true) (sC_NotReady : PySem.W.subIn K (.ref C_NotReady) (.type "BaseException") = some true) (tC_NotReady : PySem.W.typeIn K (.ref C_NotReady) = some (.type "type")) (dC_NotReady : PySem.W.hasDictIn K C_NotReady = true)
    {C_FE : Addr} (aC_FE : PySem.W.nsIn K mainGlobals "FrameError" = some (some (.ref C_FE)))
    (m_Busy_Busy : PySem.W.subIn K (.ref C_Busy) (.ref C_Busy) = some true)
    (m_NoneWaiting_Busy : PySem.W.subIn K (.ref C_NoneWaiting) (.ref C_Busy) = some false)
    (m_NoneWaiting_NoneWaiting : PySem.W.subIn K (.ref C_NoneWaiting) (.ref C_NoneWaiting) = some true)
    (m_NotReady_Busy : PySem.W.subIn K (.ref C_NotReady) (.ref C_Busy) = some false)
    (m_NotReady_NoneWaiting : PySem.W.subIn K (.ref C_NotReady) (.ref C_NoneWaiting) = some false)
    (m_NotReady_NotReady : PySem.W.subIn K (.ref C_NotReady) (.ref C_NotReady) = some true)
    (xg_Busy : PySem.W.findIn K (.ref C_Busy) "__getattribute__" = some (some (.builtin "BaseException.__getattribute__"))) (xk_Busy : PySem.W.findIn K (.ref C_Busy) "__getattr__" = some none) (xa_Busy : PySem.W.findIn K (.ref C_Busy) "__class__" = some (some (.builtin "object.__class__"))) (xm_Busy : PySem.W.mroIn K C_Busy (.type "object") = some true)
    (ki_Busy : PySem.W.kitOne K (.ref C_Busy) (.ref C_FE) = some true)
    (xg_NoneWaiting : PySem.W.findIn K (.ref C_NoneWaiting) "__getattribute__" = some (some (.builtin "BaseException.__getattribute__"))) (xk_NoneWaiting : PySem.W.findIn K (.ref C_NoneWaiting) "__getattr__" = some none) (xa_NoneWaiting : PySem.W.findIn K (.ref C_NoneWaiting) "__class__" = some (some (.builtin "object.__class__"))) (xm_NoneWaiting : PySem.W.mroIn K C_NoneWaiting (.type "object") = some true)
    (ki_NoneWaiting : PySem.W.kitOne K (.ref C_NoneWaiting) (.ref C_FE) = some true)
    (xg_NotReady : PySem.W.findIn K (.ref C_NotReady) "__getattribute__" = some (some (.builtin "BaseException.__getattribute__"))) (xk_NotReady : PySem.W.findIn K (.ref C_NotReady) "__getattr__" = some none) (xa_NotReady : PySem.W.findIn K (.ref C_NotReady) "__class__" = some (some (.builtin "object.__class__"))) (xm_NotReady : PySem.W.mroIn K C_NotReady (.type "object") = some true)
    (ki_NotReady : PySem.W.kitOne K (.ref C_NotReady) (.ref C_FE) = some true)
    (xn : PySem.W.specialIn K (.builtin "object.__class__") "__get__" = some (some (.builtin "getset_descriptor.__get__"))) (xt : PySem.W.takesIn K (.builtin "object.__class__") = some true)
    (z_sum : PySem.W.nsIn K mainGlobals "sum" = some none)
    (z_max : PySem.W.nsIn K mainGlobals "max" = some none)
    (z_zip : PySem.W.nsIn K mainGlobals "zip" = some none)
    (z_min : PySem.W.nsIn K mainGlobals "min" = some none)
    (z_dict : PySem.W.nsIn K mainGlobals "dict" = some none)
    (z_tuple : PySem.W.nsIn K mainGlobals "tuple" = some none)
    (z_list : PySem.W.nsIn K mainGlobals "list" = some none)
    (z_len : PySem.W.nsIn K mainGlobals "len" = some none)
    (z_abs : PySem.W.nsIn K mainGlobals "abs" = some none)
    (z_int : PySem.W.nsIn K mainGlobals "int" = some none)
    (z_isinstance : PySem.W.nsIn K mainGlobals "isinstance" = some none)
    (z_str : PySem.W.nsIn K mainGlobals "str" = some none)
    (z_all : PySem.W.nsIn K mainGlobals "all" = some none)
    (z_bool : PySem.W.nsIn K mainGlobals "bool" = some none)
    (z_range : PySem.W.nsIn K mainGlobals "range" = some none)
    (z_sorted : PySem.W.nsIn K mainGlobals "sorted" = some none)
    (z_any : PySem.W.nsIn K mainGlobals "any" = some none)
    : ∃ fd : FuncData, (∀ (s : Shared) (v : Value), BindsTo s fd ⟨[v], []⟩ [("_law_script", v)]) ∧ ∀ base : Heap, K.In base → base.Ns mainGlobals mg → FnOk l.prog w K mg base CX0 24 fa fd ["_law_script"] (spLaw K) := by
  have e := hfa.symm.trans (PySem.W.mg_of X G a63)
  cases e
  have T : Top mg := ⟨PySem.W.mg_none_of X G z_sum, PySem.W.mg_none_of X G z_max, PySem.W.mg_none_of X G z_zip, PySem.W.mg_none_of X G z_min, PySem.W.mg_none_of X G z_dict, PySem.W.mg_none_of X G z_tuple, PySem.W.mg_none_of X G z_list, PySem.W.mg_none_of X G z_len, PySem.W.mg_none_of X G z_abs, PySem.W.mg_none_of X G z_int, PySem.W.mg_none_of X G z_isinstance, PySem.W.mg_none_of X G z_str, PySem.W.mg_none_of X G z_all, PySem.W.mg_none_of X G z_bool, PySem.W.mg_none_of X G z_range, PySem.W.mg_none_of X G z_sorted, PySem.W.mg_none_of X G z_any⟩
  have ec_State : clsA mg "State" = C_State := by unfold clsA; rw [PySem.W.mg_of X G aC_State]
  have kk_State : ClsOk K mg "State" ["number", "document", "base", "held", "included", "painted"] := ⟨by rw [ec_State]; exact PySem.W.mg_of X G aC_State, by rw [ec_State]; exact ⟨pg_State, hdk_State, po_State, sa_State⟩, by rw [ec_State]; intro f hf; simp only [List.mem_cons, List.not_mem_nil, or_false] at hf; rcases hf with rfl | rfl | rfl | rfl | rfl | rfl <;> exact by first | exact nf_State_number | exact nf_State_document | exact nf_State_base | exact nf_State_held | exact nf_State_included | exact nf_State_painted⟩
  have ec_Painter : clsA mg "Painter" = C_Painter := by unfold clsA; rw [PySem.W.mg_of X G aC_Painter]
  have kk_Painter : ClsOk K mg "Painter" ["active", "pending", "moves", "waiting"] := ⟨by rw [ec_Painter]; exact PySem.W.mg_of X G aC_Painter, by rw [ec_Painter]; exact ⟨pg_Painter, hdk_Painter, po_Painter, sa_Painter⟩, by rw [ec_Painter]; intro f hf; simp only [List.mem_cons, List.not_mem_nil, or_false] at hf; rcases hf with rfl | rfl | rfl | rfl <;> exact by first | exact nf_Painter_active | exact nf_Painter_pending | exact nf_Painter_moves | exact nf_Painter_waiting⟩
  have D1 : DefAt K mg "parts_of" sparts_of ["box"] := ⟨_, _, fun_mk (st := sparts_of) l1 c1 k1, PySem.W.mg_of X G a1, (fun_mk (st := sparts_of) l1 c1 k1).binds (ps := ["box"]) fun _ _ _ _ _ _ us hl => match us, hl with | [_], _ => rfl⟩
  have D2 : DefAt K mg "all_boxes" sall_boxes ["document"] := ⟨_, _, fun_mk (st := sall_boxes) l2 c2 k2, PySem.W.mg_of X G a2, (fun_mk (st := sall_boxes) l2 c2 k2).binds (ps := ["document"]) fun _ _ _ _ _ _ us hl => match us, hl with | [_], _ => rfl⟩
  have D3 : DefAt K mg "find" sfind ["document", "number"] := ⟨_, _, fun_mk (st := sfind) l3 c3 k3, PySem.W.mg_of X G a3, (fun_mk (st := sfind) l3 c3 k3).binds (ps := ["document", "number"]) fun _ _ _ _ _ _ us hl => match us, hl with | [_, _], _ => rfl⟩
  have D4 : DefAt K mg "length_of" slength_of ["scroller"] := ⟨_, _, fun_mk (st := slength_of) l4 c4 k4, PySem.W.mg_of X G a4, (fun_mk (st := slength_of) l4 c4 k4).binds (ps := ["scroller"]) fun _ _ _ _ _ _ us hl => match us, hl with | [_], _ => rfl⟩
  have D5 : DefAt K mg "range_of" srange_of ["scroller"] := ⟨_, _, fun_mk (st := srange_of) l5 c5 k5, PySem.W.mg_of X G a5, (fun_mk (st := srange_of) l5 c5 k5).binds (ps := ["scroller"]) fun _ _ _ _ _ _ us hl => match us, hl with | [_], _ => rfl⟩
  have D6 : DefAt K mg "scrollers_of" sscrollers_of ["document"] := ⟨_, _, fun_mk (st := sscrollers_of) l6 c6 k6, PySem.W.mg_of X G a6, (fun_mk (st := sscrollers_of) l6 c6 k6).binds (ps := ["document"]) fun _ _ _ _ _ _ us hl => match us, hl with | [_], _ => rfl⟩
  have D7 : DefAt K mg "places" splaces ["scroller"] := ⟨_, _, fun_mk (st := splaces) l7 c7 k7, PySem.W.mg_of X G a7, (fun_mk (st := splaces) l7 c7 k7).binds (ps := ["scroller"]) fun _ _ _ _ _ _ us hl => match us, hl with | [_], _ => rfl⟩
  have D8 : DefAt K mg "brought" sbrought ["number", "most"] := ⟨_, _, fun_mk (st := sbrought) l8 c8 k8, PySem.W.mg_of X G a8, (fun_mk (st := sbrought) l8 c8 k8).binds (ps := ["number", "most"]) fun _ _ _ _ _ _ us hl => match us, hl with | [_, _], _ => rfl⟩
  have D9 : DefAt K mg "scrolled" sscrolled ["document", "offsets", "path", "amount"] := ⟨_, _, fun_mk (st := sscrolled) l9 c9 k9, PySem.W.mg_of X G a9, (fun_mk (st := sscrolled) l9 c9 k9).binds (ps := ["document", "offsets", "path", "amount"]) fun _ _ _ _ _ _ us hl => match us, hl with | [_, _, _, _], _ => rfl⟩
  have D10 : DefAt K mg "moved" smoved ["document", "offsets", "moves"] := ⟨_, _, fun_mk (st := smoved) l10 c10 k10, PySem.W.mg_of X G a10, (fun_mk (st := smoved) l10 c10 k10).binds (ps := ["document", "offsets", "moves"]) fun _ _ _ _ _ _ us hl => match us, hl with | [_, _, _], _ => rfl⟩
  have D11 : DefAt K mg "add_windows" sadd_windows ["scroller", "offsets", "found"] := ⟨_, _, fun_mk (st := sadd_windows) l11 c11 k11, PySem.W.mg_of X G a11, (fun_mk (st := sadd_windows) l11 c11 k11).binds (ps := ["scroller", "offsets", "found"]) fun _ _ _ _ _ _ us hl => match us, hl with | [_, _, _], _ => rfl⟩
  have D12 : DefAt K mg "windows" swindows ["document", "offsets"] := ⟨_, _, fun_mk (st := swindows) l12 c12 k12, PySem.W.mg_of X G a12, (fun_mk (st := swindows) l12 c12 k12).binds (ps := ["document", "offsets"]) fun _ _ _ _ _ _ us hl => match us, hl with | [_, _], _ => rfl⟩
  have D13 : DefAt K mg "picture" spicture ["document", "offsets"] := ⟨_, _, fun_mk (st := spicture) l13 c13 k13, PySem.W.mg_of X G a13, (fun_mk (st := spicture) l13 c13 k13).binds (ps := ["document", "offsets"]) fun _ _ _ _ _ _ us hl => match us, hl with | [_, _], _ => rfl⟩
  have D14 : DefAt K mg "part_under" spart_under ["scroller", "found", "row"] := ⟨_, _, fun_mk (st := spart_under) l14 c14 k14, PySem.W.mg_of X G a14, (fun_mk (st := spart_under) l14 c14 k14).binds (ps := ["scroller", "found", "row"]) fun _ _ _ _ _ _ us hl => match us, hl with | [_, _, _], _ => rfl⟩
  have D15 : DefAt K mg "under" sunder ["document", "offsets", "row"] := ⟨_, _, fun_mk (st := sunder) l15 c15 k15, PySem.W.mg_of X G a15, (fun_mk (st := sunder) l15 c15 k15).binds (ps := ["document", "offsets", "row"]) fun _ _ _ _ _ _ us hl => match us, hl with | [_, _, _], _ => rfl⟩
  have D16 : IniAt K mg "State" "State.__init__" sState_init ["self", "number", "document", "base", "held", "included"] := ⟨_, _, fun_mk (st := sState_init) l16 c16 k16, ⟨by rw [ec_State]; exact mk_State, by rw [ec_State]; exact a16, i16, by rw [ec_State]; exact kc_State⟩, (fun_mk (st := sState_init) l16 c16 k16).binds (ps := ["self", "number", "document", "base", "held", "included"]) fun _ _ _ _ _ _ us hl => match us, hl with | [_, _, _, _, _, _], _ => rfl⟩
  have D17 : MetAt K mg "State" "view" "State.view" sState_view ["self", "moves"] := ⟨_, _, fun_mk (st := sState_view) l17 c17 k17, ⟨by rw [ec_State]; exact a17, i17, k17⟩, (fun_mk (st := sState_view) l17 c17 k17).binds (ps := ["self", "moves"]) fun _ _ _ _ _ _ us hl => match us, hl with | [_, _], _ => rfl⟩
  have D18 : MetAt K mg "State" "blocks" "State.blocks" sState_blocks ["self"] := ⟨_, _, fun_mk (st := sState_blocks) l18 c18 k18, ⟨by rw [ec_State]; exact a18, i18, k18⟩, (fun_mk (st := sState_blocks) l18 c18 k18).binds (ps := ["self"]) fun _ _ _ _ _ _ us hl => match us, hl with | [_], _ => rfl⟩
  have D19 : MetAt K mg "State" "unpainted" "State.unpainted" sState_unpainted ["self"] := ⟨_, _, fun_mk (st := sState_unpainted) l19 c19 k19, ⟨by rw [ec_State]; exact a19, i19, k19⟩, (fun_mk (st := sState_unpainted) l19 c19 k19).binds (ps := ["self"]) fun _ _ _ _ _ _ us hl => match us, hl with | [_], _ => rfl⟩
  have D20 : MetAt K mg "State" "missing" "State.missing" sState_missing ["self", "moves"] := ⟨_, _, fun_mk (st := sState_missing) l20 c20 k20, ⟨by rw [ec_State]; exact a20, i20, k20⟩, (fun_mk (st := sState_missing) l20 c20 k20).binds (ps := ["self", "moves"]) fun _ _ _ _ _ _ us hl => match us, hl with | [_, _], _ => rfl⟩
  have D21 : MetAt K mg "State" "add_painted" "State.add_painted" sState_add_painted ["self", "number"] := ⟨_, _, fun_mk (st := sState_add_painted) l21 c21 k21, ⟨by rw [ec_State]; exact a21, i21, k21⟩, (fun_mk (st := sState_add_painted) l21 c21 k21).binds (ps := ["self", "number"]) fun _ _ _ _ _ _ us hl => match us, hl with | [_, _], _ => rfl⟩
  have D22 : DefAt K mg "twin_state" stwin_state ["state"] := ⟨_, _, fun_mk (st := stwin_state) l22 c22 k22, PySem.W.mg_of X G a22, (fun_mk (st := stwin_state) l22 c22 k22).binds (ps := ["state"]) fun _ _ _ _ _ _ us hl => match us, hl with | [_], _ => rfl⟩
  have D23 : IniAt K mg "Painter" "Painter.__init__" sPainter_init ["self", "state"] := ⟨_, _, fun_mk (st := sPainter_init) l23 c23 k23, ⟨by rw [ec_Painter]; exact mk_Painter, by rw [ec_Painter]; exact a23, i23, by rw [ec_Painter]; exact kc_Painter⟩, (fun_mk (st := sPainter_init) l23 c23 k23).binds (ps := ["self", "state"]) fun _ _ _ _ _ _ us hl => match us, hl with | [_, _], _ => rfl⟩
  have D24 : MetAt K mg "Painter" "shift" "Painter.shift" sPainter_shift ["self", "path", "amount"] := ⟨_, _, fun_mk (st := sPainter_shift) l24 c24 k24, ⟨by rw [ec_Painter]; exact a24, i24, k24⟩, (fun_mk (st := sPainter_shift) l24 c24 k24).binds (ps := ["self", "path", "amount"]) fun _ _ _ _ _ _ us hl => match us, hl with | [_, _, _], _ => rfl⟩
  have D25 : MetAt K mg "Painter" "scroll" "Painter.scroll" sPainter_scroll ["self", "row", "amount"] := ⟨_, _, fun_mk (st := sPainter_scroll) l25 c25 k25, ⟨by rw [ec_Painter]; exact a25, i25, k25⟩, (fun_mk (st := sPainter_scroll) l25 c25 k25).binds (ps := ["self", "row", "amount"]) fun _ _ _ _ _ _ us hl => match us, hl with | [_, _, _], _ => rfl⟩
  have D26 : MetAt K mg "Painter" "answer" "Painter.answer" sPainter_answer ["self", "allowed"] := ⟨_, _, fun_mk (st := sPainter_answer) l26 c26 k26, ⟨by rw [ec_Painter]; exact a26, i26, k26⟩, (fun_mk (st := sPainter_answer) l26 c26 k26).binds (ps := ["self", "allowed"]) fun _ _ _ _ _ _ us hl => match us, hl with | [_, _], _ => rfl⟩
  have D27 : MetAt K mg "Painter" "paint" "Painter.paint" sPainter_paint ["self"] := ⟨_, _, fun_mk (st := sPainter_paint) l27 c27 k27, ⟨by rw [ec_Painter]; exact a27, i27, k27⟩, (fun_mk (st := sPainter_paint) l27 c27 k27).binds (ps := ["self"]) fun _ _ _ _ _ _ us hl => match us, hl with | [_], _ => rfl⟩
  have D28 : MetAt K mg "Painter" "take" "Painter.take" sPainter_take ["self"] := ⟨_, _, fun_mk (st := sPainter_take) l28 c28 k28, ⟨by rw [ec_Painter]; exact a28, i28, k28⟩, (fun_mk (st := sPainter_take) l28 c28 k28).binds (ps := ["self"]) fun _ _ _ _ _ _ us hl => match us, hl with | [_], _ => rfl⟩
  have D29 : MetAt K mg "Painter" "frame" "Painter.frame" sPainter_frame ["self"] := ⟨_, _, fun_mk (st := sPainter_frame) l29 c29 k29, ⟨by rw [ec_Painter]; exact a29, i29, k29⟩, (fun_mk (st := sPainter_frame) l29 c29 k29).binds (ps := ["self"]) fun _ _ _ _ _ _ us hl => match us, hl with | [_], _ => rfl⟩
  have D30 : MetAt K mg "Painter" "receive" "Painter.receive" sPainter_receive ["self", "state"] := ⟨_, _, fun_mk (st := sPainter_receive) l30 c30 k30, ⟨by rw [ec_Painter]; exact a30, i30, k30⟩, (fun_mk (st := sPainter_receive) l30 c30 k30).binds (ps := ["self", "state"]) fun _ _ _ _ _ _ us hl => match us, hl with | [_, _], _ => rfl⟩
  have D31 : DefAt K mg "_law_draw" slaw_draw ["_law_script"] := ⟨_, _, fun_mk (st := slaw_draw) l31 c31 k31, PySem.W.mg_of X G a31, (fun_mk (st := slaw_draw) l31 c31 k31).binds (ps := ["_law_script"]) fun _ _ _ _ _ _ us hl => match us, hl with | [_], _ => rfl⟩
  have D32 : DefAt K mg "_law_next" slaw_next ["_law_draw_here", "_law_many"] := ⟨_, _, fun_mk (st := slaw_next) l32 c32 k32, PySem.W.mg_of X G a32, (fun_mk (st := slaw_next) l32 c32 k32).binds (ps := ["_law_draw_here", "_law_many"]) fun _ _ _ _ _ _ us hl => match us, hl with | [_, _], _ => rfl⟩
  have D33 : DefAt K mg "_law_same" slaw_same ["_law_actual", "_law_due_here"] := ⟨_, _, fun_mk (st := slaw_same) l33 c33 k33, PySem.W.mg_of X G a33, (fun_mk (st := slaw_same) l33 c33 k33).binds (ps := ["_law_actual", "_law_due_here"]) fun _ _ _ _ _ _ us hl => match us, hl with | [_, _], _ => rfl⟩
  have D34 : DefAt K mg "_law_flat" slaw_flat ["_law_box_here"] := ⟨_, _, fun_mk (st := slaw_flat) l34 c34 k34, PySem.W.mg_of X G a34, (fun_mk (st := slaw_flat) l34 c34 k34).binds (ps := ["_law_box_here"]) fun _ _ _ _ _ _ us hl => match us, hl with | [_], _ => rfl⟩
  have D35 : DefAt K mg "_law_box" slaw_box ["_law_document_here", "_law_number"] := ⟨_, _, fun_mk (st := slaw_box) l35 c35 k35, PySem.W.mg_of X G a35, (fun_mk (st := slaw_box) l35 c35 k35).binds (ps := ["_law_document_here", "_law_number"]) fun _ _ _ _ _ _ us hl => match us, hl with | [_, _], _ => rfl⟩
  have D36 : DefAt K mg "_law_scrollers" slaw_scrollers ["_law_document_here"] := ⟨_, _, fun_mk (st := slaw_scrollers) l36 c36 k36, PySem.W.mg_of X G a36, (fun_mk (st := slaw_scrollers) l36 c36 k36).binds (ps := ["_law_document_here"]) fun _ _ _ _ _ _ us hl => match us, hl with | [_], _ => rfl⟩
  have D37 : DefAt K mg "_law_range" slaw_range ["_law_box_here"] := ⟨_, _, fun_mk (st := slaw_range) l37 c37 k37, PySem.W.mg_of X G a37, (fun_mk (st := slaw_range) l37 c37 k37).binds (ps := ["_law_box_here"]) fun _ _ _ _ _ _ us hl => match us, hl with | [_], _ => rfl⟩
  have D38 : DefAt K mg "_law_fit" slaw_fit ["_law_document_here", "_law_offsets"] := ⟨_, _, fun_mk (st := slaw_fit) l38 c38 k38, PySem.W.mg_of X G a38, (fun_mk (st := slaw_fit) l38 c38 k38).binds (ps := ["_law_document_here", "_law_offsets"]) fun _ _ _ _ _ _ us hl => match us, hl with | [_, _], _ => rfl⟩
  have D39 : DefAt K mg "_law_parts" slaw_parts ["_law_draw_here", "_law_state", "_law_depth"] := ⟨_, _, fun_mk (st := slaw_parts) l39 c39 k39, PySem.W.mg_of X G a39, (fun_mk (st := slaw_parts) l39 c39 k39).binds (ps := ["_law_draw_here", "_law_state", "_law_depth"]) fun _ _ _ _ _ _ us hl => match us, hl with | [_, _, _], _ => rfl⟩
  have D40 : DefAt K mg "_law_document" slaw_document ["_law_draw_here"] := ⟨_, _, fun_mk (st := slaw_document) l40 c40 k40, PySem.W.mg_of X G a40, (fun_mk (st := slaw_document) l40 c40 k40).binds (ps := ["_law_draw_here"]) fun _ _ _ _ _ _ us hl => match us, hl with | [_], _ => rfl⟩
  have D41 : DefAt K mg "_law_moved" slaw_moved ["_law_document_here", "_law_offsets", "_law_moves"] := ⟨_, _, fun_mk (st := slaw_moved) l41 c41 k41, PySem.W.mg_of X G a41, (fun_mk (st := slaw_moved) l41 c41 k41).binds (ps := ["_law_document_here", "_law_offsets", "_law_moves"]) fun _ _ _ _ _ _ us hl => match us, hl with | [_, _, _], _ => rfl⟩
  have D42 : DefAt K mg "_law_rebuilt" slaw_rebuilt ["_law_box_here", "_law_edit_here"] := ⟨_, _, fun_mk (st := slaw_rebuilt) l42 c42 k42, PySem.W.mg_of X G a42, (fun_mk (st := slaw_rebuilt) l42 c42 k42).binds (ps := ["_law_box_here", "_law_edit_here"]) fun _ _ _ _ _ _ us hl => match us, hl with | [_, _], _ => rfl⟩
  have D43 : DefAt K mg "_law_edit" slaw_edit ["_law_draw_here", "_law_document_here", "_law_fresh"] := ⟨_, _, fun_mk (st := slaw_edit) l43 c43 k43, PySem.W.mg_of X G a43, (fun_mk (st := slaw_edit) l43 c43 k43).binds (ps := ["_law_draw_here", "_law_document_here", "_law_fresh"]) fun _ _ _ _ _ _ us hl => match us, hl with | [_, _, _], _ => rfl⟩
  have D44 : DefAt K mg "_law_spans" slaw_spans ["_law_box_here", "_law_top", "_law_first", "_law_behind", "_law_offsets"] := ⟨_, _, fun_mk (st := slaw_spans) l44 c44 k44, PySem.W.mg_of X G a44, (fun_mk (st := slaw_spans) l44 c44 k44).binds (ps := ["_law_box_here", "_law_top", "_law_first", "_law_behind", "_law_offsets"]) fun _ _ _ _ _ _ us hl => match us, hl with | [_, _, _, _, _], _ => rfl⟩
  have D45 : DefAt K mg "_law_windows" slaw_windows ["_law_document_here", "_law_offsets"] := ⟨_, _, fun_mk (st := slaw_windows) l45 c45 k45, PySem.W.mg_of X G a45, (fun_mk (st := slaw_windows) l45 c45 k45).binds (ps := ["_law_document_here", "_law_offsets"]) fun _ _ _ _ _ _ us hl => match us, hl with | [_, _], _ => rfl⟩
  have D46 : DefAt K mg "_law_picture" slaw_picture ["_law_document_here", "_law_offsets"] := ⟨_, _, fun_mk (st := slaw_picture) l46 c46 k46, PySem.W.mg_of X G a46, (fun_mk (st := slaw_picture) l46 c46 k46).binds (ps := ["_law_document_here", "_law_offsets"]) fun _ _ _ _ _ _ us hl => match us, hl with | [_, _], _ => rfl⟩
  have D47 : DefAt K mg "_law_under" slaw_under ["_law_document_here", "_law_offsets", "_law_row"] := ⟨_, _, fun_mk (st := slaw_under) l47 c47 k47, PySem.W.mg_of X G a47, (fun_mk (st := slaw_under) l47 c47 k47).binds (ps := ["_law_document_here", "_law_offsets", "_law_row"]) fun _ _ _ _ _ _ us hl => match us, hl with | [_, _, _], _ => rfl⟩
  have D48 : DefAt K mg "_law_scroll" slaw_scroll ["_law_document_here", "_law_offsets", "_law_path", "_law_amount"] := ⟨_, _, fun_mk (st := slaw_scroll) l48 c48 k48, PySem.W.mg_of X G a48, (fun_mk (st := slaw_scroll) l48 c48 k48).binds (ps := ["_law_document_here", "_law_offsets", "_law_path", "_law_amount"]) fun _ _ _ _ _ _ us hl => match us, hl with | [_, _, _, _], _ => rfl⟩
  have D49 : DefAt K mg "_law_start" slaw_start ["_law_document_here"] := ⟨_, _, fun_mk (st := slaw_start) l49 c49 k49, PySem.W.mg_of X G a49, (fun_mk (st := slaw_start) l49 c49 k49).binds (ps := ["_law_document_here"]) fun _ _ _ _ _ _ us hl => match us, hl with | [_], _ => rfl⟩
  have D50 : DefAt K mg "_law_view" slaw_view ["_law_state", "_law_tree"] := ⟨_, _, fun_mk (st := slaw_view) l50 c50 k50, PySem.W.mg_of X G a50, (fun_mk (st := slaw_view) l50 c50 k50).binds (ps := ["_law_state", "_law_tree"]) fun _ _ _ _ _ _ us hl => match us, hl with | [_, _], _ => rfl⟩
  have D51 : DefAt K mg "_law_pushed" slaw_pushed ["_law_state", "_law_path", "_law_amount"] := ⟨_, _, fun_mk (st := slaw_pushed) l51 c51 k51, PySem.W.mg_of X G a51, (fun_mk (st := slaw_pushed) l51 c51 k51).binds (ps := ["_law_state", "_law_path", "_law_amount"]) fun _ _ _ _ _ _ us hl => match us, hl with | [_, _, _], _ => rfl⟩
  have D52 : DefAt K mg "_law_do_scroll" slaw_do_scroll ["_law_state", "_law_row", "_law_amount"] := ⟨_, _, fun_mk (st := slaw_do_scroll) l52 c52 k52, PySem.W.mg_of X G a52, (fun_mk (st := slaw_do_scroll) l52 c52 k52).binds (ps := ["_law_state", "_law_row", "_law_amount"]) fun _ _ _ _ _ _ us hl => match us, hl with | [_, _, _], _ => rfl⟩
  have D53 : DefAt K mg "_law_do_answer" slaw_do_answer ["_law_state", "_law_allowed"] := ⟨_, _, fun_mk (st := slaw_do_answer) l53 c53 k53, PySem.W.mg_of X G a53, (fun_mk (st := slaw_do_answer) l53 c53 k53).binds (ps := ["_law_state", "_law_allowed"]) fun _ _ _ _ _ _ us hl => match us, hl with | [_, _], _ => rfl⟩
  have D54 : DefAt K mg "_law_lacks" slaw_lacks ["_law_state", "_law_tree"] := ⟨_, _, fun_mk (st := slaw_lacks) l54 c54 k54, PySem.W.mg_of X G a54, (fun_mk (st := slaw_lacks) l54 c54 k54).binds (ps := ["_law_state", "_law_tree"]) fun _ _ _ _ _ _ us hl => match us, hl with | [_, _], _ => rfl⟩
  have D55 : DefAt K mg "_law_do_paint" slaw_do_paint ["_law_state"] := ⟨_, _, fun_mk (st := slaw_do_paint) l55 c55 k55, PySem.W.mg_of X G a55, (fun_mk (st := slaw_do_paint) l55 c55 k55).binds (ps := ["_law_state"]) fun _ _ _ _ _ _ us hl => match us, hl with | [_], _ => rfl⟩
  have D56 : DefAt K mg "_law_do_take" slaw_do_take ["_law_state"] := ⟨_, _, fun_mk (st := slaw_do_take) l56 c56 k56, PySem.W.mg_of X G a56, (fun_mk (st := slaw_do_take) l56 c56 k56).binds (ps := ["_law_state"]) fun _ _ _ _ _ _ us hl => match us, hl with | [_], _ => rfl⟩
  have D57 : DefAt K mg "_law_frame" slaw_frame ["_law_state"] := ⟨_, _, fun_mk (st := slaw_frame) l57 c57 k57, PySem.W.mg_of X G a57, (fun_mk (st := slaw_frame) l57 c57 k57).binds (ps := ["_law_state"]) fun _ _ _ _ _ _ us hl => match us, hl with | [_], _ => rfl⟩
  have D58 : DefAt K mg "_law_do_commit" slaw_do_commit ["_law_state"] := ⟨_, _, fun_mk (st := slaw_do_commit) l58 c58 k58, PySem.W.mg_of X G a58, (fun_mk (st := slaw_do_commit) l58 c58 k58).binds (ps := ["_law_state"]) fun _ _ _ _ _ _ us hl => match us, hl with | [_], _ => rfl⟩
  have D59 : DefAt K mg "_law_given" slaw_given ["_law_draw_here", "_law_state"] := ⟨_, _, fun_mk (st := slaw_given) l59 c59 k59, PySem.W.mg_of X G a59, (fun_mk (st := slaw_given) l59 c59 k59).binds (ps := ["_law_draw_here", "_law_state"]) fun _ _ _ _ _ _ us hl => match us, hl with | [_, _], _ => rfl⟩
  have D60 : DefAt K mg "_law_received" slaw_received ["_law_painter", "_law_given_here"] := ⟨_, _, fun_mk (st := slaw_received) l60 c60 k60, PySem.W.mg_of X G a60, (fun_mk (st := slaw_received) l60 c60 k60).binds (ps := ["_law_painter", "_law_given_here"]) fun _ _ _ _ _ _ us hl => match us, hl with | [_, _], _ => rfl⟩
  have D61 : DefAt K mg "_law_asked" slaw_asked ["_law_painter", "_law_form", "_law_row", "_law_amount"] := ⟨_, _, fun_mk (st := slaw_asked) l61 c61 k61, PySem.W.mg_of X G a61, (fun_mk (st := slaw_asked) l61 c61 k61).binds (ps := ["_law_painter", "_law_form", "_law_row", "_law_amount"]) fun _ _ _ _ _ _ us hl => match us, hl with | [_, _, _, _], _ => rfl⟩
  have D62 : DefAt K mg "_law_due" slaw_due ["_law_state", "_law_form", "_law_row", "_law_amount"] := ⟨_, _, fun_mk (st := slaw_due) l62 c62 k62, PySem.W.mg_of X G a62, (fun_mk (st := slaw_due) l62 c62 k62).binds (ps := ["_law_state", "_law_form", "_law_row", "_law_amount"]) fun _ _ _ _ _ _ us hl => match us, hl with | [_, _, _, _], _ => rfl⟩
  have D63 : DefAt K mg "law" slaw ["_law_script"] := ⟨_, _, fun_mk (st := slaw) l63 c63 k63, PySem.W.mg_of X G a63, (fun_mk (st := slaw) l63 c63 k63).binds (ps := ["_law_script"]) fun _ _ _ _ _ _ us hl => match us, hl with | [_], _ => rfl⟩
  have ec_Busy : clsAd mg "Busy" = C_Busy := by unfold clsAd; rw [PySem.W.mg_of X G aC_Busy]
  have ec_NoneWaiting : clsAd mg "NoneWaiting" = C_NoneWaiting := by unfold clsAd; rw [PySem.W.mg_of X G aC_NoneWaiting]
  have ec_NotReady : clsAd mg "NotReady" = C_NotReady := by unfold clsAd; rw [PySem.W.mg_of X G aC_NotReady]
  have ec_FE : clsAd mg "FrameError" = C_FE := by unfold clsAd; rw [PySem.W.mg_of X G aC_FE]
  have TX : TopX K mg := ⟨⟨C_Busy, xC_Busy, PySem.W.mg_of X G aC_Busy, kC_Busy, sC_Busy, tC_Busy⟩, ⟨C_NoneWaiting, xC_NoneWaiting, PySem.W.mg_of X G aC_NoneWaiting, kC_NoneWaiting, sC_NoneWaiting, tC_NoneWaiting⟩, ⟨C_NotReady, xC_NotReady, PySem.W.mg_of X G aC_NotReady, kC_NotReady, sC_NotReady, tC_NotReady⟩, ⟨C_FE, PySem.W.mg_of X G aC_FE⟩, ⟨C_Busy, PySem.W.mg_of X G aC_Busy⟩, ⟨C_NoneWaiting, PySem.W.mg_of X G aC_NoneWaiting⟩, ⟨C_NotReady, PySem.W.mg_of X G aC_NotReady⟩, by rw [ec_Busy]; exact PySem.W.exm_ref sC_Busy dC_Busy tC_Busy m_Busy_Busy, by rw [ec_NoneWaiting, ec_Busy]; exact PySem.W.exm_ref sC_Busy dC_Busy tC_Busy m_NoneWaiting_Busy, by rw [ec_NoneWaiting]; exact PySem.W.exm_ref sC_NoneWaiting dC_NoneWaiting tC_NoneWaiting m_NoneWaiting_NoneWaiting, by rw [ec_NotReady, ec_Busy]; exact PySem.W.exm_ref sC_Busy dC_Busy tC_Busy m_NotReady_Busy, by rw [ec_NotReady, ec_NoneWaiting]; exact PySem.W.exm_ref sC_NoneWaiting dC_NoneWaiting tC_NoneWaiting m_NotReady_NoneWaiting, by rw [ec_NotReady]; exact PySem.W.exm_ref sC_NotReady dC_NotReady tC_NotReady m_NotReady_NotReady, by rw [ec_Busy]; exact ⟨xg_Busy, xk_Busy, sC_Busy, dC_Busy, xa_Busy, xn, xt, xm_Busy⟩, by rw [ec_NoneWaiting]; exact ⟨xg_NoneWaiting, xk_NoneWaiting, sC_NoneWaiting, dC_NoneWaiting, xa_NoneWaiting, xn, xt, xm_NoneWaiting⟩, by rw [ec_NotReady]; exact ⟨xg_NotReady, xk_NotReady, sC_NotReady, dC_NotReady, xa_NotReady, xn, xt, xm_NotReady⟩, by rw [ec_Busy, ec_FE]; exact ki_Busy, by rw [ec_NoneWaiting, ec_FE]; exact ki_NoneWaiting, by rw [ec_NotReady, ec_FE]; exact ki_NotReady⟩
  have TK : TopK K mg := ⟨kk_State, kk_Painter⟩
  refine ⟨PySem.W.fnOf "law" "law" (defArgs slaw) (defBody slaw) (defScope slaw) .none kV63 dc63 pm63 an63 cd63 ct63, fun s v => .of_eq rfl, fun base _ _ => law_of ?_⟩
  exact chain T TK TX   D1 D2 D3 D4 D5 D6 D7 D8 D9 D10 D11 D12 D13 D14 D15 D16 D17 D18 D19 D20 D21 D22 D23 D24 D25 D26 D27 D28 D29 D30 D31 D32 D33 D34 D35 D36 D37 D38 D39 D40 D41 D42 D43 D44 D45 D46 D47 D48 D49 D50 D51 D52 D53 D54 D55 D56 D57 D58 D59 D60 D61 D62 (fun_mk (st := slaw) l63 c63 k63)
theorem walk {l : PySem.W.OpenLaw} {q : Program} {loose : List Str} {XP : (Str → Option Value) → Heap → Prop} {YP : World → Heap → Prop} {d : DefRec} {K : Params → PySem.W.Frag} (hn : l.most = some 63) (hdf : d.params.defaults = [])
    (hY : ∀ (w : World) (h : Heap), YP w h → (K w.params).In h)
    (F : ∀ (w : World) (mg : Str → Option Value) (fa : Addr) (h : Heap), (K w.params).In h → h.Ns mainGlobals mg → mg d.name = some (.ref fa) →
      ∃ fd : FuncData, (∀ (s : Shared) (u : Value), BindsTo s fd ⟨[u], []⟩ [("_law_script", u)]) ∧ ∀ base : Heap, (K w.params).In base → base.Ns mainGlobals mg → FnOk l.prog w (K w.params) mg base CX0 24 fa fd ["_law_script"] (spLaw (K w.params))) :
    PySem.W.WalkO q loose XP YP l.row.toRowW d [] (fun f vs => PySem.call f vs) :=
  L2.walk_of (n := 63) (k := 24) (x := "_law_script") (CX := fun _ => CX0) (sp := fun w => spLaw (K w.params)) hn (by decide) hdf ⟨rfl, by decide, by decide⟩ hY F (fun _ _ a ns hl _ hS => ⟨a, ns, rfl, hS, hl, fun _ => rfl⟩) fun _ _ _ _ _ z => z
end Dv
open PySem PySem.W PyProof.Rows in
set_option maxRecDepth 100000 in
set_option maxHeartbeats 0 in
theorem PySem.Challenge.cw_asyncframes_k42_painters_alone_holds : PySem.Challenge.rw_asyncframes_k42_painters_alone.Holds := by
  w_on; o_law; k_head; (case hw => w_witness2)
  k_fill
  refine Dv.walk (l := PySem.Challenge.rw_asyncframes_k42_painters_alone) rfl rfl (fun w h Y => PySem.W.kIn_of Y) ?F
  case F =>
    intro w mg fa h KX G hmg
    refine' Dv.all_mk KX G hmg ?aC_State ?pg_State ?hdk_State ?po_State ?sa_State ?mk_State ?kc_State ?nf_State_number ?nf_State_document ?nf_State_base ?nf_State_held ?nf_State_included ?nf_State_painted ?aC_Painter ?pg_Painter ?hdk_Painter ?po_Painter ?sa_Painter ?mk_Painter ?kc_Painter ?nf_Painter_active ?nf_Painter_pending ?nf_Painter_moves ?nf_Painter_waiting ?a1 ?l1 ?c1 ?k1 ?a2 ?l2 ?c2 ?k2 ?a3 ?l3 ?c3 ?k3 ?a4 ?l4 ?c4 ?k4 ?a5 ?l5 ?c5 ?k5 ?a6 ?l6 ?c6 ?k6 ?a7 ?l7 ?c7 ?k7 ?a8 ?l8 ?c8 ?k8 ?a9 ?l9 ?c9 ?k9 ?a10 ?l10 ?c10 ?k10 ?a11 ?l11 ?c11 ?k11 ?a12 ?l12 ?c12 ?k12 ?a13 ?l13 ?c13 ?k13 ?a14 ?l14 ?c14 ?k14 ?a15 ?l15 ?c15 ?k15 ?a16 ?i16 ?l16 ?c16 ?k16 ?a17 ?i17 ?l17 ?c17 ?k17 ?a18 ?i18 ?l18 ?c18 ?k18 ?a19 ?i19 ?l19 ?c19 ?k19 ?a20 ?i20 ?l20 ?c20 ?k20 ?a21 ?i21 ?l21 ?c21 ?k21 ?a22 ?l22 ?c22 ?k22 ?a23 ?i23 ?l23 ?c23 ?k23 ?a24 ?i24 ?l24 ?c24 ?k24 ?a25 ?i25 ?l25 ?c25 ?k25 ?a26 ?i26 ?l26 ?c26 ?k26 ?a27 ?i27 ?l27 ?c27 ?k27 ?a28 ?i28 ?l28 ?c28 ?k28 ?a29 ?i29 ?l29 ?c29 ?k29 ?a30 ?i30 ?l30 ?c30 ?k30 ?a31 ?l31 ?c31 ?k31 ?a32 ?l32 ?c32 ?k32 ?a33 ?l33 ?c33 ?k33 ?a34 ?l34 ?c34 ?k34 ?a35 ?l35 ?c35 ?k35 ?a36 ?l36 ?c36 ?k36 ?a37 ?l37 ?c37 ?k37 ?a38 ?l38 ?c38 ?k38 ?a39 ?l39 ?c39 ?k39 ?a40 ?l40 ?c40 ?k40 ?a41 ?l41 ?c41 ?k41 ?a42 ?l42 ?c42 ?k42 ?a43 ?l43 ?c43 ?k43 ?a44 ?l44 ?c44 ?k44 ?a45 ?l45 ?c45 ?k45 ?a46 ?l46 ?c46 ?k46 ?a47 ?l47 ?c47 ?k47 ?a48 ?l48 ?c48 ?k48 ?a49 ?l49 ?c49 ?k49 ?a50 ?l50 ?c50 ?k50 ?a51 ?l51 ?c51 ?k51 ?a52 ?l52 ?c52 ?k52 ?a53 ?l53 ?c53 ?k53 ?a54 ?l54 ?c54 ?k54 ?a55 ?l55 ?c55 ?k55 ?a56 ?l56 ?c56 ?k56 ?a57 ?l57 ?c57 ?k57 ?a58 ?l58 ?c58 ?k58 ?a59 ?l59 ?c59 ?k59 ?a60 ?l60 ?c60 ?k60 ?a61 ?l61 ?c61 ?k61 ?a62 ?l62 ?c62 ?k62 ?a63 ?l63 ?c63 ?k63 ?aC_Busy ?xC_Busy ?kC_Busy ?sC_Busy ?tC_Busy ?dC_Busy ?aC_NoneWaiting ?xC_NoneWaiting ?kC_NoneWaiting ?sC_NoneWaiting ?tC_NoneWaiting ?dC_NoneWaiting ?aC_NotReady ?xC_NotReady ?kC_NotReady ?sC_NotReady ?tC_NotReady ?dC_NotReady ?aC_FE ?m_Busy_Busy ?m_NoneWaiting_Busy ?m_NoneWaiting_NoneWaiting ?m_NotReady_Busy ?m_NotReady_NoneWaiting ?m_NotReady_NotReady ?xg_Busy ?xk_Busy ?xa_Busy ?xm_Busy ?ki_Busy ?xg_NoneWaiting ?xk_NoneWaiting ?xa_NoneWaiting ?xm_NoneWaiting ?ki_NoneWaiting ?xg_NotReady ?xk_NotReady ?xa_NotReady ?xm_NotReady ?ki_NotReady ?xn ?xt ?z_sum ?z_max ?z_zip ?z_min ?z_dict ?z_tuple ?z_list ?z_len ?z_abs ?z_int ?z_isinstance ?z_str ?z_all ?z_bool ?z_range ?z_sorted ?z_any
    (case aC_State => k_is)
    (case pg_State => k_is)
    (case hdk_State => k_is)
    (case po_State => k_is)
    (case sa_State => k_is)
    (case mk_State => k_is)
    (case kc_State => k_is)
    (case nf_State_number => k_is)
    (case nf_State_document => k_is)
    (case nf_State_base => k_is)
    (case nf_State_held => k_is)
    (case nf_State_included => k_is)
    (case nf_State_painted => k_is)
    (case aC_Painter => k_is)
    (case pg_Painter => k_is)
    (case hdk_Painter => k_is)
    (case po_Painter => k_is)
    (case sa_Painter => k_is)
    (case mk_Painter => k_is)
    (case kc_Painter => k_is)
    (case nf_Painter_active => k_is)
    (case nf_Painter_pending => k_is)
    (case nf_Painter_moves => k_is)
    (case nf_Painter_waiting => k_is)
    (case a1 => k_is)
    (case l1 => k_is)
    (case c1 => k_is)
    (case k1 => k_is)
    (case a2 => k_is)
    (case l2 => k_is)
    (case c2 => k_is)
    (case k2 => k_is)
    (case a3 => k_is)
    (case l3 => k_is)
    (case c3 => k_is)
    (case k3 => k_is)
    (case a4 => k_is)
    (case l4 => k_is)
    (case c4 => k_is)
    (case k4 => k_is)
    (case a5 => k_is)
    (case l5 => k_is)
    (case c5 => k_is)
    (case k5 => k_is)
    (case a6 => k_is)
    (case l6 => k_is)
    (case c6 => k_is)
    (case k6 => k_is)
    (case a7 => k_is)
    (case l7 => k_is)
    (case c7 => k_is)
    (case k7 => k_is)
    (case a8 => k_is)
    (case l8 => k_is)
    (case c8 => k_is)
    (case k8 => k_is)
    (case a9 => k_is)
    (case l9 => k_is)
    (case c9 => k_is)
    (case k9 => k_is)
    (case a10 => k_is)
    (case l10 => k_is)
    (case c10 => k_is)
    (case k10 => k_is)
    (case a11 => k_is)
    (case l11 => k_is)
    (case c11 => k_is)
    (case k11 => k_is)
    (case a12 => k_is)
    (case l12 => k_is)
    (case c12 => k_is)
    (case k12 => k_is)
    (case a13 => k_is)
    (case l13 => k_is)
    (case c13 => k_is)
    (case k13 => k_is)
    (case a14 => k_is)
    (case l14 => k_is)
    (case c14 => k_is)
    (case k14 => k_is)
    (case a15 => k_is)
    (case l15 => k_is)
    (case c15 => k_is)
    (case k15 => k_is)
    (case a16 => k_is)
    (case i16 => k_is)
    (case l16 => k_is)
    (case c16 => k_is)
    (case k16 => k_is)
    (case a17 => k_is)
    (case i17 => k_is)
    (case l17 => k_is)
    (case c17 => k_is)
    (case k17 => k_is)
    (case a18 => k_is)
    (case i18 => k_is)
    (case l18 => k_is)
    (case c18 => k_is)
    (case k18 => k_is)
    (case a19 => k_is)
    (case i19 => k_is)
    (case l19 => k_is)
    (case c19 => k_is)
    (case k19 => k_is)
    (case a20 => k_is)
    (case i20 => k_is)
    (case l20 => k_is)
    (case c20 => k_is)
    (case k20 => k_is)
    (case a21 => k_is)
    (case i21 => k_is)
    (case l21 => k_is)
    (case c21 => k_is)
    (case k21 => k_is)
    (case a22 => k_is)
    (case l22 => k_is)
    (case c22 => k_is)
    (case k22 => k_is)
    (case a23 => k_is)
    (case i23 => k_is)
    (case l23 => k_is)
    (case c23 => k_is)
    (case k23 => k_is)
    (case a24 => k_is)
    (case i24 => k_is)
    (case l24 => k_is)
    (case c24 => k_is)
    (case k24 => k_is)
    (case a25 => k_is)
    (case i25 => k_is)
    (case l25 => k_is)
    (case c25 => k_is)
    (case k25 => k_is)
    (case a26 => k_is)
    (case i26 => k_is)
    (case l26 => k_is)
    (case c26 => k_is)
    (case k26 => k_is)
    (case a27 => k_is)
    (case i27 => k_is)
    (case l27 => k_is)
    (case c27 => k_is)
    (case k27 => k_is)
    (case a28 => k_is)
    (case i28 => k_is)
    (case l28 => k_is)
    (case c28 => k_is)
    (case k28 => k_is)
    (case a29 => k_is)
    (case i29 => k_is)
    (case l29 => k_is)
    (case c29 => k_is)
    (case k29 => k_is)
    (case a30 => k_is)
    (case i30 => k_is)
    (case l30 => k_is)
    (case c30 => k_is)
    (case k30 => k_is)
    (case a31 => k_is)
    (case l31 => k_is)
    (case c31 => k_is)
    (case k31 => k_is)
    (case a32 => k_is)
    (case l32 => k_is)
    (case c32 => k_is)
    (case k32 => k_is)
    (case a33 => k_is)
    (case l33 => k_is)
    (case c33 => k_is)
    (case k33 => k_is)
    (case a34 => k_is)
    (case l34 => k_is)
    (case c34 => k_is)
    (case k34 => k_is)
    (case a35 => k_is)
    (case l35 => k_is)
    (case c35 => k_is)
    (case k35 => k_is)
    (case a36 => k_is)
    (case l36 => k_is)
    (case c36 => k_is)
    (case k36 => k_is)
    (case a37 => k_is)
    (case l37 => k_is)
    (case c37 => k_is)
    (case k37 => k_is)
    (case a38 => k_is)
    (case l38 => k_is)
    (case c38 => k_is)
    (case k38 => k_is)
    (case a39 => k_is)
    (case l39 => k_is)
    (case c39 => k_is)
    (case k39 => k_is)
    (case a40 => k_is)
    (case l40 => k_is)
    (case c40 => k_is)
    (case k40 => k_is)
    (case a41 => k_is)
    (case l41 => k_is)
    (case c41 => k_is)
    (case k41 => k_is)
    (case a42 => k_is)
    (case l42 => k_is)
    (case c42 => k_is)
    (case k42 => k_is)
    (case a43 => k_is)
    (case l43 => k_is)
    (case c43 => k_is)
    (case k43 => k_is)
    (case a44 => k_is)
    (case l44 => k_is)
    (case c44 => k_is)
    (case k44 => k_is)
    (case a45 => k_is)
    (case l45 => k_is)
    (case c45 => k_is)
    (case k45 => k_is)
    (case a46 => k_is)
    (case l46 => k_is)
    (case c46 => k_is)
    (case k46 => k_is)
    (case a47 => k_is)
    (case l47 => k_is)
    (case c47 => k_is)
    (case k47 => k_is)
    (case a48 => k_is)
    (case l48 => k_is)
    (case c48 => k_is)
    (case k48 => k_is)
    (case a49 => k_is)
    (case l49 => k_is)
    (case c49 => k_is)
    (case k49 => k_is)
    (case a50 => k_is)
    (case l50 => k_is)
    (case c50 => k_is)
    (case k50 => k_is)
    (case a51 => k_is)
    (case l51 => k_is)
    (case c51 => k_is)
    (case k51 => k_is)
    (case a52 => k_is)
    (case l52 => k_is)
    (case c52 => k_is)
    (case k52 => k_is)
    (case a53 => k_is)
    (case l53 => k_is)
    (case c53 => k_is)
    (case k53 => k_is)
    (case a54 => k_is)
    (case l54 => k_is)
    (case c54 => k_is)
    (case k54 => k_is)
    (case a55 => k_is)
    (case l55 => k_is)
    (case c55 => k_is)
    (case k55 => k_is)
    (case a56 => k_is)
    (case l56 => k_is)
    (case c56 => k_is)
    (case k56 => k_is)
    (case a57 => k_is)
    (case l57 => k_is)
    (case c57 => k_is)
    (case k57 => k_is)
    (case a58 => k_is)
    (case l58 => k_is)
    (case c58 => k_is)
    (case k58 => k_is)
    (case a59 => k_is)
    (case l59 => k_is)
    (case c59 => k_is)
    (case k59 => k_is)
    (case a60 => k_is)
    (case l60 => k_is)
    (case c60 => k_is)
    (case k60 => k_is)
    (case a61 => k_is)
    (case l61 => k_is)
    (case c61 => k_is)
    (case k61 => k_is)
    (case a62 => k_is)
    (case l62 => k_is)
    (case c62 => k_is)
    (case k62 => k_is)
    (case a63 => k_is)
    (case l63 => k_is)
    (case c63 => k_is)
    (case k63 => k_is)
    (case aC_Busy => k_is)
    (case xC_Busy => k_exc)
    (case kC_Busy => k_is)
    (case sC_Busy => k_is)
    (case tC_Busy => k_is)
    (case dC_Busy => k_is)
    (case aC_NoneWaiting => k_is)
    (case xC_NoneWaiting => k_exc)
    (case kC_NoneWaiting => k_is)
    (case sC_NoneWaiting => k_is)
    (case tC_NoneWaiting => k_is)
    (case dC_NoneWaiting => k_is)
    (case aC_NotReady => k_is)
    (case xC_NotReady => k_exc)
    (case kC_NotReady => k_is)
    (case sC_NotReady => k_is)
    (case tC_NotReady => k_is)
    (case dC_NotReady => k_is)
    (case aC_FE => k_is)
    (case m_Busy_Busy => k_is)
    (case m_NoneWaiting_Busy => k_is)
    (case m_NoneWaiting_NoneWaiting => k_is)
    (case m_NotReady_Busy => k_is)
    (case m_NotReady_NoneWaiting => k_is)
    (case m_NotReady_NotReady => k_is)
    (case xg_Busy => k_is)
    (case xk_Busy => k_is)
    (case xa_Busy => k_is)
    (case xm_Busy => k_is)
    (case ki_Busy => kernel_rfl)
    (case xg_NoneWaiting => k_is)
    (case xk_NoneWaiting => k_is)
    (case xa_NoneWaiting => k_is)
    (case xm_NoneWaiting => k_is)
    (case ki_NoneWaiting => kernel_rfl)
    (case xg_NotReady => k_is)
    (case xk_NotReady => k_is)
    (case xa_NotReady => k_is)
    (case xm_NotReady => k_is)
    (case ki_NotReady => kernel_rfl)
    (case xn => k_is)
    (case xt => k_is)
    (case z_sum => k_is)
    (case z_max => k_is)
    (case z_zip => k_is)
    (case z_min => k_is)
    (case z_dict => k_is)
    (case z_tuple => k_is)
    (case z_list => k_is)
    (case z_len => k_is)
    (case z_abs => k_is)
    (case z_int => k_is)
    (case z_isinstance => k_is)
    (case z_str => k_is)
    (case z_all => k_is)
    (case z_bool => k_is)
    (case z_range => k_is)
    (case z_sorted => k_is)
    (case z_any => k_is)
#print axioms PySem.Challenge.cw_asyncframes_k42_painters_alone_holds

