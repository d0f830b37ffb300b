import PyProof.Rows.All
import Wide.All
import OpenK.AllK
import Wide.FinOn
import HandS.ForMost
import HandS.Exc
import HandS.TryOnly
import HandS.ExcOwn
import HandS.WordsExc
import HandS.TupAny
import HandS.Walk
import HandS.IsInst
import HandS.Conv
import HandS.Zip
import HandS.DictComp
import HandS.More
import HandS.SortInts
import HandS.Star
import HandS.Style
import HandS.Lambda
import HandS.TryMany
import PyProof.StrOps2
import HandS.Text
import HandS.FStr
import KE.IntTextLaws
import KE.KIntText
import HandS.Nested
import HandS.ExcIs
import HandS.EndBits
import HandS.EndTab
import HandS.EndOwn
import KE.KNest
import KE.KNestM
import HandS.Flow
import HandS.Small
import KE.KIsAll
import KE.KTryMore
import HandS.ExcInit
import HandS.ExcField
import KE.KExcStr
import HandS.ExcCtx
import HandS.RaiseMore
import PySem.Challenge.RW_asyncframes_k03_errors_of_documents
set_option Elab.async false
set_option linter.all false
set_option maxRecDepth 100000
set_option maxHeartbeats 1000000
/-! Deep values over the hand layer. D: a Python value as a whole (frozen data), .ref a: a mutable cell by its address.
    B: the frozen part of the heap, C: the cells (mutable), F: a frame that is kept as it is. -/
namespace Dv
open PySem L2

/-- the text of a lambda: the names that it captures, in an order -/
structure LamT where
  qual : Str
  params : Arguments
  body : Expr
  scope : Scope
  fr : List Str
/-- an object that stays just as it is -/
def PinO (a : Addr) (o : Obj) : HO := .ext fun h => h.get? a = some o
/-- the function of a lambda at a, its cells holding vs -/
structure FnAt (B : Hp) (a : Addr) (L : LamT) (vs : List V) : Prop where
  ex : ∃ (cl : List (Str × Addr)) (pm ctv : Value) (c : Addr), B a = some (PinO a (PySem.W.kla_obj "<lambda>" L.qual L.params L.body L.scope cl pm c ctv)) ∧ B c = some (LamX.CodeO c L.qual) ∧ vs.length = L.fr.length ∧
    (∀ y d, cl.lookup y = some d → ∃ o v, B d = some (PinO d o) ∧ o.data = .cell v) ∧ (∀ x y d, cl.lookup x = some d → cl.lookup y = some d → x = y) ∧
    ∀ (i : Nat) (y : Str), L.fr[i]? = some y → ∃ d o v u, cl.lookup y = some d ∧ B d = some (PinO d o) ∧ o.data = .cell (some u) ∧ vs[i]? = some v ∧ RelV v u
theorem FnAt.mono {B B' : Hp} {a : Addr} {L : LamT} {vs : List V} (h : FnAt B a L vs) (e : Same B B') : FnAt B' a L vs := by
  obtain ⟨cl, pm, ctv, c, h1, h2, h3, h4, h5, h6⟩ := h.ex
  refine ⟨cl, pm, ctv, c, e _ _ h1, e _ _ h2, h3, fun y d hd => ?_, h5, fun i y hy => ?_⟩
  · obtain ⟨o, v, g1, g2⟩ := h4 y d hd
    exact ⟨o, v, e _ _ g1, g2⟩
  · obtain ⟨d, o, v, u, g1, g2, g3, g4, g5⟩ := h6 i y hy
    exact ⟨d, o, v, u, g1, e _ _ g2, g3, g4, g5⟩
inductive D where
  | fn (L : LamT) (cap : List D)
  | non | bl (b : Bool) | int (i : Int) | str (x : Str) | ref (a : Addr) | ty (n : String)
  | tup (l : List D) | lst (l : List D) | dic (l : List (Int × D))
  /-- a dict that is read alone, one that is locked -/
  | dicR (l : List (Int × D)) | dicL (o : Obj) (l : List (Int × D))

mutual
inductive Rep (B : Hp) : V → D → Prop
  | non : Rep B .non .non
  | bl {b} : Rep B (.bl b) (.bl b)
  | int {i} : Rep B (.int i) (.int i)
  | str {x} : Rep B (.str x) (.str x)
  | ref {a} : Rep B (.ref a) (.ref a)
  | ty {n} : Rep B (.ty n) (.ty n)
  | tup {a vs ds} : B a = some (.tup vs) → Reps B vs ds → Rep B (.ref a) (.tup ds)
  | lst {a vs ds} : B a = some (.lst vs) → Reps B vs ds → Rep B (.ref a) (.lst ds)
  | dic {a vs ds} : B a = some (.dK vs) → RepK B vs ds → Rep B (.ref a) (.dic ds)
  | dicR {a vs ds} : Rd B a (.dK vs) → RepK B vs ds → Rep B (.ref a) (.dicR ds)
  | dicL {a o vs ds} : B a = some (.frz o (.dK vs)) → RepK B vs ds → Rep B (.ref a) (.dicL o ds)
  | fn {a L vs ds} : FnAt B a L vs → Reps B vs ds → Rep B (.ref a) (.fn L ds)
inductive Reps (B : Hp) : List V → List D → Prop
  | nil : Reps B [] []
  | cons {v d vs ds} : Rep B v d → Reps B vs ds → Reps B (v :: vs) (d :: ds)
inductive RepK (B : Hp) : List (Key × V) → List (Int × D) → Prop
  | nil : RepK B [] []
  | cons {k v d vs ds} : Rep B v d → RepK B vs ds → RepK B ((Sum.inl k, v) :: vs) ((k, d) :: ds)
end

inductive RepF (B : Hp) : List (Str × V) → List (Str × D) → Prop
  | nil : RepF B [] []
  | cons {k v d vs ds} : Rep B v d → RepF B vs ds → RepF B ((k, v) :: vs) ((k, d) :: ds)

mutual
theorem Rep.mono {B B' : Hp} (e : Same B B') : ∀ {v d}, Rep B v d → Rep B' v d
  | _, _, .non => .non
  | _, _, .bl => .bl
  | _, _, .int => .int
  | _, _, .str => .str
  | _, _, .ref => .ref
  | _, _, .ty => .ty
  | _, _, .fn h r => .fn (h.mono e) (Reps.mono e r)
  | _, _, .tup h r => .tup (e _ _ h) (Reps.mono e r)
  | _, _, .lst h r => .lst (e _ _ h) (Reps.mono e r)
  | _, _, .dic h r => .dic (e _ _ h) (RepK.mono e r)
  | _, _, .dicR h r => .dicR (h.elim (fun z => .inl (e _ _ z)) fun ⟨o, z⟩ => .inr ⟨o, e _ _ z⟩) (RepK.mono e r)
  | _, _, .dicL h r => .dicL (e _ _ h) (RepK.mono e r)
theorem Reps.mono {B B' : Hp} (e : Same B B') : ∀ {vs ds}, Reps B vs ds → Reps B' vs ds
  | _, _, .nil => .nil
  | _, _, .cons h r => .cons (Rep.mono e h) (Reps.mono e r)
theorem RepK.mono {B B' : Hp} (e : Same B B') : ∀ {vs ds}, RepK B vs ds → RepK B' vs ds
  | _, _, .nil => .nil
  | _, _, .cons h r => .cons (Rep.mono e h) (RepK.mono e r)
end
theorem RepF.mono {B B' : Hp} (e : Same B B') {vs ds} (h : RepF B vs ds) : RepF B' vs ds := by
  induction h with
  | nil => exact .nil
  | cons h _ ih => exact .cons (h.mono e) ih

theorem Reps.length {B : Hp} : ∀ {vs ds}, Reps B vs ds → vs.length = ds.length
  | _, _, .nil => rfl
  | _, _, .cons _ r => by rw [List.length_cons, List.length_cons, Reps.length r]
theorem Reps.get {B : Hp} : ∀ {vs ds} {i : Nat} {d : D}, Reps B vs ds → ds[i]? = some d → ∃ v, vs[i]? = some v ∧ Rep B v d
  | _, _, _, _, .nil, e => by simp at e
  | _, _, 0, _, .cons h _, e => by simp at e; subst e; exact ⟨_, rfl, h⟩
  | _, _, i + 1, d, .cons _ r, e => by
    obtain ⟨v, h1, h2⟩ := Reps.get (i := i) (d := d) r (by simpa using e)
    exact ⟨v, by simpa using h1, h2⟩
theorem Reps.getV {B : Hp} : ∀ {vs ds} {i : Nat} {v : V}, Reps B vs ds → vs[i]? = some v → ∃ d, ds[i]? = some d ∧ Rep B v d
  | _, _, _, _, .nil, e => by simp at e
  | _, _, 0, _, .cons h _, e => by simp at e; subst e; exact ⟨_, rfl, h⟩
  | _, _, i + 1, v, .cons _ r, e => by
    obtain ⟨d, h1, h2⟩ := Reps.getV (i := i) (v := v) r (by simpa using e)
    exact ⟨d, by simpa using h1, h2⟩
theorem Reps.append {B : Hp} : ∀ {vs ds ws es}, Reps B vs ds → Reps B ws es → Reps B (vs ++ ws) (ds ++ es)
  | _, _, _, _, .nil, s => s
  | _, _, _, _, .cons h r, s => .cons h (Reps.append r s)
theorem Reps.take {B : Hp} : ∀ {vs ds} (n : Nat), Reps B vs ds → Reps B (vs.take n) (ds.take n)
  | _, _, 0, _ => .nil
  | _, _, _ + 1, .nil => .nil
  | _, _, n + 1, .cons h r => .cons h (Reps.take n r)
theorem Reps.drop {B : Hp} : ∀ {vs ds} (n : Nat), Reps B vs ds → Reps B (vs.drop n) (ds.drop n)
  | _, _, 0, r => r
  | _, _, _ + 1, .nil => .nil
  | _, _, n + 1, .cons _ r => Reps.drop n r
theorem Reps.set {B : Hp} {v d} (h : Rep B v d) : ∀ {vs ds} (i : Nat), Reps B vs ds → Reps B (vs.set i v) (ds.set i d)
  | _, _, _, .nil => .nil
  | _, _, 0, .cons _ r => .cons h r
  | _, _, i + 1, .cons q r => .cons q (Reps.set h i r)
theorem Reps.one {B : Hp} {v d} (h : Rep B v d) : Reps B [v] [d] := .cons h .nil
theorem Reps.ints {B : Hp} : ∀ {ns : List Int} {vs}, Reps B vs (ns.map D.int) → vs = ns.map V.int
  | [], _, .nil => rfl
  | _ :: _, _, .cons h r => by
    cases h
    rw [Reps.ints r]
    rfl
theorem Reps.ofInts {B : Hp} : ∀ (ns : List Int), Reps B (ns.map V.int) (ns.map D.int)
  | [] => .nil
  | _ :: r => .cons .int (Reps.ofInts r)
theorem Reps.bls {B : Hp} : ∀ {ns : List Bool} {vs}, Reps B vs (ns.map D.bl) → vs = ns.map V.bl
  | [], _, .nil => rfl
  | _ :: _, _, .cons h r => by
    cases h
    rw [Reps.bls r]
    rfl
theorem Reps.strs {B : Hp} : ∀ {ns : List Str} {vs}, Reps B vs (ns.map D.str) → vs = ns.map V.str
  | [], _, .nil => rfl
  | _ :: _, _, .cons h r => by
    cases h
    rw [Reps.strs r]
    rfl

/-! ### cells -/
inductive Cell where
  | lst (l : List D) | dic (l : List (Int × D)) | ins (c : Addr) (fs : List (Str × D))
  /-- a def's table of code objects -/
  | tab (q : Str)
  /-- a dict with texts as keys -/
  | tdic (fs : List (Str × D))
  | ldic (o : Obj) (vs : List (Key × V)) (l : List (Int × D))
abbrev CH := Addr → Option Cell
def updC (C : CH) (a : Addr) (c : Cell) : CH := fun b => if b = a then some c else C b
def delC (C : CH) (a : Addr) : CH := fun b => if b = a then none else C b
theorem updC_same {C : CH} {a : Addr} {c : Cell} : updC C a c a = some c := by unfold updC; rw [if_pos rfl]
theorem updC_ne {C : CH} {a b : Addr} {c : Cell} (h : b ≠ a) : updC C a c b = C b := by unfold updC; rw [if_neg h]
theorem updC_updC {C : CH} {a : Addr} {c c' : Cell} : updC (updC C a c) a c' = updC C a c' := by
  funext b
  unfold updC
  by_cases h : b = a
  · simp [h]
  · simp [h]
theorem delC_updC {C : CH} {a : Addr} {c : Cell} (h : C a = none) : delC (updC C a c) a = C := by
  funext b
  unfold delC updC
  by_cases e : b = a
  · subst e; simp [h]
  · simp [e]
inductive RepO (B : Hp) : HO → Cell → Prop
  | lst {vs ds} : Reps B vs ds → RepO B (.lst vs) (.lst ds)
  | dic {vs ds} : RepK B vs ds → RepO B (.dK vs) (.dic ds)
  | ins {c dx fs gs} : RepF B fs gs → RepO B (.ins c dx fs) (.ins c gs)
  | tab {ps : Array Value} {q : Str} : TriplesOk ps.toList → (∀ (pos : Pos) (cv : Value), codeAmong pos ps.toList = some cv → ∃ c, cv = .ref c ∧ B c = some (LamX.CodeO c q)) → RepO B (.tbl ps) (.tab q)
  | tdic {fs : List (Str × V)} {gs : List (Str × D)} : RepF B fs gs → RepO B (.dK (fs.map fun p => (Sum.inr p.1, p.2))) (.tdic gs)
  | ldic {o : Obj} {vs : List (Key × V)} {l : List (Int × D)} : RepK B vs l → RepO B (.frz o (.dK vs)) (.ldic o vs l)
def keyT (fs : List (Str × V)) : List (Key × V) := fs.map fun p => (Sum.inr p.1, p.2)
theorem RepO.mono {B B' : Hp} (e : Same B B') {o c} (h : RepO B o c) : RepO B' o c := by
  cases h with
  | lst r => exact .lst (r.mono e)
  | dic r => exact .dic (r.mono e)
  | ins r => exact .ins (r.mono e)
  | tdic r => exact .tdic (r.mono e)
  | ldic r => exact .ldic (r.mono e)
  | tab h k => exact .tab h fun pos cv hc => (k pos cv hc).elim fun c ⟨h1, h2⟩ => ⟨c, h1, e _ _ h2⟩

structure Rel (B : Hp) (C : CH) (F H : Hp) : Prop where
  ex : Same B H
  fr : Same F H
  bf : ∀ a o, F a = some o → B a = none
  cf : ∀ a o, F a = some o → C a = none
  bc : ∀ a c, C a = some c → B a = none
  own : ∀ a c, C a = some c → ∃ o, H a = some o ∧ RepO B o c

theorem same_upd {B : Hp} {p : Addr} {o : HO} (h : B p = none) : Same B (upd B p o) := fun b u q => by
  rw [upd_ne (ne_of_none q h)]; exact q
section
variable {B F H : Hp} {C : CH} {p a : Addr} {o : HO} {c : Cell}
theorem Rel.noB (r : Rel B C F H) (h : H p = none) : B p = none := r.ex.free h
theorem Rel.noC (r : Rel B C F H) (h : H p = none) : C p = none := by
  cases e : C p with
  | none => rfl
  | some c =>
    obtain ⟨o, h1, _⟩ := r.own p c e
    rw [h] at h1
    cases h1
theorem Rel.noF (r : Rel B C F H) (h : H p = none) : F p = none := r.fr.free h
theorem Rel.new (r : Rel B C F H) (h : H p = none) : Rel (upd B p o) C F (upd H p o) where
  ex := fun b u q => by
    by_cases e : b = p
    · subst e; rw [upd_same] at q ⊢; exact q
    · rw [upd_ne e] at q ⊢; exact r.ex b u q
  fr := fun b u q => by
    rw [upd_ne (ne_of_none (r.fr b u q) h)]; exact r.fr b u q
  bf := fun b u q => by
    rw [upd_ne (ne_of_none q (r.noF h))]; exact r.bf b u q
  cf := r.cf
  bc := fun b u q => by
    have n : b ≠ p := fun e => by subst e; rw [r.noC h] at q; cases q
    rw [upd_ne n]; exact r.bc b u q
  own := fun b u q => by
    obtain ⟨o', h1, h2⟩ := r.own b u q
    exact ⟨o', by rw [upd_ne (ne_of_none h1 h)]; exact h1, h2.mono (same_upd (r.noB h))⟩
theorem Rel.newC (r : Rel B C F H) (h : H p = none) (k : RepO B o c) : Rel B (updC C p c) F (upd H p o) where
  ex := fun b u q => by rw [upd_ne (ne_of_none (r.ex b u q) h)]; exact r.ex b u q
  fr := fun b u q => by rw [upd_ne (ne_of_none (r.fr b u q) h)]; exact r.fr b u q
  bf := r.bf
  cf := fun b u q => by rw [updC_ne (ne_of_none q (r.noF h))]; exact r.cf b u q
  bc := fun b u q => by
    by_cases e : b = p
    · subst e; exact r.noB h
    · rw [updC_ne e] at q; exact r.bc b u q
  own := fun b u q => by
    by_cases e : b = p
    · subst e; rw [updC_same] at q; cases q; exact ⟨o, upd_same, k⟩
    · rw [updC_ne e] at q
      obtain ⟨o', h1, h2⟩ := r.own b u q
      exact ⟨o', by rw [upd_ne e]; exact h1, h2⟩
theorem Rel.write (r : Rel B C F H) {c0 : Cell} (h : C a = some c0) (k : RepO B o c) : Rel B (updC C a c) F (upd H a o) where
  ex := fun b u q => by
    have n : b ≠ a := fun e => by subst e; rw [r.bc b _ h] at q; cases q
    rw [upd_ne n]; exact r.ex b u q
  fr := fun b u q => by
    have n : b ≠ a := fun e => by subst e; rw [r.cf b _ q] at h; cases h
    rw [upd_ne n]; exact r.fr b u q
  bf := r.bf
  cf := fun b u q => by
    have n : b ≠ a := fun e => by subst e; rw [r.cf b _ q] at h; cases h
    rw [updC_ne n]; exact r.cf b u q
  bc := fun b u q => by
    by_cases e : b = a
    · subst e; exact r.bc b _ h
    · rw [updC_ne e] at q; exact r.bc b u q
  own := fun b u q => by
    by_cases e : b = a
    · subst e; rw [updC_same] at q; cases q; exact ⟨o, upd_same, k⟩
    · rw [updC_ne e] at q
      obtain ⟨o', h1, h2⟩ := r.own b u q
      exact ⟨o', by rw [upd_ne e]; exact h1, h2⟩
theorem Rel.freeze (r : Rel B C F H) (h : C a = some c) (k : H a = some o) : Rel (upd B a o) (delC C a) F H where
  ex := fun b u q => by
    by_cases e : b = a
    · subst e; rw [upd_same] at q; cases q; exact k
    · rw [upd_ne e] at q; exact r.ex b u q
  fr := r.fr
  bf := fun b u q => by
    have n : b ≠ a := fun e => by subst e; rw [r.cf b _ q] at h; cases h
    rw [upd_ne n]; exact r.bf b u q
  cf := fun b u q => by
    unfold delC
    split
    · rfl
    · exact r.cf b u q
  bc := fun b u q => by
    unfold delC at q
    split at q
    · cases q
    · rename_i n
      rw [upd_ne n]; exact r.bc b u q
  own := fun b u q => by
    unfold delC at q
    split at q
    · cases q
    · obtain ⟨o', h1, h2⟩ := r.own b u q
      exact ⟨o', h1, h2.mono (same_upd (r.bc a c h))⟩
/-- a cell that is not to be touched goes into the frame -/
theorem Rel.hide (r : Rel B C F H) (h : C a = some c) (k : H a = some o) : Rel B (delC C a) (upd F a o) H where
  ex := r.ex
  fr := fun b u q => by
    by_cases e : b = a
    · subst e; rw [upd_same] at q; cases q; exact k
    · rw [upd_ne e] at q; exact r.fr b u q
  bf := fun b u q => by
    by_cases e : b = a
    · subst e; exact r.bc b _ h
    · rw [upd_ne e] at q; exact r.bf b u q
  cf := fun b u q => by
    unfold delC
    by_cases e : b = a
    · rw [if_pos e]
    · rw [if_neg e]; rw [upd_ne e] at q; exact r.cf b u q
  bc := fun b u q => by
    unfold delC at q
    split at q
    · cases q
    · exact r.bc b u q
  own := fun b u q => by
    unfold delC at q
    split at q
    · cases q
    · exact r.own b u q
/-- a new object straight into the frame -/
theorem Rel.newF (r : Rel B C F H) (h : H p = none) : Rel B C (upd F p o) (upd H p o) where
  ex := fun b u q => by rw [upd_ne (ne_of_none (r.ex b u q) h)]; exact r.ex b u q
  fr := fun b u q => by
    by_cases e : b = p
    · subst e; rw [upd_same] at q ⊢; exact q
    · rw [upd_ne e] at q ⊢; exact r.fr b u q
  bf := fun b u q => by
    by_cases e : b = p
    · subst e; exact r.noB h
    · rw [upd_ne e] at q; exact r.bf b u q
  cf := fun b u q => by
    by_cases e : b = p
    · subst e; exact r.noC h
    · rw [upd_ne e] at q; exact r.cf b u q
  bc := r.bc
  own := fun b u q => by
    obtain ⟨o', h1, h2⟩ := r.own b u q
    exact ⟨o', by rw [upd_ne (ne_of_none h1 h)]; exact h1, h2⟩
/-- the frame's object at p changes -/
theorem Rel.writeF {o' : HO} (r : Rel B C (upd F p o) H) : Rel B C (upd F p o') (upd H p o') where
  ex := fun b u q => by
    have n : b ≠ p := fun e => by subst e; rw [r.bf b _ upd_same] at q; cases q
    rw [upd_ne n]; exact r.ex b u q
  fr := fun b u q => by
    by_cases e : b = p
    · subst e; rw [upd_same] at q ⊢; exact q
    · rw [upd_ne e] at q ⊢; exact r.fr b u (by rw [upd_ne e]; exact q)
  bf := fun b u q => by
    by_cases e : b = p
    · subst e; exact r.bf b _ upd_same
    · rw [upd_ne e] at q; exact r.bf b u (by rw [upd_ne e]; exact q)
  cf := fun b u q => by
    by_cases e : b = p
    · subst e; exact r.cf b _ upd_same
    · rw [upd_ne e] at q; exact r.cf b u (by rw [upd_ne e]; exact q)
  bc := r.bc
  own := fun b u q => by
    obtain ⟨o2, h1, h2⟩ := r.own b u q
    have n : b ≠ p := fun e => by subst e; rw [r.cf b _ upd_same] at q; cases q
    exact ⟨o2, by rw [upd_ne n]; exact h1, h2⟩
/-- the frame's object at p (new since F) is frozen -/
theorem Rel.freezeF (r : Rel B C (upd F p o) H) (hF : F p = none) : Rel (upd B p o) C F H where
  ex := fun b u q => by
    by_cases e : b = p
    · subst e; rw [upd_same] at q; cases q; exact r.fr b _ upd_same
    · rw [upd_ne e] at q; exact r.ex b u q
  fr := fun b u q => r.fr b u (by rw [upd_ne (ne_of_none q hF)]; exact q)
  bf := fun b u q => by
    have n := ne_of_none q hF
    rw [upd_ne n]; exact r.bf b u (by rw [upd_ne n]; exact q)
  cf := fun b u q => r.cf b u (by rw [upd_ne (ne_of_none q hF)]; exact q)
  bc := fun b u q => by
    have n : b ≠ p := fun e => by subst e; rw [r.cf b _ upd_same] at q; cases q
    rw [upd_ne n]; exact r.bc b u q
  own := fun b u q => by
    obtain ⟨o2, h1, h2⟩ := r.own b u q
    exact ⟨o2, h1, h2.mono (same_upd (r.bf p _ upd_same))⟩
/-- the frame's object at p (new since F) becomes a cell -/
theorem Rel.cellF (r : Rel B C (upd F p o) H) (hF : F p = none) (k : RepO B o c) : Rel B (updC C p c) F H where
  ex := r.ex
  fr := fun b u q => r.fr b u (by rw [upd_ne (ne_of_none q hF)]; exact q)
  bf := fun b u q => r.bf b u (by rw [upd_ne (ne_of_none q hF)]; exact q)
  cf := fun b u q => by
    have n := ne_of_none q hF
    rw [updC_ne n]; exact r.cf b u (by rw [upd_ne n]; exact q)
  bc := fun b u q => by
    by_cases e : b = p
    · subst e; exact r.bf b _ upd_same
    · rw [updC_ne e] at q; exact r.bc b u q
  own := fun b u q => by
    by_cases e : b = p
    · subst e; rw [updC_same] at q; cases q; exact ⟨o, r.fr b _ upd_same, k⟩
    · rw [updC_ne e] at q; exact r.own b u q
end

/-! ### the slots -/
abbrev EnvD := List (Option D)
structure RelE (B : Hp) (σ : St) (E : EnvD) : Prop where
  len : σ.length = E.length
  get : ∀ (i : Nat) (d : D), E[i]? = some (some d) → ∃ v, σ[i]? = some (some v) ∧ Rep B v d
theorem RelE.mono {B B' : Hp} {σ : St} {E : EnvD} (e : Same B B') (r : RelE B σ E) : RelE B' σ E :=
  ⟨r.len, fun i d h => by obtain ⟨v, h1, h2⟩ := r.get i d h; exact ⟨v, h1, h2.mono e⟩⟩
theorem RelE.set {B : Hp} {σ : St} {E : EnvD} {v : V} {d : D} (r : RelE B σ E) (i : Nat) (h : Rep B v d) : RelE B (σ.set i (some v)) (E.set i (some d)) := by
  refine ⟨by rw [List.length_set, List.length_set, r.len], fun j x e => ?_⟩
  by_cases ij : i = j
  · subst ij
    by_cases hl : i < E.length
    · rw [List.getElem?_set_self hl] at e
      cases e
      exact ⟨v, List.getElem?_set_self (by rw [r.len]; exact hl), h⟩
    · rw [List.getElem?_eq_none (by rw [List.length_set]; omega)] at e
      cases e
  · rw [List.getElem?_set_ne ij] at e ⊢
    exact r.get j x e
theorem RelE.unset {B : Hp} {σ : St} {E : EnvD} (r : RelE B σ E) (i : Nat) : RelE B (σ.set i none) (E.set i none) := by
  refine ⟨by rw [List.length_set, List.length_set, r.len], fun j x e => ?_⟩
  by_cases ij : i = j
  · subst ij
    by_cases hl : i < E.length
    · rw [List.getElem?_set_self hl] at e; cases e
    · rw [List.getElem?_eq_none (by rw [List.length_set]; omega)] at e; cases e
  · rw [List.getElem?_set_ne ij] at e ⊢
    exact r.get j x e
/-- fewer slots told -/
theorem RelE.less {B : Hp} {σ : St} {E E' : EnvD} (r : RelE B σ E) (hl : E'.length = E.length) (h : ∀ (i : Nat) (d : D), E'[i]? = some (some d) → E[i]? = some (some d)) : RelE B σ E' :=
  ⟨by rw [r.len, hl], fun i d e => r.get i d (h i d e)⟩
def startD (n : Nat) (ds : List D) : EnvD := ds.map some ++ List.replicate (n - ds.length) none
theorem RelE.begin {B : Hp} {N : List Str} {vs : List V} {ds : List D} (h : Reps B vs ds) : RelE B (L2.start N vs) (startD N.length ds) := by
  have hl := h.length
  refine ⟨by simp [L2.start, startD, hl], fun i d e => ?_⟩
  unfold startD at e
  unfold L2.start
  by_cases hi : i < ds.length
  · rw [List.getElem?_append_left (by simpa using hi), List.getElem?_map] at e
    cases q : ds[i]? with
    | none => rw [q] at e; cases e
    | some x =>
      rw [q] at e
      have ex : x = d := by simpa using e
      subst ex
      obtain ⟨v, h1, h2⟩ := h.get q
      exact ⟨v, by rw [List.getElem?_append_left (by simpa [hl] using hi), List.getElem?_map, h1]; rfl, h2⟩
  · rw [List.getElem?_append_right (by simp; omega), List.getElem?_replicate] at e
    split at e <;> cases e

/-! ### the judgements -/
/-- the ground: what is frozen already, and what of others must stand -/
structure Gr where
  b : Hp
  f : Hp
def Sb (g : Gr) (B F : Hp) : Prop := Same g.b B ∧ Same g.f F
theorem Sb.trans {g : Gr} {B B' F : Hp} (h : Sb g B F) (e : Same B B') : Sb g B' F := ⟨h.1.trans e, h.2⟩
theorem Sb.grow {g : Gr} {B F F' : Hp} (h : Sb g B F) (e : Same F F') : Sb g B F' := ⟨h.1, h.2.trans e⟩
theorem Sb.refl (B F : Hp) : Sb ⟨B, F⟩ B F := ⟨Same.refl B, Same.refl F⟩
theorem Rel.less {B F F' H : Hp} {C : CH} (r : Rel B C F' H) (s : Same F F') : Rel B C F H := ⟨r.ex, s.trans r.fr, fun a o h => r.bf a o (s a o h), fun a o h => r.cf a o (s a o h), r.bc, r.own⟩
def W (B0 : Gr) (te : TE) (E : EnvD) (C : CH) (P : D → CH → Prop) : Prop :=
  ∀ (B F : Hp) (σ : St) (H : Hp), Sb B0 B F → Rel B C F H → RelE B σ E → ∀ Q : VK,
    (∀ v d B' C' H', Same B B' → Rel B' C' F H' → Rep B' v d → P d C' → Q v H') → te σ H Q
def WT (B0 : Gr) (tt : TT) (E : EnvD) (C : CH) (P : Bool → CH → Prop) : Prop :=
  ∀ (B F : Hp) (σ : St) (H : Hp), Sb B0 B F → Rel B C F H → RelE B σ E → ∀ Q : Bool → Hp → Prop,
    (∀ b B' C' H', Same B B' → Rel B' C' F H' → P b C' → Q b H') → tt σ H Q
def WA (B0 : Gr) (ta : TA) (E : EnvD) (C : CH) (P : List D → CH → Prop) : Prop :=
  ∀ (B F : Hp) (σ : St) (H : Hp), Sb B0 B F → Rel B C F H → RelE B σ E → ∀ Q : List V → Hp → Prop,
    (∀ vs ds B' C' H', Same B B' → Rel B' C' F H' → Reps B' vs ds → P ds C' → Q vs H') → ta σ H Q
def WR (B0 : Gr) (r : R2) (x y : D) (C : CH) (P : D → CH → Prop) : Prop :=
  ∀ (B F H : Hp) (vx vy : V), Sb B0 B F → Rel B C F H → Rep B vx x → Rep B vy y → ∀ Q : VK,
    (∀ v d B' C' H', Same B B' → Rel B' C' F H' → Rep B' v d → P d C' → Q v H') → r vx vy H Q
def WU (B0 : Gr) (r : V → Hp → VK → Prop) (x : D) (C : CH) (P : D → CH → Prop) : Prop :=
  ∀ (B F H : Hp) (vx : V), Sb B0 B F → Rel B C F H → Rep B vx x → ∀ Q : VK,
    (∀ v d B' C' H', Same B B' → Rel B' C' F H' → Rep B' v d → P d C' → Q v H') → r vx H Q
def WC (B0 : Gr) (r : List V → Hp → VK → Prop) (ds : List D) (C : CH) (P : D → CH → Prop) : Prop :=
  ∀ (B F H : Hp) (vs : List V), Sb B0 B F → Rel B C F H → Reps B vs ds → ∀ Q : VK,
    (∀ v d B' C' H', Same B B' → Rel B' C' F H' → Rep B' v d → P d C' → Q v H') → r vs H Q
def WG (B0 : Gr) (g : TG) (d : D) (E : EnvD) (C : CH) (N : EnvD → CH → Prop) : Prop :=
  ∀ (B F : Hp) (σ : St) (H : Hp) (v : V), Sb B0 B F → Rel B C F H → RelE B σ E → Rep B v d → ∀ Q : St → Hp → Prop,
    (∀ σ' E' B' C' H', Same B B' → Rel B' C' F H' → RelE B' σ' E' → N E' C' → Q σ' H') → g v σ H Q
def WGs (B0 : Gr) (g : TGs) (ds : List D) (E : EnvD) (C : CH) (N : EnvD → CH → Prop) : Prop :=
  ∀ (B F : Hp) (σ : St) (H : Hp) (vs : List V), Sb B0 B F → Rel B C F H → RelE B σ E → Reps B vs ds → ∀ Q : St → Hp → Prop,
    (∀ σ' E' B' C' H', Same B B' → Rel B' C' F H' → RelE B' σ' E' → N E' C' → Q σ' H') → g vs σ H Q
structure EndD where
  nx : EnvD → CH → Prop
  rt : D → CH → Prop
  bk : EnvD → CH → Prop := fun _ _ => False
  ct : EnvD → CH → Prop := fun _ _ => False
structure EOk (B F : Hp) (Dn : Ends) (D : EndD) : Prop where
  nx : ∀ σ' E' B' C' H', Same B B' → Rel B' C' F H' → RelE B' σ' E' → D.nx E' C' → Dn.nx σ' H'
  rt : ∀ v d B' C' H', Same B B' → Rel B' C' F H' → Rep B' v d → D.rt d C' → Dn.rt v H'
  bk : ∀ σ' E' B' C' H', Same B B' → Rel B' C' F H' → RelE B' σ' E' → D.bk E' C' → Dn.bk σ' H'
  ct : ∀ σ' E' B' C' H', Same B B' → Rel B' C' F H' → RelE B' σ' E' → D.ct E' C' → Dn.ct σ' H'
theorem EOk.mono {B B1 F : Hp} {Dn : Ends} {D : EndD} (o : EOk B F Dn D) (e : Same B B1) : EOk B1 F Dn D :=
  ⟨fun σ' E' B' C' H' s => o.nx σ' E' B' C' H' (e.trans s), fun v d B' C' H' s => o.rt v d B' C' H' (e.trans s),
   fun σ' E' B' C' H' s => o.bk σ' E' B' C' H' (e.trans s), fun σ' E' B' C' H' s => o.ct σ' E' B' C' H' (e.trans s)⟩
def WS (B0 : Gr) (t : TS) (E : EnvD) (C : CH) (D : EndD) : Prop :=
  ∀ (B F : Hp) (σ : St) (H : Hp), Sb B0 B F → Rel B C F H → RelE B σ E → ∀ Dn : Ends, EOk B F Dn D → t Dn σ H

section
variable {B0 : Gr} {te ta tb : TE} {t u tt tu : TT} {tA : TA} {E : EnvD} {C : CH} {P : D → CH → Prop} {PB : Bool → CH → Prop} {PA' : List D → CH → Prop} {x y d : D} {r : R2}

theorem W.imp {P' : D → CH → Prop} (h : W B0 te E C P) (k : ∀ d C, P d C → P' d C) : W B0 te E C P' :=
  fun B F σ H sb rl re Q q => h B F σ H sb rl re Q fun v d B' C' H' e r' rp p => q v d B' C' H' e r' rp (k d C' p)
theorem WS.imp {t : TS} {D D' : EndD} (h : WS B0 t E C D) (k1 : ∀ E C, D.nx E C → D'.nx E C) (k2 : ∀ d C, D.rt d C → D'.rt d C) (k3 : ∀ E C, D.bk E C → D'.bk E C) (k4 : ∀ E C, D.ct E C → D'.ct E C) : WS B0 t E C D' :=
  fun B F σ H sb rl re Dn ok => h B F σ H sb rl re Dn
    ⟨fun σ' E' B' C' H' e r' re' n => ok.nx σ' E' B' C' H' e r' re' (k1 _ _ n), fun v d B' C' H' e r' rp p => ok.rt v d B' C' H' e r' rp (k2 _ _ p),
     fun σ' E' B' C' H' e r' re' n => ok.bk σ' E' B' C' H' e r' re' (k3 _ _ n), fun σ' E' B' C' H' e r' re' n => ok.ct σ' E' B' C' H' e r' re' (k4 _ _ n)⟩

/-! ### expressions -/
theorem w_var {i : Nat} (h : E[i]? = some (some d)) (k : P d C) : W B0 (tVar i) E C P := fun B F σ H _ rl re Q q => by
  obtain ⟨v, h1, h2⟩ := re.get i d h
  exact ⟨v, h1, q v d B C H (Same.refl B) rl h2 k⟩
theorem w_int {i : Int} (k : P (.int i) C) : W B0 (tC (.int i)) E C P := fun B _ _ H _ rl _ _ q => q _ _ B C H (Same.refl B) rl .int k
theorem w_bl {i : Bool} (k : P (.bl i) C) : W B0 (tC (.bl i)) E C P := fun B _ _ H _ rl _ _ q => q _ _ B C H (Same.refl B) rl .bl k
theorem w_str {i : Str} (k : P (.str i) C) : W B0 (tC (.str i)) E C P := fun B _ _ H _ rl _ _ q => q _ _ B C H (Same.refl B) rl .str k
theorem w_non (k : P .non C) : W B0 (tC .non) E C P := fun B _ _ H _ rl _ _ q => q _ _ B C H (Same.refl B) rl .non k
theorem w_ref {a : Addr} (k : P (.ref a) C) : W B0 (tC (.ref a)) E C P := fun B _ _ H _ rl _ _ q => q _ _ B C H (Same.refl B) rl .ref k
theorem w_ty {n : String} (k : P (.ty n) C) : W B0 (tC (.ty n)) E C P := fun B _ _ H _ rl _ _ q => q _ _ B C H (Same.refl B) rl .ty k
theorem w_op (h : W B0 ta E C fun x C1 => W B0 tb E C1 fun y C2 => WR B0 r x y C2 P) : W B0 (tOp r ta tb) E C P := fun B F σ H sb rl re Q q =>
  h B F σ H sb rl re _ fun v1 d1 B1 C1 H1 e1 rl1 rp1 h1 =>
    h1 B1 F σ H1 (sb.trans e1) rl1 (re.mono e1) _ fun v2 d2 B2 C2 H2 e2 rl2 rp2 h2 =>
      h2 B2 F H2 v1 v2 ((sb.trans e1).trans e2) rl2 (rp1.mono e2) rp2 Q fun v d B3 C3 H3 e3 rl3 rp3 p => q v d B3 C3 H3 ((e1.trans e2).trans e3) rl3 rp3 p
theorem w_un {r : V → Hp → VK → Prop} (h : W B0 ta E C fun x C1 => WU B0 r x C1 P) : W B0 (tUn r ta) E C P := fun B F σ H sb rl re Q q =>
  h B F σ H sb rl re _ fun v1 d1 B1 C1 H1 e1 rl1 rp1 h1 => h1 B1 F H1 v1 (sb.trans e1) rl1 rp1 Q fun v d B3 C3 H3 e3 rl3 rp3 p => q v d B3 C3 H3 (e1.trans e3) rl3 rp3 p
theorem w_cb {r : List V → Hp → VK → Prop} (h : WA B0 tA E C fun ds C1 => WC B0 r ds C1 P) : W B0 (tCB r tA) E C P := fun B F σ H sb rl re Q q =>
  h B F σ H sb rl re _ fun v1 d1 B1 C1 H1 e1 rl1 rp1 h1 => h1 B1 F H1 v1 (sb.trans e1) rl1 rp1 Q fun v d B3 C3 H3 e3 rl3 rp3 p => q v d B3 C3 H3 (e1.trans e3) rl3 rp3 p
theorem wa_nil (k : PA' [] C) : WA B0 tNil E C PA' := fun B _ _ H _ rl _ _ q => q _ _ B C H (Same.refl B) rl .nil k
theorem wa_cons (h : W B0 ta E C fun x C1 => WA B0 tA E C1 fun xs C2 => PA' (x :: xs) C2) : WA B0 (tCons ta tA) E C PA' := fun B F σ H sb rl re Q q =>
  h B F σ H sb rl re _ fun v1 d1 B1 C1 H1 e1 rl1 rp1 h1 => h1 B1 F σ H1 (sb.trans e1) rl1 (re.mono e1) _ fun vs ds B3 C3 H3 e3 rl3 rp3 p => q _ _ B3 C3 H3 (e1.trans e3) rl3 (.cons (rp1.mono e3) rp3) p
theorem w_tup (h : WA B0 tA E C fun ds C1 => ds.length ≤ 100000 ∧ P (.tup ds) C1) : W B0 (tTup tA) E C P := fun B F σ H sb rl re Q q =>
  h B F σ H sb rl re _ fun vs ds B1 C1 H1 e1 rl1 rp1 ⟨hl, p⟩ => ⟨by rw [rp1.length]; exact Nat.le_trans hl (by decide), fun a ha => by
    have s := same_upd (o := .tup vs) (rl1.noB ha)
    exact q _ _ _ C1 _ (e1.trans s) (rl1.new ha) (.tup upd_same (rp1.mono s)) p⟩
theorem w_lst (h : WA B0 tA E C fun ds C1 => ds.length ≤ 100000 ∧ P (.lst ds) C1) : W B0 (tLst tA) E C P := fun B F σ H sb rl re Q q =>
  h B F σ H sb rl re _ fun vs ds B1 C1 H1 e1 rl1 rp1 ⟨hl, p⟩ => ⟨by rw [rp1.length]; exact Nat.le_trans hl (by decide), fun a ha => by
    have s := same_upd (o := .lst vs) (rl1.noB ha)
    exact q _ _ _ C1 _ (e1.trans s) (rl1.new ha) (.lst upd_same (rp1.mono s)) p⟩
/-- a list that is to change: a cell -/
theorem w_lstC (h : WA B0 tA E C fun ds C1 => ds.length ≤ 100000 ∧ ∀ a, C1 a = none → P (.ref a) (updC C1 a (.lst ds))) : W B0 (tLst tA) E C P := fun B F σ H sb rl re Q q =>
  h B F σ H sb rl re _ fun vs ds B1 C1 H1 e1 rl1 rp1 ⟨hl, p⟩ => ⟨by rw [rp1.length]; exact Nat.le_trans hl (by decide), fun a ha =>
    q _ _ B1 _ _ e1 (rl1.newC ha (.lst rp1)) .ref (p a (rl1.noC ha))⟩
theorem w_ifExp (h : WT B0 t E C fun b C1 => (b = true → W B0 ta E C1 P) ∧ (b = false → W B0 tb E C1 P)) : W B0 (tIf t ta tb) E C P := fun B F σ H sb rl re Q q =>
  h B F σ H sb rl re _ fun b B1 C1 H1 e1 rl1 p => by
    cases b with
    | true => exact p.1 rfl B1 F σ H1 (sb.trans e1) rl1 (re.mono e1) Q fun v d B3 C3 H3 e3 => q v d B3 C3 H3 (e1.trans e3)
    | false => exact p.2 rfl B1 F σ H1 (sb.trans e1) rl1 (re.mono e1) Q fun v d B3 C3 H3 e3 => q v d B3 C3 H3 (e1.trans e3)
theorem w_andV (h : W B0 ta E C fun x C1 => ∃ b, x = .bl b ∧ (b = true → W B0 tb E C1 P) ∧ (b = false → P (.bl false) C1)) : W B0 (tAndV ta tb) E C P := fun B F σ H sb rl re Q q =>
  h B F σ H sb rl re _ fun v d B1 C1 H1 e1 rl1 rp ⟨b, hb, p1, p2⟩ => by
    subst hb
    cases rp
    refine ⟨b, rfl, ?_⟩
    cases b with
    | true => exact p1 rfl B1 F σ H1 (sb.trans e1) rl1 (re.mono e1) Q fun v d B3 C3 H3 e3 => q v d B3 C3 H3 (e1.trans e3)
    | false => exact q _ _ B1 C1 H1 e1 rl1 .bl (p2 rfl)
theorem w_orV (h : W B0 ta E C fun x C1 => ∃ b, x = .bl b ∧ (b = true → P (.bl true) C1) ∧ (b = false → W B0 tb E C1 P)) : W B0 (tOrV ta tb) E C P := fun B F σ H sb rl re Q q =>
  h B F σ H sb rl re _ fun v d B1 C1 H1 e1 rl1 rp ⟨b, hb, p1, p2⟩ => by
    subst hb
    cases rp
    refine ⟨b, rfl, ?_⟩
    cases b with
    | true => exact q _ _ B1 C1 H1 e1 rl1 .bl (p1 rfl)
    | false => exact p2 rfl B1 F σ H1 (sb.trans e1) rl1 (re.mono e1) Q fun v d B3 C3 H3 e3 => q v d B3 C3 H3 (e1.trans e3)
theorem w_notV (h : W B0 ta E C fun x C1 => ∃ b, x = .bl b ∧ P (.bl (!b)) C1) : W B0 (tNotV ta) E C P := fun B F σ H sb rl re Q q =>
  h B F σ H sb rl re _ fun v d B1 C1 H1 e1 rl1 rp ⟨b, hb, p1⟩ => by
    subst hb
    cases rp
    exact ⟨b, rfl, q _ _ B1 C1 H1 e1 rl1 .bl p1⟩

/-! ### tests -/
theorem wt_test (h : W B0 te E C fun x C1 => ∃ b, x = .bl b ∧ PB b C1) : WT B0 (tTest te) E C PB := fun B F σ H sb rl re Q q =>
  h B F σ H sb rl re _ fun v d B1 C1 H1 e1 rl1 rp ⟨b, hb, p1⟩ => by
    subst hb
    cases rp
    exact ⟨b, rfl, q _ B1 C1 H1 e1 rl1 p1⟩
theorem wt_B (h : W B0 te E C fun x C1 => ∃ b, x = .bl b ∧ PB b C1) : WT B0 (tB te) E C PB := fun B F σ H sb rl re Q q =>
  h B F σ H sb rl re _ fun v d B1 C1 H1 e1 rl1 rp ⟨b, hb, p1⟩ => by
    subst hb
    cases rp
    exact ⟨b, rfl, q _ B1 C1 H1 e1 rl1 p1⟩
theorem wt_and (h : WT B0 t E C fun b C1 => (b = true → WT B0 u E C1 PB) ∧ (b = false → PB false C1)) : WT B0 (tAnd t u) E C PB := fun B F σ H sb rl re Q q =>
  h B F σ H sb rl re _ fun b B1 C1 H1 e1 rl1 p => by
    cases b with
    | true => exact p.1 rfl B1 F σ H1 (sb.trans e1) rl1 (re.mono e1) Q fun b B3 C3 H3 e3 => q b B3 C3 H3 (e1.trans e3)
    | false => exact q _ B1 C1 H1 e1 rl1 (p.2 rfl)
theorem wt_or (h : WT B0 t E C fun b C1 => (b = true → PB true C1) ∧ (b = false → WT B0 u E C1 PB)) : WT B0 (tOr t u) E C PB := fun B F σ H sb rl re Q q =>
  h B F σ H sb rl re _ fun b B1 C1 H1 e1 rl1 p => by
    cases b with
    | true => exact q _ B1 C1 H1 e1 rl1 (p.1 rfl)
    | false => exact p.2 rfl B1 F σ H1 (sb.trans e1) rl1 (re.mono e1) Q fun b B3 C3 H3 e3 => q b B3 C3 H3 (e1.trans e3)
theorem wt_not (h : WT B0 t E C fun b C1 => PB (!b) C1) : WT B0 (tNot t) E C PB := fun B F σ H sb rl re Q q =>
  h B F σ H sb rl re _ fun b B1 C1 H1 e1 rl1 p => q _ B1 C1 H1 e1 rl1 p
/-- a value's truth -/
def TruD (C : CH) : D → Option Bool
  | .non => some false
  | .bl b => some b
  | .int i => some (i != 0)
  | .tup l => some (!l.isEmpty)
  | .lst l => some (!l.isEmpty)
  | .dic l => some (!l.isEmpty)
  | .str x => if x.length ≤ 1000000 then some ((x.length : Int) != 0) else none
  | .ty _ => none
  | .fn _ _ => none
  | .dicR _ => none
  | .dicL _ _ => none
  | .ref a => match C a with
    | some (.lst l) => some (!l.isEmpty)
    | some (.dic l) => some (!l.isEmpty)
    | _ => none
theorem reps_emp {B : Hp} {vs : List V} {ds : List D} (h : Reps B vs ds) : (!ds.isEmpty) = !vs.isEmpty := by cases h <;> rfl
theorem repk_emp {B : Hp} {vs : List (Key × V)} {ds : List (Int × D)} (h : RepK B vs ds) : (!ds.isEmpty) = !vs.isEmpty := by cases h <;> rfl
theorem truD_ok {B F H : Hp} {C : CH} {K : PySem.W.Frag} {v : V} {d : D} {b : Bool} (rl : Rel B C F H) (h : Rep B v d) (e : TruD C d = some b) : TruV K v H b := by
  cases h with
  | non => cases e; rfl
  | bl => cases e; rfl
  | int => cases e; rfl
  | fn _ _ => cases e
  | ty => cases e
  | @str x =>
    have e : (if x.length ≤ 1000000 then some ((x.length : Int) != 0) else none) = some b := e
    by_cases hl : x.length ≤ 1000000
    · rw [if_pos hl] at e
      cases e
      exact ⟨Nat.le_trans hl (by decide : 1000000 ≤ sizeLine), rfl⟩
    · rw [if_neg hl] at e
      cases e
  | tup h r => cases e; exact .inr (.inl ⟨_, SqT.of (rl.ex _ _ h), reps_emp r⟩)
  | lst h r => cases e; exact .inl ⟨_, SqL.of (rl.ex _ _ h), reps_emp r⟩
  | dic h r => cases e; exact .inr (.inr ⟨_, rl.ex _ _ h, repk_emp r⟩)
  | dicR h r => cases e
  | dicL h r => cases e
  | @ref a =>
    have e : (match C a with
      | some (.lst l) => some (!l.isEmpty)
      | some (.dic l) => some (!l.isEmpty)
      | _ => none) = some b := e
    split at e
    · rename_i l hc
      cases e
      obtain ⟨o, h1, h2⟩ := rl.own _ _ hc
      cases h2 with
      | lst r => exact .inl ⟨_, SqL.of h1, reps_emp r⟩
    · rename_i l hc
      cases e
      obtain ⟨o, h1, h2⟩ := rl.own _ _ hc
      cases h2 with
      | dic r => exact .inr (.inr ⟨_, h1, repk_emp r⟩)
    · cases e
/-- a test that is a value's truth, named -/
def tTruth (K : PySem.W.Frag) (ta : TE) : TT := fun σ H Q => ta σ H fun x H' => ∃ k, TruV K x H' k ∧ Q k H'
theorem wt_truth {K : PySem.W.Frag} (h : W B0 te E C fun x C1 => ∃ b, TruD C1 x = some b ∧ PB b C1) : WT B0 (tTruth K te) E C PB := fun B F σ H sb rl re Q q =>
  h B F σ H sb rl re _ fun v d B1 C1 H1 e1 rl1 rp ⟨b, hb, p1⟩ => ⟨b, truD_ok rl1 rp hb, q _ B1 C1 H1 e1 rl1 p1⟩

/-! ### targets -/
variable {N : EnvD → CH → Prop}
theorem wg_name {i : Nat} (k : N (E.set i (some d)) C) : WG B0 (gName i) d E C N := fun B F σ H v _ rl re rp Q q => q _ _ B C H (Same.refl B) rl (re.set i rp) k
theorem wgs_nil (k : N E C) : WGs B0 gNil [] E C N := fun B F σ H vs _ rl re rp Q q => by
  cases rp
  exact ⟨rfl, q _ _ B C H (Same.refl B) rl re k⟩
theorem wgs_cons {g : TG} {gs : TGs} {ds : List D} (h : WG B0 g d E C fun E1 C1 => WGs B0 gs ds E1 C1 N) : WGs B0 (gCons g gs) (d :: ds) E C N := fun B F σ H vs sb rl re rp Q q => by
  cases rp with
  | cons h1 r =>
    exact ⟨_, _, rfl, h B F σ H _ sb rl re h1 _ fun σ1 E1 B1 C1 H1 e1 rl1 re1 n1 => n1 B1 F σ1 H1 _ (sb.trans e1) rl1 re1 (r.mono e1) Q fun σ' E' B' C' H' e => q σ' E' B' C' H' (e1.trans e)⟩
theorem wg_tup {K : PySem.W.Frag} {n : Nat} {gs : TGs} {ds : List D} (hl : ds.length = n) (h : WGs B0 gs ds E C N) : WG B0 (gTup K n gs) (.tup ds) E C N := fun B F σ H v sb rl re rp Q q => by
  cases rp with
  | tup ha r => exact ⟨_, _, rfl, SqT.of (rl.ex _ _ ha), by rw [r.length]; exact hl, h B F σ H _ sb rl re r Q q⟩

/-! ### statements -/
variable {D1 : EndD} {s1 s2 : TS}
theorem ws_next (k : D1.nx E C) : WS B0 tNext E C D1 := fun B F σ H _ rl re Dn ok => ok.nx σ E B C H (Same.refl B) rl re k
theorem ws_break (k : D1.bk E C) : WS B0 tBreak E C D1 := fun B F σ H _ rl re Dn ok => ok.bk σ E B C H (Same.refl B) rl re k
theorem ws_cont (k : D1.ct E C) : WS B0 tCont E C D1 := fun B F σ H _ rl re Dn ok => ok.ct σ E B C H (Same.refl B) rl re k
theorem ws_seq (h : WS B0 s1 E C { D1 with nx := fun E1 C1 => WS B0 s2 E1 C1 D1 }) : WS B0 (tSeq s1 s2) E C D1 := fun B F σ H sb rl re Dn ok =>
  h B F σ H sb rl re _ ⟨fun σ' E' B' C' H' e rl' re' n => n B' F σ' H' (sb.trans e) rl' re' Dn (ok.mono e), ok.rt, ok.bk, ok.ct⟩
theorem ws_asg {g : TG} (h : W B0 te E C fun d C1 => WG B0 g d E C1 D1.nx) : WS B0 (tAsg te g) E C D1 := fun B F σ H sb rl re Dn ok =>
  h B F σ H sb rl re _ fun v d B1 C1 H1 e1 rl1 rp n => n B1 F σ H1 v (sb.trans e1) rl1 (re.mono e1) rp _ fun σ' E' B' C' H' e rl' re' k => ok.nx σ' E' B' C' H' (e1.trans e) rl' re' k
theorem ws_set {i : Nat} (h : W B0 te E C fun d C1 => D1.nx (E.set i (some d)) C1) : WS B0 (tAsg te (gName i)) E C D1 := ws_asg (h.imp fun _ _ k => wg_name k)
theorem ws_drop (h : W B0 te E C fun _ C1 => D1.nx E C1) : WS B0 (tDrop te) E C D1 := fun B F σ H sb rl re Dn ok =>
  h B F σ H sb rl re _ fun v d B1 C1 H1 e1 rl1 rp n => ok.nx σ E B1 C1 H1 e1 rl1 (re.mono e1) n
theorem ws_ret (h : W B0 te E C D1.rt) : WS B0 (tRet te) E C D1 := fun B F σ H sb rl re Dn ok =>
  h B F σ H sb rl re _ fun v d B1 C1 H1 e1 rl1 rp n => ok.rt v d B1 C1 H1 e1 rl1 rp n
theorem ws_retN (h : D1.rt .non C) : WS B0 tRetN E C D1 := fun B F σ H sb rl re Dn ok => ok.rt .non .non B C H (Same.refl B) rl .non h
theorem ws_if {c : TT} (h : WT B0 c E C fun b C1 => (b = true → WS B0 s1 E C1 D1) ∧ (b = false → WS B0 s2 E C1 D1)) : WS B0 (tIfS c s1 s2) E C D1 := fun B F σ H sb rl re Dn ok =>
  h B F σ H sb rl re _ fun b B1 C1 H1 e1 rl1 p => by
    cases b with
    | true => exact p.1 rfl B1 F σ H1 (sb.trans e1) rl1 (re.mono e1) Dn (ok.mono e1)
    | false => exact p.2 rfl B1 F σ H1 (sb.trans e1) rl1 (re.mono e1) Dn (ok.mono e1)
theorem ws_aug {i : Nat} {ti : TIp} (hx : E[i]? = some (some x)) (h : W B0 te E C fun y C1 => WR B0 (fun a b H Q => ti a b H Q) x y C1 fun z C2 => D1.nx (E.set i (some z)) C2) : WS B0 (tAug i te ti) E C D1 := fun B F σ H sb rl re Dn ok => by
  obtain ⟨v, h1, h2⟩ := re.get i x hx
  exact ⟨v, h1, h B F σ H sb rl re _ fun w d B1 C1 H1 e1 rl1 rp n => n B1 F H1 v w (sb.trans e1) rl1 (h2.mono e1) rp _ fun z d' B2 C2 H2 e2 rl2 rp2 k =>
    ok.nx _ _ B2 C2 H2 (e1.trans e2) rl2 ((re.mono (e1.trans e2)).set i rp2) k⟩
theorem ws_never (h : False) : WS B0 tNever E C D1 := h.elim
end
end Dv

set_option maxRecDepth 100000
set_option maxHeartbeats 1000000
/-! Operations by values, loops, comprehensions, calls. -/
namespace Dv
open PySem L2

/-! ### reading what stands there -/
section
variable {B F H : Hp} {C : CH} {K : PySem.W.Frag} {v : V} {d : D} {ds : List D} {ks : List (Int × D)}
/-- d is a list or a tuple of ds (frozen, or a list in a cell) -/
inductive SeqD (C : CH) : D → List D → Prop
  | lst {ds : List D} : SeqD C (.lst ds) ds
  | tup {ds : List D} : SeqD C (.tup ds) ds
  | cell {a : Addr} {ds : List D} : C a = some (.lst ds) → SeqD C (.ref a) ds
inductive LstD (C : CH) : D → List D → Prop
  | lst {ds : List D} : LstD C (.lst ds) ds
  | cell {a : Addr} {ds : List D} : C a = some (.lst ds) → LstD C (.ref a) ds
theorem lstD_rd (rl : Rel B C F H) (h : Rep B v d) (s : LstD C d ds) : ∃ a vs, v = .ref a ∧ H a = some (.lst vs) ∧ Reps B vs ds := by
  cases s with
  | lst => cases h with | lst h r => exact ⟨_, _, rfl, rl.ex _ _ h, r⟩
  | cell hc =>
    cases h
    obtain ⟨o, h1, h2⟩ := rl.own _ _ hc
    cases h2 with | lst r => exact ⟨_, _, rfl, h1, r⟩
theorem tupD_rd (rl : Rel B C F H) (h : Rep B v (.tup ds)) : ∃ a vs, v = .ref a ∧ H a = some (.tup vs) ∧ Reps B vs ds := by
  cases h with | tup h r => exact ⟨_, _, rfl, rl.ex _ _ h, r⟩
theorem seqD_rd (rl : Rel B C F H) (h : Rep B v d) (s : SeqD C d ds) : ∃ a vs, v = .ref a ∧ (SqL K H a vs ∨ SqT K H a vs) ∧ Reps B vs ds := by
  cases s with
  | lst => obtain ⟨a, vs, e, h1, r⟩ := lstD_rd rl h .lst; exact ⟨a, vs, e, .inl (SqL.of h1), r⟩
  | tup => obtain ⟨a, vs, e, h1, r⟩ := tupD_rd rl h; exact ⟨a, vs, e, .inr (SqT.of h1), r⟩
  | cell hc => obtain ⟨a, vs, e, h1, r⟩ := lstD_rd rl h (.cell hc); exact ⟨a, vs, e, .inl (SqL.of h1), r⟩
theorem seqD_rd' (rl : Rel B C F H) (h : Rep B v d) (s : SeqD C d ds) : ∃ a vs, v = .ref a ∧ (H a = some (.lst vs) ∨ H a = some (.tup vs)) ∧ Reps B vs ds := by
  cases s with
  | lst => obtain ⟨a, vs, e, h1, r⟩ := lstD_rd rl h .lst; exact ⟨a, vs, e, .inl h1, r⟩
  | tup => obtain ⟨a, vs, e, h1, r⟩ := tupD_rd rl h; exact ⟨a, vs, e, .inr h1, r⟩
  | cell hc => obtain ⟨a, vs, e, h1, r⟩ := lstD_rd rl h (.cell hc); exact ⟨a, vs, e, .inl h1, r⟩
/-- a dict: frozen or a cell -/
inductive DicD (C : CH) : D → List (Int × D) → Prop
  | dic {ks : List (Int × D)} : DicD C (.dic ks) ks
  | cell {a : Addr} {ks : List (Int × D)} : C a = some (.dic ks) → DicD C (.ref a) ks
theorem dicD_rd (rl : Rel B C F H) (h : Rep B v d) (s : DicD C d ks) : ∃ a vs, v = .ref a ∧ H a = some (.dK vs) ∧ RepK B vs ks := by
  cases s with
  | dic => cases h with | dic h r => exact ⟨_, _, rfl, rl.ex _ _ h, r⟩
  | cell hc =>
    cases h
    obtain ⟨o, h1, h2⟩ := rl.own _ _ hc
    cases h2 with | dic r => exact ⟨_, _, rfl, h1, r⟩
theorem Reps.at {vs : List V} {i : Int} (r : Reps B vs ds) (h : atI ds i = some d) : ∃ v, atI vs i = some v ∧ Rep B v d := by
  unfold atI at h ⊢
  rw [r.length]
  cases e : ixN ds.length i with
  | none => rw [e] at h; cases h
  | some j =>
    rw [e] at h
    exact r.get h
end

theorem atI_some {ds : List D} {i : Int} (h0 : 0 ≤ i) (h : i < (ds.length : Int)) : ∃ d, d ∈ ds ∧ ds[i.toNat]? = some d ∧ atI ds i = some d := by
  have hl : i.toNat < ds.length := by omega
  refine ⟨ds[i.toNat], List.getElem_mem hl, List.getElem?_eq_getElem hl, ?_⟩
  unfold atI ixN
  rw [if_pos h0, if_pos h]
  exact List.getElem?_eq_getElem hl
theorem atI_zero {α : Type} {z : α} {zs : List α} : atI (z :: zs) 0 = some z := by
  unfold atI ixN
  rw [if_pos (by decide), if_pos (by rw [List.length_cons]; omega)]
  rfl
theorem atI_int {ns : List Int} {i : Int} (h0 : 0 ≤ i) (h : i < (ns.length : Int)) : ∃ z, z ∈ ns ∧ atI (ns.map D.int) i = some (.int z) := by
  obtain ⟨d, h1, _, h2⟩ := atI_some (ds := ns.map D.int) h0 (by rw [List.length_map]; exact h)
  obtain ⟨z, hz, e⟩ := List.mem_map.mp h1
  exact ⟨z, hz, by rw [h2, e]⟩

/-! ### dicts on the deep side -/
def lookD (ks : List (Int × D)) (k : Int) : Option D := (ks.find? fun p => decide (p.1 = k)).map (·.2)
def putD (ks : List (Int × D)) (k : Int) (d : D) : List (Int × D) :=
  if ks.any fun p => decide (p.1 = k) then ks.map fun p => if p.1 = k then (p.1, d) else p else ks ++ [(k, d)]
theorem repK_look {B : Hp} {vs : List (Key × V)} {ks : List (Int × D)} (r : RepK B vs ks) (k : Int) :
    (lookD ks k = none → valV vs (Sum.inl k) = none) ∧ ∀ d, lookD ks k = some d → ∃ v, valV vs (Sum.inl k) = some v ∧ Rep B v d := by
  induction vs generalizing ks with
  | nil => cases r; exact ⟨fun _ => rfl, fun d h => by cases h⟩
  | cons p vs ih =>
    cases r with
    | @cons j v d vs ds h r =>
      obtain ⟨i1, i2⟩ := ih r
      by_cases e : j = k
      · subst e
        refine ⟨fun h => by simp [lookD] at h, fun d' h' => ?_⟩
        have : d = d' := by simpa [lookD] using h'
        subst this
        exact ⟨v, valV_pos rfl, h⟩
      · have e1 : lookD ((j, d) :: ds) k = lookD ds k := by simp [lookD, e]
        have e2 : valV ((Sum.inl j, v) :: vs) (Sum.inl k : Key) = valV vs (Sum.inl k) := valV_neg (by intro z; exact e (Sum.inl.inj z))
        rw [e1, e2]
        exact ⟨i1, i2⟩
theorem repK_any {B : Hp} {vs : List (Key × V)} {ks : List (Int × D)} (r : RepK B vs ks) (k : Int) :
    (vs.any fun p => decide (p.1 = Sum.inl k)) = ks.any fun p => decide (p.1 = k) := by
  induction vs generalizing ks with
  | nil => cases r; rfl
  | cons p vs ih =>
    cases r with
    | cons h r => simp [ih r]
theorem repK_len {B : Hp} {vs : List (Key × V)} {ks : List (Int × D)} (r : RepK B vs ks) : vs.length = ks.length := by
  induction vs generalizing ks with
  | nil => cases r; rfl
  | cons p vs ih =>
    cases r with
    | cons h r => simp [ih r]
theorem repK_map {B : Hp} {vs : List (Key × V)} {ks : List (Int × D)} (r : RepK B vs ks) (k : Int) {v d} (h : Rep B v d) :
    RepK B (vs.map fun p => if p.1 = Sum.inl k then (p.1, v) else p) (ks.map fun p => if p.1 = k then (p.1, d) else p) := by
  induction vs generalizing ks with
  | nil => cases r; exact .nil
  | cons p vs ih =>
    cases r with
    | @cons j v' d' vs ds h' r =>
      by_cases e : j = k
      · subst e
        simpa using RepK.cons h (ih r)
      · have e' : ¬ (Sum.inl j : Key) = Sum.inl k := fun z => e (Sum.inl.inj z)
        simpa [e] using RepK.cons (k := j) h' (ih r)
theorem repK_app {B : Hp} {vs ws : List (Key × V)} {ks ls : List (Int × D)} (r : RepK B vs ks) (s : RepK B ws ls) : RepK B (vs ++ ws) (ks ++ ls) := by
  induction vs generalizing ks with
  | nil => cases r; exact s
  | cons p vs ih =>
    cases r with
    | cons h r => exact .cons h (ih r)
theorem repK_put {B : Hp} {vs : List (Key × V)} {ks : List (Int × D)} (r : RepK B vs ks) (k : Int) {v d} (h : Rep B v d) : RepK B (putK vs (Sum.inl k) v) (putD ks k d) := by
  unfold putK putD
  rw [repK_any r k]
  by_cases e : (ks.any fun p => decide (p.1 = k)) = true
  · rw [if_pos e, if_pos e]; exact repK_map r k h
  · rw [if_neg e, if_neg e]; exact repK_app r (.cons h .nil)

/-! ### one value handed on -/
section
variable {B0 : Gr} {C : CH} {P : D → CH → Prop} {x y d : D} {i j : Int} {K : PySem.W.Frag} {ds es : List D} {E : EnvD}

theorem wr_int {g : Int → Int → Int} (k : P (.int (g i j)) C) : WR B0 (rI0 fun i j => .int (g i j)) (.int i) (.int j) C P := fun B F H vx vy _ rl hx hy Q q => by
  cases hx; cases hy
  exact ⟨i, j, rfl, rfl, q _ _ B C H (Same.refl B) rl .int k⟩
theorem wr_intB {g : Int → Int → Bool} (k : P (.bl (g i j)) C) : WR B0 (rI0 fun i j => .bl (g i j)) (.int i) (.int j) C P := fun B F H vx vy _ rl hx hy Q q => by
  cases hx; cases hy
  exact ⟨i, j, rfl, rfl, q _ _ B C H (Same.refl B) rl .bl k⟩
theorem wr_intC {R : Int → Int → Prop} {g : Int → Int → Int} (hc : R i j) (k : P (.int (g i j)) C) : WR B0 (rI R fun i j => .int (g i j)) (.int i) (.int j) C P := fun B F H vx vy _ rl hx hy Q q => by
  cases hx; cases hy
  exact ⟨i, j, rfl, rfl, hc, q _ _ B C H (Same.refl B) rl .int k⟩
theorem wu_int {g : Int → Int} (k : P (.int (g i)) C) : WU B0 (rU fun i => .int (g i)) (.int i) C P := fun B F H vx _ rl hx Q q => by
  cases hx
  exact ⟨i, rfl, q _ _ B C H (Same.refl B) rl .int k⟩

/-! + -/
def rStrCat : R2 := fun x y H Q => ∃ i j, x = .str i ∧ y = .str j ∧ i.length + j.length ≤ sizeLine ∧ Q (.str (i ++ j)) H
def rAddU (K : PySem.W.Frag) : R2 := fun x y H Q => (rI0 fun i j => .int (i + j)) x y H Q ∨ rCat x y H Q ∨ rCatA K x y H Q ∨ rStrCat x y H Q
theorem op_addU {X : Cx} : OpR X (binaryOp .Add) (rAddU X.K) := op_add.or (op_cat.or (op_catA.or op_add_str))
theorem wr_add (k : P (.int (i + j)) C) : WR B0 (rAddU K) (.int i) (.int j) C P := fun B F H vx vy sb rl hx hy Q q => .inl (wr_int (g := fun i j => i + j) k B F H vx vy sb rl hx hy Q q)
theorem wr_addS {a b : Str} (hl : a.length + b.length ≤ 1000000) (k : P (.str (a ++ b)) C) : WR B0 (rAddU K) (.str a) (.str b) C P := fun B F H vx vy _ rl hx hy Q q => by
  cases hx; cases hy
  exact .inr (.inr (.inr ⟨a, b, rfl, rfl, Nat.le_trans hl (by decide), q _ _ B C H (Same.refl B) rl .str k⟩))
theorem wr_addT (hl : ds.length + es.length ≤ 1000000) (k : P (.tup (ds ++ es)) C) : WR B0 (rAddU K) (.tup ds) (.tup es) C P := fun B F H vx vy _ rl hx hy Q q => by
  cases hx with
  | @tup a vs _ ha r =>
  cases hy with
  | @tup b ws _ hb s =>
  refine .inr (.inr (.inl ⟨a, b, vs, ws, rfl, rfl, SqT.of (rl.ex _ _ ha), SqT.of (rl.ex _ _ hb), by rw [r.length, s.length]; exact Nat.le_trans hl (by decide), fun e => ?_, fun _ e => ?_, fun _ _ p hp => ?_⟩))
  · subst e
    cases r
    exact q _ _ B C H (Same.refl B) rl (.tup hb s) k
  · subst e
    cases s
    rw [List.append_nil] at k
    exact q _ _ B C H (Same.refl B) rl (.tup ha r) k
  · have e := same_upd (o := .tup (vs ++ ws)) (rl.noB hp)
    exact q _ _ _ C _ e (rl.new hp) (.tup upd_same ((r.append s).mono e)) k
theorem wr_addL (hx : LstD C x ds) (hy : LstD C y es) (hl : ds.length + es.length ≤ 1000000) (k : P (.lst (ds ++ es)) C) : WR B0 (rAddU K) x y C P := fun B F H vx vy _ rl h1 h2 Q q => by
  obtain ⟨a, vs, rfl, ha, r⟩ := lstD_rd rl h1 hx
  obtain ⟨b, ws, rfl, hb, s⟩ := lstD_rd rl h2 hy
  refine .inr (.inl ⟨a, b, vs, ws, rfl, rfl, ha, hb, by rw [r.length, s.length]; exact Nat.le_trans hl (by decide), fun p hp => ?_⟩)
  have e := same_upd (o := .lst (vs ++ ws)) (rl.noB hp)
  exact q _ _ _ C _ e (rl.new hp) (.lst upd_same ((r.append s).mono e)) k

/-! == -/
def tyN : D → Nat
  | .non => 0 | .bl _ => 1 | .int _ => 2 | .str _ => 3 | _ => 9
/-- == of scalars: what decides is whether they are the same -/
def eqS : D → D → Option Bool
  | .non, .non => some true
  | .int i, .int j => some (decide (i = j))
  | .bl i, .bl j => some (decide (i = j))
  | .str i, .str j => some (decide (i = j))
  | .non, .int _ => some false | .int _, .non => some false | .non, .bl _ => some false | .bl _, .non => some false
  | .non, .str _ => some false | .str _, .non => some false
  | .int _, .str _ => some false | .str _, .int _ => some false | .bl _, .str _ => some false | .str _, .bl _ => some false
  | _, _ => none
theorem eqS_ok {B : Hp} {v w : V} {b : Bool} (h1 : Rep B v x) (h2 : Rep B w y) (e : eqS x y = some b) : scal v w = true ∧ decide (v = w) = b := by
  cases h1 <;> cases h2 <;> first
    | (cases e; exact ⟨rfl, by simp⟩)
    | (cases e)
end

section
variable {B0 : Gr} {C : CH} {P : D → CH → Prop} {x y d : D} {i j : Int} {K : PySem.W.Frag} {ds es : List D} {E : EnvD}
/-! deep data without cells and dicts -/
mutual
def toPy : D → Option PyData
  | .non => some .none
  | .bl b => some (.bool b)
  | .int i => some (.int i)
  | .str x => some (.str x)
  | .tup l => (toPys l).map .tuple
  | .lst l => (toPys l).map .list
  | .dic _ => none
  | .ref _ => none
  | .ty _ => none
  | .dicR _ => none
  | .dicL _ _ => none
  | .fn _ _ => none
def toPys : List D → Option (List PyData)
  | [] => some []
  | d :: r => (toPy d).bind fun a => (toPys r).map fun b => a :: b
end
mutual
theorem toPy_ok {B H : Hp} {K : PySem.W.Frag} (e : Same B H) : ∀ {v : V} {d : D} {p : PyData}, Rep B v d → toPy d = some p → Dp K H v p
  | _, _, _, .non, h => by cases h; exact .non
  | _, _, _, .bl, h => by cases h; exact .bl _
  | _, _, _, .int, h => by cases h; exact .int _
  | _, _, _, .str, h => by cases h; exact .str _
  | _, .tup l, _, .tup ha r, h => by
    have h : (toPys l).map PyData.tuple = some _ := h
    cases q : toPys l with
    | none => rw [q] at h; cases h
    | some ps => rw [q] at h; cases h; exact .tup (SqT.of (e _ _ ha)) (toPys_ok e r q)
  | _, .lst l, _, .lst ha r, h => by
    have h : (toPys l).map PyData.list = some _ := h
    cases q : toPys l with
    | none => rw [q] at h; cases h
    | some ps => rw [q] at h; cases h; exact .lst (SqL.of (e _ _ ha)) (toPys_ok e r q)
  | _, _, _, .dic _ _, h => by cases h
  | _, _, _, .ref, h => by cases h
  | _, _, _, .ty, h => by cases h
  | _, _, _, .dicR _ _, h => by cases h
  | _, _, _, .dicL _ _, h => by cases h
  | _, _, _, .fn _ _, h => by cases h
theorem toPys_ok {B H : Hp} {K : PySem.W.Frag} (e : Same B H) : ∀ {vs : List V} {ds : List D} {ps : List PyData}, Reps B vs ds → toPys ds = some ps → DpAll K H vs ps
  | _, _, _, .nil, h => by cases h; exact .nil
  | _, d :: r, _, .cons h1 hr, h => by
    have h : (toPy d).bind (fun a => (toPys r).map fun b => a :: b) = some _ := h
    cases q : toPy d with
    | none => rw [q] at h; cases h
    | some a =>
      cases q2 : toPys r with
      | none => rw [q, q2] at h; cases h
      | some b => rw [q, q2] at h; cases h; exact .cons (toPy_ok e h1 q) (toPys_ok e hr q2)
end
def rEqU (K : PySem.W.Frag) : R2 := fun x y H Q => rEq x y H Q ∨ rEqD K x y H Q ∨ rEqDA x y H Q
def rNeU (K : PySem.W.Frag) : R2 := fun x y H Q => rNe x y H Q ∨ rNeD K x y H Q ∨ rNeDA x y H Q
theorem op_eqU {X : Cx} {n : Nat} (hr : Room n X.A) : OpR X (compareOp .Eq) (rEqU X.K) := op_eq.or ((op_eqD hr.units).or (op_eq_dictA hr.units0))
theorem op_neU {X : Cx} {n : Nat} (hr : Room n X.A) : OpR X (compareOp .NotEq) (rNeU X.K) := op_ne.or ((op_neD hr.units).or (op_ne_dictA hr.units0))
theorem wr_eq {b : Bool} (h : eqS x y = some b) (k : P (.bl b) C) : WR B0 (rEqU K) x y C P := fun B F H vx vy _ rl hx hy Q q => by
  obtain ⟨h1, h2⟩ := eqS_ok hx hy h
  exact .inl ⟨h1, by rw [h2]; exact q _ _ B C H (Same.refl B) rl .bl k⟩
theorem wr_ne {b : Bool} (h : eqS x y = some b) (k : P (.bl (!b)) C) : WR B0 (rNeU K) x y C P := fun B F H vx vy _ rl hx hy Q q => by
  obtain ⟨h1, h2⟩ := eqS_ok hx hy h
  exact .inl ⟨h1, by rw [h2]; exact q _ _ B C H (Same.refl B) rl .bl k⟩
theorem wr_eqP {p r : PyData} (h1 : toPy x = some p) (h2 : toPy y = some r) (s1 : SeqAt.shaped p = true) (s2 : SeqAt.shaped r = true) (k : P (.bl (PyData.eqv p r)) C) : WR B0 (rEqU K) x y C P := fun B F H vx vy _ rl hx hy Q q =>
  .inr (.inl ⟨p, r, toPy_ok rl.ex hx h1, toPy_ok rl.ex hy h2, s1, s2, q _ _ B C H (Same.refl B) rl .bl k⟩)
theorem wr_neP {p r : PyData} (h1 : toPy x = some p) (h2 : toPy y = some r) (s1 : SeqAt.shaped p = true) (s2 : SeqAt.shaped r = true) (k : P (.bl (!PyData.eqv p r)) C) : WR B0 (rNeU K) x y C P := fun B F H vx vy _ rl hx hy Q q =>
  .inr (.inl ⟨p, r, toPy_ok rl.ex hx h1, toPy_ok rl.ex hy h2, s1, s2, q _ _ B C H (Same.refl B) rl .bl k⟩)

/-! is None -/
def isNonD : D → Bool
  | .non => true | _ => false
theorem rep_non {B : Hp} {v : V} (h : Rep B v d) : decide (v = .non) = isNonD d := by
  cases h <;> simp [isNonD]
theorem wr_isN (k : P (.bl (isNonD x)) C) : WR B0 (fun x y H Q => y = .non ∧ Q (.bl (decide (x = .non))) H) x .non C P := fun B F H vx vy _ rl hx hy Q q => by
  cases hy
  exact ⟨rfl, by rw [rep_non hx]; exact q _ _ B C H (Same.refl B) rl .bl k⟩
theorem wr_notN (k : P (.bl (!isNonD x)) C) : WR B0 (fun x y H Q => y = .non ∧ Q (.bl (!decide (x = .non))) H) x .non C P := fun B F H vx vy _ rl hx hy Q q => by
  cases hy
  exact ⟨rfl, by rw [rep_non hx]; exact q _ _ B C H (Same.refl B) rl .bl k⟩
theorem w_isN {ta : TE} (h : W B0 ta E C fun x C1 => P (.bl (isNonD x)) C1) : W B0 (tIsN ta) E C P := fun B F σ H sb rl re Q q =>
  h B F σ H sb rl re _ fun v d B1 C1 H1 e1 rl1 rp p => by
    show Q (.bl (decide (v = .non))) H1
    rw [rep_non rp]
    exact q _ _ B1 C1 H1 e1 rl1 .bl p
theorem w_notN {ta : TE} (h : W B0 ta E C fun x C1 => P (.bl (!isNonD x)) C1) : W B0 (tNotN ta) E C P := fun B F σ H sb rl re Q q =>
  h B F σ H sb rl re _ fun v d B1 C1 H1 e1 rl1 rp p => by
    show Q (.bl (!decide (v = .non))) H1
    rw [rep_non rp]
    exact q _ _ B1 C1 H1 e1 rl1 .bl p

/-! subscripts -/
theorem wr_ix (hx : SeqD C x ds) (h : atI ds i = some d) (k : P d C) : WR B0 (rIx K) x (.int i) C P := fun B F H vx vy _ rl h1 h2 Q q => by
  cases h2
  obtain ⟨a, vs, rfl, hs, r⟩ := seqD_rd (K := K) rl h1 hx
  obtain ⟨v, h3, h4⟩ := r.at h
  rcases hs with hs | hs
  · exact .inl ⟨a, vs, i, v, rfl, rfl, hs, h3, q _ _ B C H (Same.refl B) rl h4 k⟩
  · exact .inr (.inl ⟨a, vs, i, v, rfl, rfl, hs, h3, q _ _ B C H (Same.refl B) rl h4 k⟩)
theorem wr_ixS {z : Str} {c : Nat} (hl : z.length ≤ 1000000) (h : atI z.cps.toList i = some c) (k : P (.str ⟨#[c]⟩) C) : WR B0 (rIx K) (.str z) (.int i) C P := fun B F H vx vy _ rl h1 h2 Q q => by
  cases h1; cases h2
  exact .inr (.inr ⟨z, i, c, rfl, rfl, Nat.le_trans hl (by decide), h, q _ _ B C H (Same.refl B) rl .str k⟩)
/-- slices -/
def cutD (ds : List D) (lo hi : Option Int) : List D := (ds.drop (HT.sIx ds.length 0 lo)).take (HT.sIx ds.length ds.length hi - HT.sIx ds.length 0 lo)
theorem reps_cut {B : Hp} {vs : List V} (r : Reps B vs ds) (lo hi : Option Int) : Reps B (cutV vs lo hi) (cutD ds lo hi) := by
  unfold cutV cutD
  rw [r.length]
  exact (r.drop _).take _
def WO (B0 : Gr) (to : TO) (E : EnvD) (C : CH) (P : Option Int → CH → Prop) : Prop :=
  ∀ (B F : Hp) (σ : St) (H : Hp), Sb B0 B F → Rel B C F H → RelE B σ E → ∀ Q : Option Int → Hp → Prop,
    (∀ o B' C' H', Same B B' → Rel B' C' F H' → P o C' → Q o H') → to σ H Q
theorem wo_none {PO : Option Int → CH → Prop} (k : PO none C) : WO B0 tNoPart E C PO := fun B _ _ H _ rl _ _ q => q _ B C H (Same.refl B) rl k
theorem wo_some {te : TE} {PO : Option Int → CH → Prop} (h : W B0 te E C fun d C1 => ∃ i, d = .int i ∧ PO (some i) C1) : WO B0 (tPart te) E C PO := fun B F σ H sb rl re Q q =>
  h B F σ H sb rl re _ fun v d B1 C1 H1 e1 rl1 rp ⟨i, hi, p⟩ => by
    subst hi
    cases rp
    exact ⟨i, rfl, q _ B1 C1 H1 e1 rl1 p⟩
def WSl (B0 : Gr) (r : V → Option Int → Option Int → Hp → VK → Prop) (x : D) (lo hi : Option Int) (C : CH) (P : D → CH → Prop) : Prop :=
  ∀ (B F H : Hp) (vx : V), Sb B0 B F → Rel B C F H → Rep B vx x → ∀ Q : VK, (∀ v d B' C' H', Same B B' → Rel B' C' F H' → Rep B' v d → P d C' → Q v H') → r vx lo hi H Q
theorem w_slice {r : V → Option Int → Option Int → Hp → VK → Prop} {te : TE} {tl th : TO} (h : W B0 te E C fun x C1 => WO B0 tl E C1 fun lo C2 => WO B0 th E C2 fun hi C3 => WSl B0 r x lo hi C3 P) : W B0 (tSl r te tl th) E C P := fun B F σ H sb rl re Q q =>
  h B F σ H sb rl re _ fun v d B1 C1 H1 e1 rl1 rp h1 => h1 B1 F σ H1 (sb.trans e1) rl1 (re.mono e1) _ fun lo B2 C2 H2 e2 rl2 h2 =>
    h2 B2 F σ H2 ((sb.trans e1).trans e2) rl2 (re.mono (e1.trans e2)) _ fun hi B3 C3 H3 e3 rl3 h3 =>
      h3 B3 F H3 v (((sb.trans e1).trans e2).trans e3) rl3 (rp.mono (e2.trans e3)) Q fun v d B4 C4 H4 e4 => q v d B4 C4 H4 (((e1.trans e2).trans e3).trans e4)
def rSlU (K : PySem.W.Frag) : V → Option Int → Option Int → Hp → VK → Prop := fun x lo hi H Q => rSlL K x lo hi H Q ∨ rSlA K x lo hi H Q ∨ rSlS x lo hi H Q
theorem sl_U {X : Cx} : SlR X (rSlU X.K) := sl_list.or (sl_tupA.or sl_str)
theorem wsl_lst {lo hi : Option Int} (hx : LstD C x ds) (k : P (.lst (cutD ds lo hi)) C) : WSl B0 (rSlU K) x lo hi C P := fun B F H vx _ rl h1 Q q => by
  obtain ⟨a, vs, rfl, ha, r⟩ := lstD_rd rl h1 hx
  refine .inl ⟨a, vs, rfl, SqL.of ha, fun p hp => ?_⟩
  have e := same_upd (o := .lst (cutV vs lo hi)) (rl.noB hp)
  exact q _ _ _ C _ e (rl.new hp) (.lst upd_same ((reps_cut r lo hi).mono e)) k
theorem wsl_tup {lo hi : Option Int} (k : P (.tup (cutD ds lo hi)) C) : WSl B0 (rSlU K) (.tup ds) lo hi C P := fun B F H vx _ rl h1 Q q => by
  cases h1 with
  | @tup a vs _ ha r =>
  refine .inr (.inl ⟨a, vs, rfl, SqT.of (rl.ex _ _ ha), fun ⟨h1, h2⟩ => ?_, fun _ p hp => ?_⟩)
  · have e : cutD ds lo hi = ds := by
      rw [r.length] at h1 h2
      unfold cutD
      rw [h1, h2]
      simp
    rw [e] at k
    exact q _ _ B C H (Same.refl B) rl (.tup ha r) k
  · have e := same_upd (o := .tup (cutV vs lo hi)) (rl.noB hp)
    exact q _ _ _ C _ e (rl.new hp) (.tup upd_same ((reps_cut r lo hi).mono e)) k
theorem wsl_str {z : Str} {lo hi : Option Int} (hl : z.length ≤ 1000000) (k : P (.str (cutS z lo hi)) C) : WSl B0 (rSlU K) (.str z) lo hi C P := fun B F H vx _ rl h1 Q q => by
  cases h1
  exact .inr (.inr ⟨z, rfl, Nat.le_trans hl (by decide), q _ _ B C H (Same.refl B) rl .str k⟩)
end
end Dv

set_option maxRecDepth 100000
set_option maxHeartbeats 1000000
namespace Dv
open PySem PySem.Spec L2

/-! ### what is walked -/
structure JD (J : It) (B : Hp) (ds : List D) : Prop where
  go : ∀ (i : Nat) (B' F H : Hp) (C : CH), Same B B' → Rel B' C F H → i < ds.length → J.go i H
  stop : ∀ (B' F H : Hp) (C : CH), Same B B' → Rel B' C F H → J.stop ds.length H
  yld : ∀ (i : Nat) (x : V) (B' F H H' : Hp) (C : CH), Same B B' → Rel B' C F H → i < ds.length → J.yld i H x H' → ∃ d B'', ds[i]? = some d ∧ Same B' B'' ∧ Rel B'' C F H' ∧ Rep B'' x d
def WI (B0 : Gr) (wi : TI) (E : EnvD) (C : CH) (P : List D → CH → Prop) : Prop :=
  ∀ (B F : Hp) (σ : St) (H : Hp), Sb B0 B F → Rel B C F H → RelE B σ E → ∀ R : It → Hp → Prop,
    (∀ J ds B' C' H', Same B B' → Rel B' C' F H' → JD J B' ds → P ds C' → R J H') → wi σ H R
theorem jd_list {K : PySem.W.Frag} {B : Hp} {a : Addr} {vs : List V} {ds : List D} (h : B a = some (.lst vs)) (r : Reps B vs ds) : JD (Itl K a) B ds where
  go := fun i B' F H C s rl hi => by
    have hi' : i < vs.length := by rw [r.length]; exact hi
    exact ⟨vs, vs[i], SqL.of (rl.ex _ _ (s _ _ h)), by simp [hi']⟩
  stop := fun B' F H C s rl => ⟨vs, SqL.of (rl.ex _ _ (s _ _ h)), by rw [r.length]; exact Nat.le_refl _⟩
  yld := fun i x B' F H H' C s rl hi y => by
    obtain ⟨e, y⟩ := y
    subst e
    obtain ⟨d, h1, h2⟩ := r.getV (y vs (SqL.of (rl.ex _ _ (s _ _ h))))
    exact ⟨d, B', h1, Same.refl _, rl, h2.mono s⟩
theorem jd_tup {K : PySem.W.Frag} {B : Hp} {a : Addr} {vs : List V} {ds : List D} (h : B a = some (.tup vs)) (r : Reps B vs ds) : JD (Itt K a) B ds where
  go := fun i B' F H C s rl hi => by
    have hi' : i < vs.length := by rw [r.length]; exact hi
    exact ⟨vs, vs[i], SqT.of (rl.ex _ _ (s _ _ h)), by simp [hi']⟩
  stop := fun B' F H C s rl => ⟨vs, SqT.of (rl.ex _ _ (s _ _ h)), by rw [r.length]; exact Nat.le_refl _⟩
  yld := fun i x B' F H H' C s rl hi y => by
    obtain ⟨e, y⟩ := y
    subst e
    obtain ⟨d, h1, h2⟩ := r.getV (y vs (SqT.of (rl.ex _ _ (s _ _ h))))
    exact ⟨d, B', h1, Same.refl _, rl, h2.mono s⟩
def rngD (lo : Int) (n : Nat) : List D := (List.range n).map fun i => D.int (lo + (i : Nat))
theorem rngD_len (lo : Int) (n : Nat) : (rngD lo n).length = n := by simp [rngD]
theorem rngD_at {lo : Int} {n i : Nat} (h : i < n) : (rngD lo n)[i]? = some (.int (lo + (i : Nat))) := by simp [rngD, h]
theorem rngD_mem {lo : Int} {n : Nat} {x : D} (h : x ∈ rngD lo n) : ∃ i : Nat, i < n ∧ x = .int (lo + (i : Nat)) := by
  obtain ⟨i, hi, e⟩ := List.mem_map.mp h
  exact ⟨i, List.mem_range.mp hi, e.symm⟩
theorem rngD_const {lo : Int} {n : Nat} {z : D} : (rngD lo n).map (fun _ => z) = List.replicate n z := by
  unfold rngD
  rw [List.map_map]
  apply List.ext_getElem?
  intro i
  by_cases h : i < n
  · simp [h]
  · simp [h]
theorem rngD_drop {lo : Int} {n i : Nat} (h : i < n) : (rngD lo n).drop i = .int (lo + (i : Nat)) :: (rngD lo n).drop (i + 1) := by
  have e := List.drop_eq_getElem_cons (l := rngD lo n) (i := i) (by rw [rngD_len]; exact h)
  rw [e]
  have q := rngD_at (lo := lo) h
  rw [List.getElem?_eq_getElem (by rw [rngD_len]; exact h)] at q
  rw [Option.some.inj q]
theorem jd_rng {B : Hp} {lo : Int} {n : Nat} : JD (Itr lo n) B (rngD lo n) where
  go := fun i B' F H C s rl hi => by rw [rngD_len] at hi; exact hi
  stop := fun B' F H C s rl => by rw [rngD_len]; exact Nat.le_refl _
  yld := fun i x B' F H H' C s rl hi y => by
    obtain ⟨e, y⟩ := y
    subst e y
    rw [rngD_len] at hi
    exact ⟨_, B', rngD_at hi, Same.refl _, rl, .int⟩
section
variable {B0 : Gr} {C : CH} {K : PySem.W.Frag} {E : EnvD} {PI' : List D → CH → Prop} {tl : TE} {ta : TA}
theorem wi_list (h : W B0 tl E C fun d C1 => ∃ ds, d = .lst ds ∧ PI' ds C1) : WI B0 (iList K tl) E C PI' := fun B F σ H sb rl re R q =>
  h B F σ H sb rl re _ fun v d B1 C1 H1 e1 rl1 rp ⟨ds, hd, p⟩ => by
    subst hd
    cases rp with
    | lst ha r => exact ⟨_, rfl, ⟨_, SqL.of (rl1.ex _ _ ha)⟩, q _ ds B1 C1 H1 e1 rl1 (jd_list ha r) p⟩
theorem wi_tup (h : W B0 tl E C fun d C1 => ∃ ds, d = .tup ds ∧ PI' ds C1) : WI B0 (iTup K tl) E C PI' := fun B F σ H sb rl re R q =>
  h B F σ H sb rl re _ fun v d B1 C1 H1 e1 rl1 rp ⟨ds, hd, p⟩ => by
    subst hd
    cases rp with
    | tup ha r => exact ⟨_, rfl, ⟨_, SqT.of (rl1.ex _ _ ha)⟩, q _ ds B1 C1 H1 e1 rl1 (jd_tup ha r) p⟩
theorem wi_rng1 (h : WA B0 ta E C fun ds C1 => ∃ n : Int, ds = [.int n] ∧ n < 2 ^ 62 ∧ -(2 ^ 62) ≤ n ∧ PI' (rngD 0 n.toNat) C1) : WI B0 (iRng1 ta) E C PI' := fun B F σ H sb rl re R q =>
  h B F σ H sb rl re _ fun vs ds B1 C1 H1 e1 rl1 rp ⟨n, hd, h1, h2, p⟩ => by
    subst hd
    cases rp with
    | cons a r =>
      cases a
      cases r
      exact ⟨n, rfl, h2, h1, q _ _ B1 C1 H1 e1 rl1 jd_rng p⟩
theorem wi_rng2 (h : WA B0 ta E C fun ds C1 => ∃ m n : Int, ds = [.int m, .int n] ∧ (-(2 ^ 62) ≤ m ∧ m < 2 ^ 62 ∧ -(2 ^ 62) ≤ n ∧ n < 2 ^ 62) ∧ PI' (rngD m (n - m).toNat) C1) : WI B0 (iRng2 ta) E C PI' := fun B F σ H sb rl re R q =>
  h B F σ H sb rl re _ fun vs ds B1 C1 H1 e1 rl1 rp ⟨m, n, hd, h1, p⟩ => by
    subst hd
    cases rp with
    | cons a r =>
      cases a
      cases r with
      | cons b r =>
        cases b
        cases r
        exact ⟨m, n, rfl, h1, q _ _ B1 C1 H1 e1 rl1 jd_rng p⟩
end
/-- a list or a tuple walked -/
def iSeq (K : PySem.W.Frag) (tl : TE) : TI := fun σ H R => tl σ H fun x H1 => ∃ a, x = .ref a ∧ ((∃ xs, SqL K H1 a xs) ∧ R (Itl K a) H1 ∨ (∃ xs, SqT K H1 a xs) ∧ R (Itt K a) H1)
theorem pi_seq {X : Cx} {tg l : Expr} {tl : TE} (hl : PE X l tl) : PI X tg l (iSeq X.K tl) := by
  constructor
  intro pins s σ H R I h
  refine thn (hl.run pins s σ H _ I h) ?_
  rintro v s1 ⟨x, H1, J1, r1, a, e, hh⟩
  subst e
  cases r1
  have fresh := J1.fpOk (Nat.le_refl s1.heap.objs.size) (J1.hok.fresh (Nat.le_refl _))
  rcases hh with ⟨⟨xs, hq⟩, q⟩ | ⟨⟨xs, hq⟩, q⟩
  · obtain ⟨its, _, p, _⟩ := J1.list hq
    apply wpAny_pyIter_list p.isList
    refine ⟨_, [_], _, _, H1, rfl, J1.kept (t' := s1.toks) ?_, turn_list a _, ⟨_, Heap.get?_push_size _ rfl, rfl, rfl⟩, ?_, q⟩
    · intro b o eb
      exact Heap.get?_push_of_some _ eb
    · intro b hb
      obtain rfl : b = s1.heap.objs.size := by simpa using hb
      exact fresh
  · obtain ⟨its, _, p, _⟩ := J1.tuple hq
    apply wpAny_pyIter_tuple (show s1.heap.IsTuple a its.toArray from p)
    refine ⟨_, [_], _, _, H1, rfl, J1.kept (t' := s1.toks) ?_, turn_tuple a _, ⟨_, Heap.get?_push_size _ rfl, rfl, rfl⟩, ?_, q⟩
    · intro b o eb
      exact Heap.get?_push_of_some _ eb
    · intro b hb
      obtain rfl : b = s1.heap.objs.size := by simpa using hb
      exact fresh
section
variable {B0 : Gr} {C : CH} {K : PySem.W.Frag} {E : EnvD} {PI' : List D → CH → Prop} {tl : TE}
/-- frozen data that can be walked -/
inductive SeqF : D → List D → Prop
  | lst {ds : List D} : SeqF (.lst ds) ds
  | tup {ds : List D} : SeqF (.tup ds) ds
theorem wi_seq (h : W B0 tl E C fun d C1 => ∃ ds, SeqF d ds ∧ PI' ds C1) : WI B0 (iSeq K tl) E C PI' := fun B F σ H sb rl re R q =>
  h B F σ H sb rl re _ fun v d B1 C1 H1 e1 rl1 rp ⟨ds, hd, p⟩ => by
    cases hd with
    | lst =>
      cases rp with
      | lst ha r => exact ⟨_, rfl, .inl ⟨⟨_, SqL.of (rl1.ex _ _ ha)⟩, q _ ds B1 C1 H1 e1 rl1 (jd_list ha r) p⟩⟩
    | tup =>
      cases rp with
      | tup ha r => exact ⟨_, rfl, .inr ⟨⟨_, SqT.of (rl1.ex _ _ ha)⟩, q _ ds B1 C1 H1 e1 rl1 (jd_tup ha r) p⟩⟩
end

/-! ### for -/
section
variable {B0 : Gr} {C : CH} {E : EnvD} {D1 : EndD} {wi : TI} {g : TG} {tb : TS}
/-- L: what holds by the items that are left -/
theorem ws_for (L : List D → EnvD → CH → Prop) (h : WI B0 wi E C fun ds C1 => L ds E C1) (hn : ∀ E1 C1, L [] E1 C1 → D1.nx E1 C1)
    (hs : ∀ x xs E1 C1, L (x :: xs) E1 C1 → WG B0 g x E1 C1 fun E2 C2 => WS B0 tb E2 C2 { D1 with nx := L xs, ct := L xs, bk := D1.nx }) : WS B0 (tFor wi g tb) E C D1 := fun B F σ H sb rl re Dn ok =>
  h B F σ H sb rl re _ fun J ds B1 C1 H1 e1 rl1 jd l0 => by
    have main : ∀ (i : Nat) (σ' : St) (H' : Hp), (∃ B' C' E', Same B1 B' ∧ Rel B' C' F H' ∧ RelE B' σ' E' ∧ L (ds.drop i) E' C') → i < ds.length →
        ∀ x H2, J.yld i H' x H2 → g x σ' H2 fun σ2 H2 => tb { Dn with
          nx := fun σ3 H3 => ∃ B' C' E', Same B1 B' ∧ Rel B' C' F H3 ∧ RelE B' σ3 E' ∧ L (ds.drop (i + 1)) E' C'
          ct := fun σ3 H3 => ∃ B' C' E', Same B1 B' ∧ Rel B' C' F H3 ∧ RelE B' σ3 E' ∧ L (ds.drop (i + 1)) E' C'
          bk := Dn.nx } σ2 H2 := by
      rintro i σ' H' ⟨B', C', E', s', rl', re', l⟩ hi x H2 y
      obtain ⟨d, B2, hd, s2, rl2, rp2⟩ := jd.yld i x B' F H' H2 C' s' rl' hi y
      have e : ds.drop i = d :: ds.drop (i + 1) := by
        rw [List.drop_eq_getElem_cons hi]
        rw [List.getElem?_eq_getElem hi] at hd
        rw [Option.some.inj hd]
      rw [e] at l
      have sb2 : Same B B2 := (e1.trans s').trans s2
      refine hs d _ E' C' l B2 F σ' H2 x (sb.trans sb2) rl2 (re'.mono s2) rp2 _ fun σ3 E3 B3 C3 H3 s3 rl3 re3 w => ?_
      refine w B3 F σ3 H3 (sb.trans (sb2.trans s3)) rl3 re3 _ ⟨?_, ?_, ?_, ?_⟩
      · exact fun σ4 E4 B4 C4 H4 s4 rl4 re4 l4 => ⟨B4, C4, E4, ((s'.trans s2).trans s3).trans s4, rl4, re4, l4⟩
      · exact fun v d B4 C4 H4 s4 rl4 rp4 k => ok.rt v d B4 C4 H4 ((sb2.trans s3).trans s4) rl4 rp4 k
      · exact fun σ4 E4 B4 C4 H4 s4 rl4 re4 k => ok.nx σ4 E4 B4 C4 H4 ((sb2.trans s3).trans s4) rl4 re4 k
      · exact fun σ4 E4 B4 C4 H4 s4 rl4 re4 l4 => ⟨B4, C4, E4, ((s'.trans s2).trans s3).trans s4, rl4, re4, l4⟩
    refine ⟨fun i m σ' H' => m = ds.length - i ∧ i ≤ ds.length ∧ ∃ B' C' E', Same B1 B' ∧ Rel B' C' F H' ∧ RelE B' σ' E' ∧ L (ds.drop i) E' C',
      ⟨ds.length, by simp, Nat.zero_le _, B1, C1, E, Same.refl _, rl1, re.mono e1, by simpa using l0⟩, ?_⟩
    rintro i m σ' H' ⟨rfl, hi, z⟩
    by_cases hlt : i < ds.length
    · obtain ⟨B', C', E', s', rl', re', l⟩ := id z
      exact .inr ⟨jd.go i B' F H' C' s' rl' hlt, _, fun σ2 H2 n => ⟨ds.length - (i + 1), by omega, rfl, hlt, n⟩, main i σ' H' z hlt⟩
    · obtain ⟨B', C', E', s', rl', re', l⟩ := z
      have e : i = ds.length := by omega
      subst e
      rw [List.drop_length] at l
      exact .inl ⟨jd.stop B' F H' C' s' rl', ok.nx σ' E' B' C' H' (e1.trans s') rl' re' (hn _ _ l)⟩
end

/-! ### comprehensions -/
def wipeE (E : EnvD) : List Nat → EnvD
  | [] => E
  | v :: vs => (wipeE E vs).set v none
theorem relE_wipe {B : Hp} {σ : St} {E : EnvD} (r : RelE B σ E) : ∀ vs : List Nat, RelE B (wipe σ vs) (wipeE E vs)
  | [] => r
  | v :: vs => (relE_wipe r vs).unset v
theorem wipe_get (σ : St) (i : Nat) : ∀ vs : List Nat, (wipe σ vs)[i]? = if i ∈ vs then (σ[i]?).map (fun _ => none) else σ[i]?
  | [] => by simp [wipe]
  | v :: vs => by
    unfold wipe
    by_cases e : v = i
    · subst e
      rw [if_pos (List.mem_cons_self ..)]
      by_cases hl : v < σ.length
      · rw [List.getElem?_set_self (by rw [wipe_length]; exact hl), List.getElem?_eq_getElem hl]; rfl
      · rw [List.getElem?_eq_none (by rw [List.length_set, wipe_length]; omega), List.getElem?_eq_none (by omega)]; rfl
    · rw [List.getElem?_set_ne e, wipe_get σ i vs]
      have : (i ∈ v :: vs) ↔ i ∈ vs := by
        rw [List.mem_cons]
        exact ⟨fun h => h.elim (fun z => absurd z.symm e) id, .inr⟩
      by_cases m : i ∈ vs
      · rw [if_pos m, if_pos (this.mpr m)]
      · rw [if_neg m, if_neg (fun z => m (this.mp z))]
theorem wipe_set {σ : St} {j : Nat} {x : Option V} {vs : List Nat} (h : j ∈ vs) : wipe (σ.set j x) vs = wipe σ vs := by
  apply List.ext_getElem?
  intro i
  rw [wipe_get, wipe_get]
  by_cases m : i ∈ vs
  · rw [if_pos m, if_pos m]
    by_cases e : j = i
    · subst e
      by_cases hl : j < σ.length
      · rw [List.getElem?_set_self hl, List.getElem?_eq_getElem hl]; rfl
      · rw [List.getElem?_eq_none (by rw [List.length_set]; omega), List.getElem?_eq_none (by omega)]
    · rw [List.getElem?_set_ne e]
  · rw [if_neg m, if_neg m, List.getElem?_set_ne (fun e : j = i => m (by rw [← e]; exact h))]
theorem wipe_wipe (σ : St) (vs : List Nat) : wipe (wipe σ vs) vs = wipe σ vs := by
  apply List.ext_getElem?
  intro i
  rw [wipe_get, wipe_get]
  by_cases m : i ∈ vs
  · simp [m]
    cases σ[i]? <;> rfl
  · simp [m]
/-- the target stores into the slots vs alone -/
def Sets (g : TG) (vs : List Nat) : Prop := ∀ v σ H (Q : St → Hp → Prop), g v σ H Q → g v σ H fun σ2 H2 => Q σ2 H2 ∧ wipe σ2 vs = wipe σ vs
def SetsS (g : TGs) (vs : List Nat) : Prop := ∀ v σ H (Q : St → Hp → Prop), g v σ H Q → g v σ H fun σ2 H2 => Q σ2 H2 ∧ wipe σ2 vs = wipe σ vs
theorem sets_name {j : Nat} {vs : List Nat} (h : j ∈ vs) : Sets (gName j) vs := fun v σ H Q q => ⟨q, wipe_set h⟩
theorem sets_nil {vs : List Nat} : SetsS gNil vs := fun v σ H Q ⟨e, q⟩ => ⟨e, q, rfl⟩
theorem sets_cons {j : Nat} {gs : TGs} {vs : List Nat} (h : j ∈ vs) (r : SetsS gs vs) : SetsS (gCons (gName j) gs) vs := fun v σ H Q ⟨a, rest, e, q⟩ => by
  have q : gs rest (σ.set j (some a)) H fun σ' H' => Q σ' H' := q
  have q2 := r _ _ _ _ q
  rw [wipe_set h] at q2
  exact ⟨a, rest, e, q2⟩
theorem sets_tup {K : PySem.W.Frag} {n : Nat} {gs : TGs} {vs : List Nat} (r : SetsS gs vs) : Sets (gTup K n gs) vs := fun v σ H Q ⟨a, xs, e, h1, h2, q⟩ => ⟨a, xs, e, h1, h2, r _ _ _ _ q⟩
section
variable {B0 : Gr} {C : CH} {E : EnvD} {P : D → CH → Prop} {wi : TI} {g : TG} {tt : TT} {te : TE} {vs : List Nat}
/-- L: by the items left and those made -/
theorem w_lcQ (cell : Bool) (L : List D → List D → CH → Prop) (st : Sets g vs) (h : WI B0 wi E C fun ds C1 => ds.length ≤ 1000000 ∧ L ds [] C1)
    (hn : ∀ acc C1, L [] acc C1 → if cell then ∀ a, C1 a = none → P (.ref a) (updC C1 a (.lst acc)) else P (.lst acc) C1)
    (hs : ∀ x xs acc C1, L (x :: xs) acc C1 → WG B0 g x (wipeE E vs) C1 fun E2 C2 => WT B0 tt E2 C2 fun b C3 =>
      (b = true → W B0 te E2 C3 fun y C4 => L xs (acc ++ [y]) C4) ∧ (b = false → L xs acc C3)) : W B0 (tLc wi g tt te vs) E C P := fun B F σ H sb rl re Q q =>
  h B F σ H sb rl re _ fun J ds B1 C1 H1 e1 rl1 jd ⟨hlen, l0⟩ Dl hD => by
    have hF := rl1.noF hD
    refine ⟨fun i m H' => m = ds.length - i ∧ i ≤ ds.length ∧ ∃ B' C' vacc acc, Same B1 B' ∧ Rel B' C' (upd F Dl (.lst vacc)) H' ∧ Reps B' vacc acc ∧ acc.length ≤ i ∧ L (ds.drop i) acc C',
      ⟨ds.length, by simp, Nat.zero_le _, B1, C1, [], [], Same.refl _, rl1.newF hD, .nil, Nat.le_refl _, by simpa using l0⟩, ?_⟩
    rintro i m H' ⟨rfl, hi, B', C', vacc, acc, s', rl', ra, hal, l⟩
    by_cases hlt : i < ds.length
    · refine .inr ⟨jd.go i B' _ H' C' s' rl' hlt, fun H2 => ∃ B' C' vacc acc, Same B1 B' ∧ Rel B' C' (upd F Dl (.lst vacc)) H2 ∧ Reps B' vacc acc ∧ acc.length ≤ i + 1 ∧ L (ds.drop (i + 1)) acc C',
        fun H2 n => ⟨ds.length - (i + 1), by omega, rfl, hlt, n⟩, fun x H2 y => ?_⟩
      obtain ⟨d, B2, hd, s2, rl2, rp2⟩ := jd.yld i x B' _ H' H2 C' s' rl' hlt y
      have e : ds.drop i = d :: ds.drop (i + 1) := by
        rw [List.drop_eq_getElem_cons hlt]
        rw [List.getElem?_eq_getElem hlt] at hd
        rw [Option.some.inj hd]
      rw [e] at l
      have sb2 : Same B B2 := (e1.trans s').trans s2
      replace sb : Sb B0 B (upd F Dl (.lst vacc)) := sb.grow (same_upd hF)
      have z := hs d _ acc C' l B2 _ (wipe σ vs) H2 x (sb.trans sb2) rl2 (relE_wipe (re.mono sb2) vs) rp2 (fun σ3 H3 => tt σ3 H3 fun b H3 =>
        if b = true then te σ3 H3 fun y H4 => ∃ acc, H4 Dl = some (.lst acc) ∧ acc.length < sizeLine ∧ ∃ B' C' vacc' acc', Same B1 B' ∧ Rel B' C' (upd F Dl (.lst vacc')) (upd H4 Dl (.lst (acc ++ [y]))) ∧ Reps B' vacc' acc' ∧ acc'.length ≤ i + 1 ∧ L (ds.drop (i + 1)) acc' C'
        else ∃ B' C' vacc acc, Same B1 B' ∧ Rel B' C' (upd F Dl (.lst vacc)) H3 ∧ Reps B' vacc acc ∧ acc.length ≤ i + 1 ∧ L (ds.drop (i + 1)) acc C') fun σ3 E3 B3 C3 H3 s3 rl3 re3 w => ?_
      · have z2 := st _ _ _ _ z
        rw [wipe_wipe] at z2
        refine cast ?_ z2
        congr 1
        funext σ2 H2
        exact propext ⟨fun ⟨a, b⟩ => ⟨b, a⟩, fun ⟨a, b⟩ => ⟨b, a⟩⟩
      · refine w B3 _ σ3 H3 (sb.trans (sb2.trans s3)) rl3 re3 _ fun b B4 C4 H4 s4 rl4 p => ?_
        cases b with
        | false =>
          refine ⟨B4, C4, vacc, acc, ((s'.trans s2).trans s3).trans s4, rl4, ra.mono ((s2.trans s3).trans s4), by omega, p.2 rfl⟩
        | true =>
          refine p.1 rfl B4 _ σ3 H4 (sb.trans ((sb2.trans s3).trans s4)) rl4 (re3.mono s4) _ fun v y B5 C5 H5 s5 rl5 rp5 l5 => ?_
          have hl5 : H5 Dl = some (.lst vacc) := rl5.fr _ _ upd_same
          have rlen := ra.length
          refine ⟨vacc, hl5, Nat.lt_of_le_of_lt (by omega : vacc.length ≤ 1000000) (by decide), B5, C5, vacc ++ [v], acc ++ [y], (((s'.trans s2).trans s3).trans s4).trans s5, rl5.writeF,
            (ra.mono (((s2.trans s3).trans s4).trans s5)).append (.one rp5), by simp; omega, l5⟩
    · have e : i = ds.length := by omega
      subst e
      rw [List.drop_length] at l
      have k := hn _ _ l
      refine .inl ⟨jd.stop B' _ H' C' s' rl', ?_⟩
      cases cell with
      | false =>
        have sf := same_upd (o := .lst vacc) (rl'.bf Dl _ upd_same)
        exact q _ _ _ C' _ ((e1.trans s').trans sf) (rl'.freezeF hF) (.lst upd_same (ra.mono sf)) k
      | true => exact q _ _ B' _ _ (e1.trans s') (rl'.cellF hF (.lst ra)) .ref (k Dl (rl'.cf Dl _ upd_same))
theorem w_lc (L : List D → List D → CH → Prop) (st : Sets g vs) (h : WI B0 wi E C fun ds C1 => ds.length ≤ 1000000 ∧ L ds [] C1) (hn : ∀ acc C1, L [] acc C1 → P (.lst acc) C1)
    (hs : ∀ x xs acc C1, L (x :: xs) acc C1 → WG B0 g x (wipeE E vs) C1 fun E2 C2 => WT B0 tt E2 C2 fun b C3 =>
      (b = true → W B0 te E2 C3 fun y C4 => L xs (acc ++ [y]) C4) ∧ (b = false → L xs acc C3)) : W B0 (tLc wi g tt te vs) E C P := w_lcQ false L st h hn hs
theorem w_lcC (L : List D → List D → CH → Prop) (st : Sets g vs) (h : WI B0 wi E C fun ds C1 => ds.length ≤ 1000000 ∧ L ds [] C1) (hn : ∀ acc C1, L [] acc C1 → ∀ a, C1 a = none → P (.ref a) (updC C1 a (.lst acc)))
    (hs : ∀ x xs acc C1, L (x :: xs) acc C1 → WG B0 g x (wipeE E vs) C1 fun E2 C2 => WT B0 tt E2 C2 fun b C3 =>
      (b = true → W B0 te E2 C3 fun y C4 => L xs (acc ++ [y]) C4) ∧ (b = false → L xs acc C3)) : W B0 (tLc wi g tt te vs) E C P := w_lcQ true L st h hn hs
theorem wt_yes {PB : Bool → CH → Prop} (k : PB true C) : WT B0 tYes E C PB := fun B F σ H _ rl _ _ q => q _ B C H (Same.refl B) rl k
/-- the common case: each item gives f of it, nothing else changes -/
theorem w_lcMap {j : Nat} (f : D → D) (hj : j ∈ vs) (h : WI B0 wi E C fun ds C1 => ds.length ≤ 1000000 ∧ (∀ x ∈ ds, W B0 te ((wipeE E vs).set j (some x)) C1 fun y C4 => y = f x ∧ C4 = C1) ∧ P (.lst (ds.map f)) C1) :
    W B0 (tLc wi (gName j) tYes te vs) E C P := by
  refine w_lc (fun rest acc C1 => ∃ ds, (∀ x ∈ ds, W B0 te ((wipeE E vs).set j (some x)) C1 fun y C4 => y = f x ∧ C4 = C1) ∧ P (.lst (ds.map f)) C1 ∧ ∃ pre, ds = pre ++ rest ∧ acc = pre.map f) (sets_name hj) ?_ ?_ ?_
  · exact fun B F σ H sb rl re R q => h B F σ H sb rl re R fun J ds B' C' H' e r jd ⟨a, b, c⟩ => q J ds B' C' H' e r jd ⟨a, ds, b, c, [], rfl, rfl⟩
  · rintro acc C1 ⟨ds, _, p, pre, rfl, rfl⟩
    simpa using p
  · rintro x xs acc C1 ⟨ds, hw, p, pre, rfl, rfl⟩
    refine wg_name (wt_yes ⟨fun _ => ?_, fun z => by cases z⟩)
    refine (hw x (by simp)).imp fun y C4 ⟨hy, hc⟩ => ?_
    subst hy hc
    exact ⟨_, hw, p, pre ++ [x], by simp, by simp⟩
/-- .. and each item that passes t -/
theorem w_lcFilter {j : Nat} (f : D → D) (b : D → Bool) (hj : j ∈ vs) (h : WI B0 wi E C fun ds C1 => ds.length ≤ 1000000 ∧
      (∀ x ∈ ds, WT B0 tt ((wipeE E vs).set j (some x)) C1 fun k C4 => k = b x ∧ C4 = C1) ∧
      (∀ x ∈ ds, b x = true → W B0 te ((wipeE E vs).set j (some x)) C1 fun y C4 => y = f x ∧ C4 = C1) ∧ P (.lst ((ds.filter b).map f)) C1) :
    W B0 (tLc wi (gName j) tt te vs) E C P := by
  refine w_lc (fun rest acc C1 => ∃ ds, (∀ x ∈ ds, WT B0 tt ((wipeE E vs).set j (some x)) C1 fun k C4 => k = b x ∧ C4 = C1) ∧ (∀ x ∈ ds, b x = true → W B0 te ((wipeE E vs).set j (some x)) C1 fun y C4 => y = f x ∧ C4 = C1) ∧ P (.lst ((ds.filter b).map f)) C1 ∧ ∃ pre, ds = pre ++ rest ∧ acc = (pre.filter b).map f) (sets_name hj) ?_ ?_ ?_
  · exact fun B F σ H sb rl re R q => h B F σ H sb rl re R fun J ds B' C' H' e r jd ⟨a, t, w, c⟩ => q J ds B' C' H' e r jd ⟨a, ds, t, w, c, [], rfl, rfl⟩
  · rintro acc C1 ⟨ds, _, _, p, pre, rfl, rfl⟩
    simpa using p
  · rintro x xs acc C1 ⟨ds, ht, hw, p, pre, rfl, rfl⟩
    refine wg_name ?_
    intro B F σ H sb rl re Q q
    refine ht x (by simp) B F σ H sb rl re Q fun k B' C' H' e rl' ⟨hk, hc⟩ => q k B' C' H' e rl' ⟨fun kt => ?_, fun kf => ?_⟩
    · subst hc
      rw [kt] at hk
      refine (hw x (by simp) hk.symm).imp fun y C4 ⟨hy, hc⟩ => ?_
      subst hy hc
      exact ⟨_, ht, hw, p, pre ++ [x], by simp, by simp [← hk]⟩
    · subst hc
      rw [kf] at hk
      exact ⟨_, ht, hw, p, pre ++ [x], by simp, by simp [← hk]⟩
end

/-! ### calls of defs -/
abbrev SpD := List D → CH → (D → CH → Prop) → Prop
def spD (f : SpD) : Sp := fun vs H Q _ => ∃ (B F : Hp) (C : CH) (ds : List D) (P : D → CH → Prop), Rel B C F H ∧ Reps B vs ds ∧ f ds C P ∧
  ∀ v d B' C' H', Same B B' → Rel B' C' F H' → Rep B' v d → P d C' → Q v H'
theorem w_call {B0 : Gr} {f : SpD} {E0' : XK} {tA : TA} {E : EnvD} {C : CH} {P : D → CH → Prop} (h : WA B0 tA E C fun ds C1 => f ds C1 P) : W B0 (tCall (spD f) [] E0' tA) E C P := fun B F σ H sb rl re Q q =>
  h B F σ H sb rl re _ fun vs ds B1 C1 H1 e1 rl1 rp p => ⟨B1, F, C1, ds, P, rl1, by rw [List.append_nil]; exact rp, p, fun v d B' C' H' e => q v d B' C' H' (e1.trans e)⟩
section
variable {P : Program} {w : World} {K : PySem.W.Frag} {mg : Str → Option Value} {base : Heap}
def Has (P : Program) (w : World) (K : PySem.W.Frag) (mg : Str → Option Value) (base : Heap) (k : Nat) (x : Str) (ps : List Str) (sp : Sp) : Prop :=
  ∃ f fd, FnOk P w K mg base CX0 k f fd ps sp ∧ mg x = some (.ref f) ∧ PySem.W.keepIn K (.ref f) = true ∧ Binds K fd ps []
/-- a def of the top, as it stands -/
def DefAt (K : PySem.W.Frag) (mg : Str → Option Value) (x : Str) (st : Stmt) (ps : List Str) : Prop :=
  ∃ f fd, Fun K x x st f fd ∧ mg x = some (.ref f) ∧ Binds K fd ps []
theorem Has.mono {j k : Nat} {x : Str} {ps : List Str} {sp : Sp} (h : Has P w K mg base j x ps sp) (l : j ≤ k) : Has P w K mg base k x ps sp := by
  obtain ⟨f, fd, a, b, c, d⟩ := h
  exact ⟨f, fd, a.mono l, b, c, d⟩
theorem Has.imp {k : Nat} {x : Str} {ps : List Str} {f g : SpD} (h : Has P w K mg base k x ps (spD f)) (l : ∀ ds C P, g ds C P → f ds C P) : Has P w K mg base k x ps (spD g) := by
  obtain ⟨a, fd, F, b, c, d⟩ := h
  exact ⟨a, fd, F.imp fun vs H Q E ⟨B, F, C, ds, P, r, rp, g, q⟩ => ⟨B, F, C, ds, P, r, rp, l _ _ _ g, q⟩, b, c, d⟩
theorem has_of {x : Str} {st : Stmt} {N ps : List Str} {k : Nat} {g : SpD} (Df : DefAt K mg x st ps) (S : FnScope N ps (defScope st)) (len : ∀ ds C P, g ds C P → ds.length = ps.length)
    (hbody : ∀ (f : Addr) (cdv : Value) (A : Around) (outer : List PySem.Env) (s : Shared) (H : Hp) (E : XK), Room k (A.deeper (PyProof.Rows.envOfC x (defScope st) s.heap.objs.size f cdv)) →
      ∃ t, PSs (cxOf CX0 P w K mg base N x (defScope st) f cdv A outer s H E).nox (defBody st) t ∧ ∀ (B : Gr) ds C PD, g ds C PD → WS B t (startD N.length ds) C { nx := fun _ C' => PD .non C', rt := PD }) :
    Has P w K mg base (k + 1) x ps (spD g) := by
  obtain ⟨f, fd, F, hm, hb⟩ := Df
  refine ⟨f, fd, F.ok S ?_ ?_, hm, F.kp, hb⟩
  · rintro vs H Q E ⟨B, F, C, ds, P, _, rp, h, _⟩
    rw [rp.length]
    exact len _ _ _ h
  · intro cdv A outer s H vs Q E hr h
    obtain ⟨t, h1, h2⟩ := hbody f cdv A outer s H E hr
    obtain ⟨B, F, C, ds, P, rl, rp, hg, q⟩ := h
    refine ⟨t, h1, h2 ⟨B, F⟩ ds C P hg B F _ H (Sb.refl B F) rl (RelE.begin rp) _ ⟨?_, ?_, ?_, ?_⟩⟩
    · exact fun σ' E' B' C' H' e rl' _ p => q .non .non B' C' H' e rl' .non p
    · exact fun v d B' C' H' e rl' rp' p => q v d B' C' H' e rl' rp' p
    · exact fun _ _ _ _ _ _ _ _ z => z
    · exact fun _ _ _ _ _ _ _ _ z => z
end
/-! ### what is called with the law's script -/
abbrev SpS := List Int → CH → (D → CH → Prop) → Prop
def spScr (K : PySem.W.Frag) (g : SpS) : Sp := fun vs H Q _ => ∃ (B F : Hp) (C : CH) (a : Addr) (ns : List Int) (P : D → CH → Prop), Rel B C F H ∧ vs = [.ref a] ∧ SqL K B a (ns.map V.int) ∧ g ns C P ∧
  ∀ v d B' C' H', Same B B' → Rel B' C' F H' → Rep B' v d → P d C' → Q v H'
theorem w_callScr {K : PySem.W.Frag} {B0 : Gr} {g : SpS} {E0' : XK} {E : EnvD} {C : CH} {P : D → CH → Prop} {i : Nat} {a : Addr} {ns : List Int} (he : E[i]? = some (some (.ref a))) (hs : SqL K B0.b a (ns.map V.int)) (h : g ns C P) :
    W B0 (tCall (spScr K g) [] E0' (tCons (tVar i) tNil)) E C P := fun B F σ H sb rl re Q q => by
  obtain ⟨v, h1, h2⟩ := re.get i _ he
  cases h2
  exact ⟨_, h1, B, F, C, a, ns, P, rl, rfl, sb.1.seq hs, h, q⟩
section
variable {P : Program} {w : World} {K : PySem.W.Frag} {mg : Str → Option Value} {base : Heap}
theorem fn_ofScr {x : Str} {st : Stmt} {N : List Str} {p : Str} {k : Nat} {g : SpS} {f : Addr} {fd : FuncData} (F : Fun K x x st f fd) (S : FnScope N [p] (defScope st))
    (hbody : ∀ (f : Addr) (cdv : Value) (A : Around) (outer : List PySem.Env) (s : Shared) (H : Hp) (E : XK), Room k (A.deeper (PyProof.Rows.envOfC x (defScope st) s.heap.objs.size f cdv)) →
      ∃ t, PSs (cxOf CX0 P w K mg base N x (defScope st) f cdv A outer s H E).nox (defBody st) t ∧ ∀ (B : Gr) a ns C PD, SqL K B.b a (ns.map V.int) → g ns C PD → WS B t (startD N.length [.ref a]) C { nx := fun _ C' => PD .non C', rt := PD }) :
    FnOk P w K mg base CX0 (k + 1) f fd [p] (spScr K g) := by
  refine F.ok S ?_ ?_
  · rintro vs H Q E ⟨B, F, C, a, ns, P, _, rfl, _⟩
    rfl
  · intro cdv A outer s H vs Q E hr h
    obtain ⟨t, h1, h2⟩ := hbody f cdv A outer s H E hr
    obtain ⟨B, F, C, a, ns, P, rl, rfl, hs, hg, q⟩ := h
    refine ⟨t, h1, h2 ⟨B, F⟩ a ns C P hs hg B F _ H (Sb.refl B F) rl (RelE.begin (.one .ref)) _ ⟨?_, ?_, ?_, ?_⟩⟩
    · exact fun σ' E' B' C' H' e rl' _ p => q .non .non B' C' H' e rl' .non p
    · exact fun v d B' C' H' e rl' rp' p => q v d B' C' H' e rl' rp' p
    · exact fun _ _ _ _ _ _ _ _ z => z
    · exact fun _ _ _ _ _ _ _ _ z => z
theorem has_ofScr {x : Str} {st : Stmt} {N : List Str} {p : Str} {k : Nat} {g : SpS} (Df : DefAt K mg x st [p]) (S : FnScope N [p] (defScope st))
    (hbody : ∀ (f : Addr) (cdv : Value) (A : Around) (outer : List PySem.Env) (s : Shared) (H : Hp) (E : XK), Room k (A.deeper (PyProof.Rows.envOfC x (defScope st) s.heap.objs.size f cdv)) →
      ∃ t, PSs (cxOf CX0 P w K mg base N x (defScope st) f cdv A outer s H E).nox (defBody st) t ∧ ∀ (B : Gr) a ns C PD, SqL K B.b a (ns.map V.int) → g ns C PD → WS B t (startD N.length [.ref a]) C { nx := fun _ C' => PD .non C', rt := PD }) :
    Has P w K mg base (k + 1) x [p] (spScr K g) := by
  obtain ⟨f, fd, F, hm, hb⟩ := Df
  exact ⟨f, fd, fn_ofScr F S hbody, hm, F.kp, hb⟩
/-- what law(script) promises -/
def spLaw (K : PySem.W.Frag) : Sp := fun vs H Q _ => ∃ (a : Addr) (ns : List Int), vs = [.ref a] ∧ SqL K H a (ns.map V.int) ∧ ns.length ≤ 63 ∧ ∀ H', Q (.bl true) H'
/-- the law from its promise over deep values -/
theorem law_of {k : Nat} {f : Addr} {fd : FuncData} {ps : List Str} (F : FnOk P w K mg base CX0 k f fd ps (spScr K fun ns C P => ns.length ≤ 63 ∧ C = (fun _ => none) ∧ ∀ C', P (.bl true) C')) : FnOk P w K mg base CX0 k f fd ps (spLaw K) :=
  F.imp fun vs H Q E ⟨a, ns, e, hs, hl, q⟩ => ⟨H, fun _ => none, fun _ => none, a, ns, fun d _ => d = .bl true, ⟨Same.refl H, (fun _ _ z => by cases z), (fun _ _ z => by cases z), (fun _ _ z => by cases z), (fun _ _ z => by cases z), (fun _ _ z => by cases z)⟩, e, hs,
    ⟨hl, rfl, fun _ => rfl⟩, fun v d B' C' H' _ _ rp e => by subst e; cases rp; exact q H'⟩
end
section
variable {X : Cx} {x : Str} {ps : List Str} {sp : Sp} {k : Nat} {p pos : Pos} {e : Expr} {es : List Expr} {t : TA}
theorem pe_def (h : Has X.prog X.w X.K X.mg X.base k x ps sp) (hr : Room k X.A) (ha : PA X (e :: es) t) (hg : Gl X x := by rfl) (hdb : (x == ("__debug__" : Str)) = false := by decide)
    (he : starEach (e :: es) X.env = (false, eval e X.env) :: starEach es X.env := by rfl) (hpl : (backTo pos (starEach es X.env)).any (·.1) = false := by rfl) (hx : ∀ CXX, CXX = CX0 → Passes CXX X E0 := by intro _ h; subst h; exact pass0) :
    PE X (.Call (.Name x p) (e :: es) [] pos) (tCall sp [] E0 t) := by
  obtain ⟨f, fd, F, hm, hk, hb⟩ := h
  exact pe_call F hr hg hm hk hb .nil (hx _ rfl) ha hdb he hpl
theorem pe_def0 (h : Has X.prog X.w X.K X.mg X.base k x ps sp) (hr : Room k X.A) (hg : Gl X x := by rfl) (hdb : (x == ("__debug__" : Str)) = false := by decide) (hx : ∀ CXX, CXX = CX0 → Passes CXX X E0 := by intro _ h; subst h; exact pass0) :
    PE X (.Call (.Name x p) [] [] pos) (tCall sp [] E0 tNil) := by
  obtain ⟨f, fd, F, hm, hk, hb⟩ := h
  exact pe_call0 F hr hg hm hk hb .nil (hx _ rfl) hdb
def IntAt (mg : Str → Option Value) (x : Str) (i : Int) : Prop := ∃ t, mg x = some (.int i t)
theorem pe_globI {i : Int} (h : IntAt X.mg x i) (hg : Gl X x := by rfl) (hd : (x == ("__debug__" : Str)) = false := by decide) : PE X (.Name x pos) (tC (.int i)) := by
  obtain ⟨t, h⟩ := h
  exact pe_glob hg h ⟨t, rfl⟩ hd
def StrAt (mg : Str → Option Value) (x : Str) (i : Str) : Prop := ∃ t, mg x = some (.str i t)
theorem pe_globS {i : Str} (h : StrAt X.mg x i) (hg : Gl X x := by rfl) (hd : (x == ("__debug__" : Str)) = false := by decide) : PE X (.Name x pos) (tC (.str i)) := by
  obtain ⟨t, h⟩ := h
  exact pe_glob hg h ⟨t, rfl⟩ hd
end
end Dv

set_option maxRecDepth 100000
set_option maxHeartbeats 1000000
/-! Built-ins, methods, dicts, isinstance. -/
namespace Dv
open PySem L2
section
variable {B0 : Gr} {C : CH} {P : D → CH → Prop} {x y d : D} {i j : Int} {K : PySem.W.Frag} {ds es : List D} {ns : List Int} {E : EnvD} {ks : List (Int × D)}

/-! ### arithmetic with a condition -/
theorem wr_mod (h : 0 < j) (k : P (.int (i % j)) C) : WR B0 (rI (fun _ j => 0 < j) fun i j => .int (i % j)) (.int i) (.int j) C P := wr_intC (g := fun i j => i % j) h k
theorem wr_fdiv (h : 0 < j) (h2 : j < 1073741824) (k : P (.int (i / j)) C) : WR B0 (rI CDiv fun i j => .int (i / j)) (.int i) (.int j) C P := wr_intC (g := fun i j => i / j) ⟨h, h2⟩ k
theorem wr_mul (h : (-18446744073709551616 < i ∧ i < 18446744073709551616) ∨ (-18446744073709551616 < j ∧ j < 18446744073709551616)) (k : P (.int (i * j)) C) : WR B0 (rI CMul fun i j => .int (i * j)) (.int i) (.int j) C P :=
  wr_intC (g := fun i j => i * j) (by rcases h with h | h; exact .inl ⟨by omega, by omega⟩; exact .inr ⟨by omega, by omega⟩) k
theorem wr_pow (h : 0 ≤ j ∧ j ≤ 1000000 ∧ i.natAbs < 18446744073709551616) (k : P (.int (i ^ j.toNat)) C) : WR B0 (rI CPow fun i j => .int (i ^ j.toNat)) (.int i) (.int j) C P := wr_intC (g := fun i j => i ^ j.toNat) ⟨h.1, h.2.1, by have := h.2.2; omega⟩ k

/-! ### len -/
def rLen1 (K : PySem.W.Frag) : List V → Hp → VK → Prop := fun xs H Q => ∃ p ys, xs = [.ref p] ∧ (SqL K H p ys ∨ SqT K H p ys) ∧ Q (.int ys.length) H
def rLen2 : List V → Hp → VK → Prop := fun xs H Q => ∃ z, xs = [.str z] ∧ z.length ≤ sizeLine ∧ Q (.int z.length) H
def rLen3 : List V → Hp → VK → Prop := fun xs H Q => ∃ a kvs, xs = [V.ref a] ∧ H a = some (.dK kvs) ∧ Q (.int kvs.length) H
def rLenU (K : PySem.W.Frag) : List V → Hp → VK → Prop := fun xs H Q => rLen1 K xs H Q ∨ rLen2 xs H Q ∨ rLen3 xs H Q
theorem call_lenU {X : Cx} : CallR X (.builtin "len") (rLenU X.K) := call_len_seq.or (call_len_str.or call_lenD)
theorem wc_len (h : SeqD C x ds) (k : P (.int (ds.length : Int)) C) : WC B0 (rLenU K) [x] C P := fun B F H vs _ rl r Q q => by
  cases r with
  | cons r1 r =>
    cases r
    obtain ⟨a, vs, rfl, hs, rr⟩ := seqD_rd (K := K) rl r1 h
    exact .inl ⟨a, vs, rfl, hs, by rw [rr.length]; exact q _ _ B C H (Same.refl B) rl .int k⟩
theorem wc_lenS {z : Str} (h : z.length ≤ 1000000) (k : P (.int (z.length : Int)) C) : WC B0 (rLenU K) [.str z] C P := fun B F H vs _ rl r Q q => by
  cases r with
  | cons r1 r =>
    cases r; cases r1
    exact .inr (.inl ⟨z, rfl, Nat.le_trans h (by decide), q _ _ B C H (Same.refl B) rl .int k⟩)
theorem wc_lenD (h : DicD C x ks) (k : P (.int (ks.length : Int)) C) : WC B0 (rLenU K) [x] C P := fun B F H vs _ rl r Q q => by
  cases r with
  | cons r1 r =>
    cases r
    obtain ⟨a, vs, rfl, hs, rr⟩ := dicD_rd rl r1 h
    exact .inr (.inr ⟨a, vs, rfl, hs, by rw [repK_len rr]; exact q _ _ B C H (Same.refl B) rl .int k⟩)

/-! ### max, min, sum, all, any, abs, int -/
def rMax2' : List V → Hp → VK → Prop := fun xs H Q => ∃ i j, xs = [.int i, .int j] ∧ Q (.int (if j > i then j else i)) H
def rMin2' : List V → Hp → VK → Prop := fun xs H Q => ∃ i j, xs = [.int i, .int j] ∧ Q (.int (if j < i then j else i)) H
def rMaxU (K : PySem.W.Frag) : List V → Hp → VK → Prop := fun xs H Q => rMax K xs H Q ∨ rMax2' xs H Q
def rMinU (K : PySem.W.Frag) : List V → Hp → VK → Prop := fun xs H Q => rMin K xs H Q ∨ rMin2' xs H Q
theorem call_maxU {X : Cx} (hc : X.calm = true) : CallR X (.builtin "max") (rMaxU X.K) := (cr_max hc).or (call_max2 hc)
theorem call_minU {X : Cx} (hc : X.calm = true) : CallR X (.builtin "min") (rMinU X.K) := (cr_min hc).or (call_min2 hc)
theorem max_if (i j : Int) : (if j > i then j else i) = max i j := by
  rw [Int.max_def]; split <;> split <;> omega
theorem min_if (i j : Int) : (if j < i then j else i) = min i j := by
  rw [Int.min_def]; split <;> split <;> omega
theorem wc_max2 (k : P (.int (max i j)) C) : WC B0 (rMaxU K) [.int i, .int j] C P := fun B F H vs _ rl r Q q => by
  cases r with
  | cons r1 r =>
    cases r with
    | cons r2 r =>
      cases r; cases r1; cases r2
      exact .inr ⟨i, j, rfl, by rw [max_if]; exact q _ _ B C H (Same.refl B) rl .int k⟩
theorem wc_min2 (k : P (.int (min i j)) C) : WC B0 (rMinU K) [.int i, .int j] C P := fun B F H vs _ rl r Q q => by
  cases r with
  | cons r1 r =>
    cases r with
    | cons r2 r =>
      cases r; cases r1; cases r2
      exact .inr ⟨i, j, rfl, by rw [min_if]; exact q _ _ B C H (Same.refl B) rl .int k⟩
theorem wc_maxL (h : LstD C x (ns.map D.int)) (h0 : 0 < ns.length) (k : ∀ m, m ∈ ns → (∀ y, y ∈ ns → y ≤ m) → P (.int m) C) : WC B0 (rMaxU K) [x] C P := fun B F H vs _ rl r Q q => by
  cases r with
  | cons r1 r =>
    cases r
    obtain ⟨a, vs, rfl, hs, rr⟩ := lstD_rd rl r1 h
    have e := rr.ints
    subst e
    exact .inl ⟨a, ns, rfl, SqL.of hs, h0, fun m hm hle => q _ _ B C H (Same.refl B) rl .int (k m hm hle)⟩
theorem wc_sum (h : LstD C x (ns.map D.int)) (k : P (.int ns.sum) C) : WC B0 (rSum K) [x] C P := fun B F H vs _ rl r Q q => by
  cases r with
  | cons r1 r =>
    cases r
    obtain ⟨a, vs, rfl, hs, rr⟩ := lstD_rd rl r1 h
    have e := rr.ints
    subst e
    exact ⟨a, ns, rfl, SqL.of hs, q _ _ B C H (Same.refl B) rl .int k⟩
theorem wc_all {bs : List Bool} (h : LstD C x (bs.map D.bl)) (k : P (.bl (bs.all id)) C) : WC B0 (rAll K) [x] C P := fun B F H vs _ rl r Q q => by
  cases r with
  | cons r1 r =>
    cases r
    obtain ⟨a, vs, rfl, hs, rr⟩ := lstD_rd rl r1 h
    have e := rr.bls
    subst e
    exact ⟨a, bs, rfl, SqL.of hs, q _ _ B C H (Same.refl B) rl .bl k⟩
theorem wc_any {bs : List Bool} (h : LstD C x (bs.map D.bl)) (k : P (.bl (bs.any id)) C) : WC B0 (rAny K) [x] C P := fun B F H vs _ rl r Q q => by
  cases r with
  | cons r1 r =>
    cases r
    obtain ⟨a, vs, rfl, hs, rr⟩ := lstD_rd rl r1 h
    have e := rr.bls
    subst e
    exact ⟨a, bs, rfl, SqL.of hs, q _ _ B C H (Same.refl B) rl .bl k⟩
def rAbs : List V → Hp → VK → Prop := fun xs H Q => ∃ i, xs = [.int i] ∧ Q (.int (if i < 0 then -i else i)) H
theorem call_absN {X : Cx} : CallR X (.builtin "abs") rAbs := call_abs
theorem abs_if (i : Int) : (if i < 0 then -i else i) = (i.natAbs : Int) := by split <;> omega
theorem wc_abs (k : P (.int (i.natAbs : Int)) C) : WC B0 rAbs [.int i] C P := fun B F H vs _ rl r Q q => by
  cases r with
  | cons r1 r =>
    cases r; cases r1
    exact ⟨i, rfl, by rw [abs_if]; exact q _ _ B C H (Same.refl B) rl .int k⟩
def rInt1 : List V → Hp → VK → Prop := fun xs H Q => (∃ i, xs = [.int i] ∧ Q (.int i) H) ∨ ∃ k, xs = [.bl k] ∧ Q (.int (if k then 1 else 0)) H
def rInt2 : List V → Hp → VK → Prop := fun xs H Q => ∃ a n, xs = [.str a] ∧ PySem.intText? a = some n ∧ a.length ≤ 640 ∧ Q (.int n) H
def rIntU : List V → Hp → VK → Prop := fun xs H Q => rInt1 xs H Q ∨ rInt2 xs H Q
theorem call_intU {X : Cx} : CallR X (.type "int") rIntU := call_int1.or call_int_str
theorem wc_int (k : P (.int i) C) : WC B0 rIntU [.int i] C P := fun B F H vs _ rl r Q q => by
  cases r with
  | cons r1 r =>
    cases r; cases r1
    exact .inl (.inl ⟨i, rfl, q _ _ B C H (Same.refl B) rl .int k⟩)
theorem wc_intS {a : Str} {n : Int} (h1 : PySem.intText? a = some n) (h2 : a.length ≤ 640) (k : P (.int n) C) : WC B0 rIntU [.str a] C P := fun B F H vs _ rl r Q q => by
  cases r with
  | cons r1 r =>
    cases r; cases r1
    exact .inr ⟨a, n, rfl, h1, h2, q _ _ B C H (Same.refl B) rl .int k⟩

/-! ### list(..), tuple(..), dict(..) -/
def rLst1 (K : PySem.W.Frag) : List V → Hp → VK → Prop := fun xs H Q => ∃ p ys, xs = [.ref p] ∧ (SqL K H p ys ∨ SqT K H p ys) ∧ ∀ l, H l = none → Q (.ref l) (upd H l (.lst ys))
def rLstU (K : PySem.W.Frag) : List V → Hp → VK → Prop := fun xs H Q => rLst1 K xs H Q ∨ rListD xs H Q
theorem call_lstU {X : Cx} (hc : X.calm = true) : CallR X (.type "list") (rLstU X.K) := call_list_of.or (call_list_dK hc)
theorem wc_list (h : SeqD C x ds) (k : P (.lst ds) C) : WC B0 (rLstU K) [x] C P := fun B F H vs _ rl r Q q => by
  cases r with
  | cons r1 r =>
    cases r
    obtain ⟨a, vs, rfl, hs, rr⟩ := seqD_rd (K := K) rl r1 h
    exact .inl ⟨a, vs, rfl, hs, fun l hl => by
      have e := same_upd (o := .lst vs) (rl.noB hl)
      exact q _ _ _ C _ e (rl.new hl) (.lst upd_same (rr.mono e)) k⟩
theorem wc_listC (h : SeqD C x ds) (k : ∀ a, C a = none → P (.ref a) (updC C a (.lst ds))) : WC B0 (rLstU K) [x] C P := fun B F H vs _ rl r Q q => by
  cases r with
  | cons r1 r =>
    cases r
    obtain ⟨a, vs, rfl, hs, rr⟩ := seqD_rd (K := K) rl r1 h
    exact .inl ⟨a, vs, rfl, hs, fun l hl => q _ _ B _ _ (Same.refl B) (rl.newC hl (.lst rr)) .ref (k l (rl.noC hl))⟩
theorem repK_keys {B : Hp} {vs : List (Key × V)} {ks : List (Int × D)} (r : RepK B vs ks) : vs.map (fun kv => kV kv.1) = (ks.map (·.1)).map V.int := by
  induction vs generalizing ks with
  | nil => cases r; rfl
  | cons p vs ih =>
    cases r with
    | cons h r =>
      rw [List.map_cons, List.map_cons, List.map_cons, ih r]
      rfl
theorem wc_listK (h : DicD C x ks) (k : P (.lst ((ks.map (·.1)).map D.int)) C) : WC B0 (rLstU K) [x] C P := fun B F H vs _ rl r Q q => by
  cases r with
  | cons r1 r =>
    cases r
    obtain ⟨a, vs, rfl, hs, rr⟩ := dicD_rd rl r1 h
    refine .inr ⟨a, vs, rfl, hs, fun l hl => ?_⟩
    have e := same_upd (o := .lst (vs.map fun kv => kV kv.1)) (rl.noB hl)
    exact q _ _ _ C _ e (rl.new hl) (.lst upd_same (by rw [repK_keys rr]; exact Reps.ofInts _)) k
/-- the law's script, read once -/
theorem wc_listScr {a : Addr} (h : SqL K B0.b a (ns.map V.int)) (k : P (.lst (ns.map D.int)) C) : WC B0 (rLstU K) [.ref a] C P := fun B F H vs sb rl r Q q => by
  cases r with
  | cons r1 r =>
    cases r; cases r1
    refine .inl ⟨a, _, rfl, .inl (rl.ex.seq (sb.1.seq h)), fun l hl => ?_⟩
    have e := same_upd (o := .lst (ns.map V.int)) (rl.noB hl)
    exact q _ _ _ C _ e (rl.new hl) (.lst upd_same (Reps.ofInts ns)) k
def rTupU (K : PySem.W.Frag) : List V → Hp → VK → Prop := fun xs H Q => ∃ p ys, xs = [.ref p] ∧ ((SqL K H p ys ∧ ∀ l, H l = none → Q (.ref l) (upd H l (.tup ys))) ∨ (SqT K H p ys ∧ Q (.ref p) H))
theorem call_tupU {X : Cx} : CallR X (.type "tuple") (rTupU X.K) := call_tuple_of
theorem wc_tuple (h : LstD C x ds) (k : P (.tup ds) C) : WC B0 (rTupU K) [x] C P := fun B F H vs _ rl r Q q => by
  cases r with
  | cons r1 r =>
    cases r
    obtain ⟨a, vs, rfl, hs, rr⟩ := lstD_rd rl r1 h
    refine ⟨a, vs, rfl, .inl ⟨SqL.of hs, fun l hl => ?_⟩⟩
    have e := same_upd (o := .tup vs) (rl.noB hl)
    exact q _ _ _ C _ e (rl.new hl) (.tup upd_same (rr.mono e)) k
theorem wc_tupleT (k : P (.tup ds) C) : WC B0 (rTupU K) [.tup ds] C P := fun B F H vs _ rl r Q q => by
  cases r with
  | cons r1 r =>
    cases r
    cases r1 with
    | tup ha rr => exact ⟨_, _, rfl, .inr ⟨SqT.of (rl.ex _ _ ha), q _ _ B C H (Same.refl B) rl (.tup ha rr) k⟩⟩
def rDictD : List V → Hp → VK → Prop := fun xs H Q => ∃ (a : Addr) (kvs : List (Key × V)), xs = [.ref a] ∧ Rd H a (.dK kvs) ∧ ∀ p, H p = none → Q (.ref p) (upd H p (.dK kvs))
theorem call_dictN {X : Cx} : CallR X (.type "dict") rDictD := call_dictD
theorem wc_dict (h : DicD C x ks) (k : P (.dic ks) C) : WC B0 rDictD [x] C P := fun B F H vs _ rl r Q q => by
  cases r with
  | cons r1 r =>
    cases r
    obtain ⟨a, vs, rfl, hs, rr⟩ := dicD_rd rl r1 h
    refine ⟨a, vs, rfl, .inl hs, fun l hl => ?_⟩
    have e := same_upd (o := .dK vs) (rl.noB hl)
    exact q _ _ _ C _ e (rl.new hl) (.dic upd_same (rr.mono e)) k
theorem wc_dictC (h : DicD C x ks) (k : ∀ a, C a = none → P (.ref a) (updC C a (.dic ks))) : WC B0 rDictD [x] C P := fun B F H vs _ rl r Q q => by
  cases r with
  | cons r1 r =>
    cases r
    obtain ⟨a, vs, rfl, hs, rr⟩ := dicD_rd rl r1 h
    exact ⟨a, vs, rfl, .inl hs, fun l hl => q _ _ B _ _ (Same.refl B) (rl.newC hl (.dic rr)) .ref (k l (rl.noC hl))⟩

/-! ### methods of lists -/
def WM (B0 : Gr) (r : V → List V → Hp → VK → Prop) (o : D) (ds : List D) (C : CH) (P : D → CH → Prop) : Prop :=
  ∀ (B F H : Hp) (vo : V) (vs : List V), Sb B0 B F → Rel B C F H → Rep B vo o → Reps B vs ds → ∀ Q : VK,
    (∀ v d B' C' H', Same B B' → Rel B' C' F H' → Rep B' v d → P d C' → Q v H') → r vo vs H Q
theorem w_bmL {r : V → List V → Hp → VK → Prop} {to : TE} {t : TA} (h : W B0 to E C fun o C1 => (∃ ds, LstD C1 o ds) ∧ WA B0 t E C1 fun ds C2 => WM B0 r o ds C2 P) : W B0 (tBM K "list" r to t) E C P := fun B F σ H sb rl re Q q =>
  h B F σ H sb rl re _ fun v d B1 C1 H1 e1 rl1 rp ⟨⟨ds, l⟩, h1⟩ => by
    obtain ⟨a, vs, rfl, ha, _⟩ := lstD_rd rl1 rp l
    refine ⟨.inl ⟨rfl, vs, SqL.of ha⟩, h1 B1 F σ H1 (sb.trans e1) rl1 (re.mono e1) _ fun ws es B2 C2 H2 e2 rl2 rp2 h2 => ?_⟩
    exact h2 B2 F H2 _ ws (sb.trans (e1.trans e2)) rl2 (rp.mono e2) rp2 Q fun v d B3 C3 H3 e3 => q v d B3 C3 H3 ((e1.trans e2).trans e3)
theorem w_bmL0 {r : V → List V → Hp → VK → Prop} {to : TE} (h : W B0 to E C fun o C1 => (∃ ds, LstD C1 o ds) ∧ WM B0 r o [] C1 P) : W B0 (tBM0 K "list" r to) E C P := fun B F σ H sb rl re Q q =>
  h B F σ H sb rl re _ fun v d B1 C1 H1 e1 rl1 rp ⟨⟨ds, l⟩, h1⟩ => by
    obtain ⟨a, vs, rfl, ha, _⟩ := lstD_rd rl1 rp l
    refine ⟨.inl ⟨rfl, vs, SqL.of ha⟩, ?_⟩
    exact h1 B1 F H1 _ [] (sb.trans e1) rl1 rp .nil Q fun v d B3 C3 H3 e3 => q v d B3 C3 H3 (e1.trans e3)
theorem wm_append {a : Addr} (h : C a = some (.lst ds)) (hl : ds.length < 1000000) (k : P .non (updC C a (.lst (ds ++ [d])))) : WM B0 rAppend (.ref a) [d] C P := fun B F H vo vs _ rl ho r Q q => by
  cases ho
  cases r with
  | cons r1 r =>
    cases r
    obtain ⟨o, h1, h2⟩ := rl.own _ _ h
    cases h2 with
    | @lst ws _ rr =>
      exact ⟨a, ws, _, rfl, rfl, h1, by rw [rr.length]; exact Nat.lt_trans hl (by decide), q _ _ B _ _ (Same.refl B) (rl.write h (.lst (rr.append (.one r1)))) .non k⟩
theorem wm_extend {a : Addr} (h : C a = some (.lst ds)) (hy : LstD C y es) (hl : ds.length + es.length ≤ 1000000) (k : P .non (updC C a (.lst (ds ++ es)))) : WM B0 rExtend (.ref a) [y] C P := fun B F H vo vs _ rl ho r Q q => by
  cases ho
  cases r with
  | cons r1 r =>
    cases r
    obtain ⟨o, h1, h2⟩ := rl.own _ _ h
    obtain ⟨b, zs, rfl, hb, rz⟩ := lstD_rd rl r1 hy
    cases h2 with
    | @lst ws _ rr =>
      exact ⟨a, b, ws, zs, rfl, rfl, h1, hb, by rw [rr.length, rz.length]; exact Nat.le_trans hl (by decide), q _ _ B _ _ (Same.refl B) (rl.write h (.lst (rr.append rz))) .non k⟩
def rInsert : V → List V → Hp → VK → Prop := fun x vs H Q => ∃ (l : Addr) (xs : List V) (i : Int) (y : V), x = .ref l ∧ vs = [.int i, y] ∧ H l = some (.lst xs) ∧ xs.length < sizeLine ∧ 0 ≤ i ∧ i < 2 ^ 63 ∧
    Q .non (upd H l (.lst (xs.take i.toNat ++ [y] ++ xs.drop i.toNat)))
theorem mt_insertN {X : Cx} : MtM X "list.insert" rInsert := mt_insert
theorem wm_insert {a : Addr} (h : C a = some (.lst ds)) (hl : ds.length < 1000000) (h0 : 0 ≤ i) (h1 : i < 2 ^ 63) (k : P .non (updC C a (.lst (ds.take i.toNat ++ [d] ++ ds.drop i.toNat)))) : WM B0 rInsert (.ref a) [.int i, d] C P := fun B F H vo vs _ rl ho r Q q => by
  cases ho
  cases r with
  | cons r1 r =>
    cases r1
    cases r with
    | cons r2 r =>
      cases r
      obtain ⟨o, g1, h2⟩ := rl.own _ _ h
      cases h2 with
      | @lst ws _ rr =>
        exact ⟨a, ws, i, _, rfl, rfl, g1, by rw [rr.length]; exact Nat.lt_trans hl (by decide), h0, h1, q _ _ B _ _ (Same.refl B) (rl.write h (.lst (((rr.take _).append (.one r2)).append (rr.drop _)))) .non k⟩
theorem wm_pop {a : Addr} (h : C a = some (.lst ds)) (he : ds[ds.length - 1]? = some d) (k : P d (updC C a (.lst (ds.take (ds.length - 1))))) : WM B0 rPop (.ref a) [] C P := fun B F H vo vs _ rl ho r Q q => by
  cases ho
  cases r
  obtain ⟨o, g1, h2⟩ := rl.own _ _ h
  cases h2 with
  | @lst ws _ rr =>
    obtain ⟨v, hv, rv⟩ := rr.get he
    refine ⟨a, ws, v, rfl, rfl, g1, by rw [rr.length]; exact hv, ?_⟩
    rw [List.dropLast_eq_take, rr.length]
    exact q _ _ B _ _ (Same.refl B) (rl.write h (.lst (rr.take _))) rv k

/-! ### a op b op c; fewer cells told -/
theorem w_chain {r r' : R2} {ta tb tc : TE} (h : W B0 ta E C fun x C1 => W B0 tb E C1 fun y C2 => WR B0 r x y C2 fun z C3 => ∃ k, z = .bl k ∧ (k = true → W B0 tc E C3 fun u C4 => WR B0 r' y u C4 P) ∧ (k = false → P (.bl false) C3)) : W B0 (tChain r r' ta tb tc) E C P := fun B F σ H sb rl re Q q =>
  h B F σ H sb rl re _ fun v1 d1 B1 C1 H1 e1 rl1 rp1 h1 => h1 B1 F σ H1 (sb.trans e1) rl1 (re.mono e1) _ fun v2 d2 B2 C2 H2 e2 rl2 rp2 h2 =>
    h2 B2 F H2 v1 v2 (sb.trans (e1.trans e2)) rl2 (rp1.mono e2) rp2 _ fun v3 d3 B3 C3 H3 e3 rl3 rp3 ⟨k, hk, p1, p2⟩ => by
      subst hk
      cases rp3
      refine ⟨k, rfl, ?_⟩
      cases k with
      | false => exact q _ _ B3 C3 H3 ((e1.trans e2).trans e3) rl3 .bl (p2 rfl)
      | true =>
        exact p1 rfl B3 F σ H3 (sb.trans ((e1.trans e2).trans e3)) rl3 (re.mono ((e1.trans e2).trans e3)) _ fun v4 d4 B4 C4 H4 e4 rl4 rp4 h4 =>
          h4 B4 F H4 v2 v4 (sb.trans (((e1.trans e2).trans e3).trans e4)) rl4 (rp2.mono (e3.trans e4)) rp4 Q fun v d B5 C5 H5 e5 => q v d B5 C5 H5 ((((e1.trans e2).trans e3).trans e4).trans e5)
theorem Rel.sub {B F H : Hp} {C C2 : CH} (r : Rel B C F H) (h : ∀ a c, C2 a = some c → C a = some c) : Rel B C2 F H where
  ex := r.ex
  fr := r.fr
  bf := r.bf
  cf := fun a o q => by
    cases e : C2 a with
    | none => rfl
    | some c => have := h a c e; rw [r.cf a o q] at this; cases this
  bc := fun a c q => r.bc a c (h a c q)
  own := fun a c q => r.own a c (h a c q)
theorem w_weak {te : TE} (h : W B0 te E C fun d C1 => ∃ C2 : CH, (∀ a c, C2 a = some c → C1 a = some c) ∧ P d C2) : W B0 te E C P := fun B F σ H sb rl re Q q =>
  h B F σ H sb rl re Q fun v d B1 C1 H1 e1 rl1 rp ⟨C2, h2, p⟩ => q v d B1 C2 H1 e1 (rl1.sub h2) rp p

def Sub (C2 C1 : CH) : Prop := ∀ a c, C2 a = some c → C1 a = some c
theorem Sub.refl (C : CH) : Sub C C := fun _ _ h => h
theorem Sub.trans {C1 C2 C3 : CH} (a : Sub C1 C2) (b : Sub C2 C3) : Sub C1 C3 := fun x c h => b x c (a x c h)
theorem sub_updC {a : Addr} {c : Cell} (h : C a = none) : Sub C (updC C a c) := fun b c' e => by
  rw [updC_ne (fun z => by rw [z, h] at e; cases e)]; exact e
/-- fewer cells are told at the end -/
theorem ws_weak {t : TS} {D1 : EndD} (h : WS B0 t E C { D1 with rt := fun d C1 => ∃ C2 : CH, Sub C2 C1 ∧ D1.rt d C2 }) : WS B0 t E C D1 := fun B F σ H sb rl re Dn ok =>
  h B F σ H sb rl re Dn ⟨ok.nx, fun v d B' C' H' e rl' rp ⟨C2, s, k⟩ => ok.rt v d B' C2 H' e (rl'.sub s) rp k, ok.bk, ok.ct⟩

/-! ### a cell is frozen where it is handed on -/
theorem w_varF {i : Nat} {a : Addr} (he : E[i]? = some (some (.ref a))) (hc : C a = some (.lst ds)) (k : P (.lst ds) (delC C a)) : W B0 (tVar i) E C P := fun B F σ H _ rl re Q q => by
  obtain ⟨v, h1, h2⟩ := re.get i _ he
  cases h2
  obtain ⟨o, g1, g2⟩ := rl.own _ _ hc
  cases g2 with
  | @lst vs _ r =>
    have s := same_upd (o := .lst vs) (rl.bc _ _ hc)
    exact ⟨_, h1, q _ _ _ _ H s (rl.freeze hc g1) (.lst upd_same (r.mono s)) k⟩
theorem w_varFD {i : Nat} {a : Addr} (he : E[i]? = some (some (.ref a))) (hc : C a = some (.dic ks)) (k : P (.dic ks) (delC C a)) : W B0 (tVar i) E C P := fun B F σ H _ rl re Q q => by
  obtain ⟨v, h1, h2⟩ := re.get i _ he
  cases h2
  obtain ⟨o, g1, g2⟩ := rl.own _ _ hc
  cases g2 with
  | @dic vs _ r =>
    have s := same_upd (o := .dK vs) (rl.bc _ _ hc)
    exact ⟨_, h1, q _ _ _ _ H s (rl.freeze hc g1) (.dic upd_same (r.mono s)) k⟩
/-- the state told otherwise: a cell frozen, its name's slot told by its content -/
theorem ws_freeze {i : Nat} {a : Addr} {t : TS} {D1 : EndD} (he : E[i]? = some (some (.ref a))) (hc : C a = some (.lst ds)) (k : WS B0 t (E.set i (some (.lst ds))) (delC C a) D1) : WS B0 t E C D1 := fun B F σ H sb rl re Dn ok => by
  obtain ⟨v, h1, h2⟩ := re.get i _ he
  cases h2
  obtain ⟨o, g1, g2⟩ := rl.own _ _ hc
  cases g2 with
  | @lst vs _ r =>
    have s := same_upd (o := .lst vs) (rl.bc _ _ hc)
    have e : σ.set i (some (.ref a)) = σ := by
      apply List.ext_getElem?
      intro j
      by_cases q : i = j
      · subst q
        rw [List.getElem?_set_self (List.getElem?_eq_some_iff.mp h1).1, h1]
      · rw [List.getElem?_set_ne q]
    have re2 := (re.mono s).set i (v := .ref a) (d := .lst ds) (.lst upd_same (r.mono s))
    rw [e] at re2
    exact k _ F σ H (sb.trans s) (rl.freeze hc g1) re2 Dn (ok.mono s)
theorem ws_freezeD {i : Nat} {a : Addr} {t : TS} {D1 : EndD} (he : E[i]? = some (some (.ref a))) (hc : C a = some (.dic ks)) (k : WS B0 t (E.set i (some (.dic ks))) (delC C a) D1) : WS B0 t E C D1 := fun B F σ H sb rl re Dn ok => by
  obtain ⟨v, h1, h2⟩ := re.get i _ he
  cases h2
  obtain ⟨o, g1, g2⟩ := rl.own _ _ hc
  cases g2 with
  | @dic vs _ r =>
    have s := same_upd (o := .dK vs) (rl.bc _ _ hc)
    have e : σ.set i (some (.ref a)) = σ := by
      apply List.ext_getElem?
      intro j
      by_cases q : i = j
      · subst q
        rw [List.getElem?_set_self (List.getElem?_eq_some_iff.mp h1).1, h1]
      · rw [List.getElem?_set_ne q]
    have re2 := (re.mono s).set i (v := .ref a) (d := .dic ks) (.dic upd_same (r.mono s))
    rw [e] at re2
    exact k _ F σ H (sb.trans s) (rl.freeze hc g1) re2 Dn (ok.mono s)

/-! ### stores o[i] = v -/
def WSet (B0 : Gr) (t : TSet) (o i v : D) (C : CH) (N : CH → Prop) : Prop :=
  ∀ (B F H : Hp) (vo vi vv : V), Sb B0 B F → Rel B C F H → Rep B vo o → Rep B vi i → Rep B vv v → ∀ Q : Hp → Prop, (∀ B' C' H', Same B B' → Rel B' C' F H' → N C' → Q H') → t vo vi vv H Q
theorem wg_sub {to ti : TE} {t : TSet} {N : EnvD → CH → Prop} (h : W B0 to E C fun o C1 => W B0 ti E C1 fun i C2 => WSet B0 t o i d C2 fun C3 => N E C3) : WG B0 (gSub to ti t) d E C N := fun B F σ H v sb rl re rp Q q =>
  h B F σ H sb rl re _ fun v1 d1 B1 C1 H1 e1 rl1 rp1 h1 => h1 B1 F σ H1 (sb.trans e1) rl1 (re.mono e1) _ fun v2 d2 B2 C2 H2 e2 rl2 rp2 h2 =>
    h2 B2 F H2 v1 v2 v (sb.trans (e1.trans e2)) rl2 (rp1.mono e2) rp2 (rp.mono (e1.trans e2)) _ fun B3 C3 H3 e3 rl3 n => q σ E B3 C3 H3 ((e1.trans e2).trans e3) rl3 (re.mono ((e1.trans e2).trans e3)) n
theorem wset_list {a : Addr} {v : D} {n : Nat} {N : CH → Prop} (h : C a = some (.lst ds)) (hi : ixN ds.length i = some n) (k : N (updC C a (.lst (ds.set n v)))) : WSet B0 rSetL (.ref a) (.int i) v C N := fun B F H vo vi vv _ rl ho hi' hv Q q => by
  cases ho; cases hi'
  obtain ⟨o, g1, h2⟩ := rl.own _ _ h
  cases h2 with
  | @lst ws _ rr => exact ⟨a, ws, i, n, rfl, rfl, g1, by rw [rr.length]; exact hi, q B _ _ (Same.refl B) (rl.write h (.lst (rr.set hv n))) k⟩

/-! ### dicts -/
theorem w_dnew (k : P (.dic []) C) : W B0 tDNewK E C P := fun B F σ H _ rl _ Q q a ha => by
  have e := same_upd (o := .dK []) (rl.noB ha)
  exact q _ _ _ C _ e (rl.new ha) (.dic upd_same .nil) k
theorem w_dnewC (k : ∀ a, C a = none → P (.ref a) (updC C a (.dic []))) : W B0 tDNewK E C P := fun B F σ H _ rl _ Q q a ha =>
  q _ _ B _ _ (Same.refl B) (rl.newC ha (.dic .nil)) .ref (k a (rl.noC ha))
theorem w_dget {td ty : TE} (h : W B0 td E C fun x C1 => W B0 ty E C1 fun y C2 => ∃ ks k d, DicD C2 x ks ∧ y = .int k ∧ lookD ks k = some d ∧ P d C2) : W B0 (tDGet td ty) E C P := fun B F σ H sb rl re Q q =>
  h B F σ H sb rl re _ fun v1 d1 B1 C1 H1 e1 rl1 rp1 h1 => h1 B1 F σ H1 (sb.trans e1) rl1 (re.mono e1) _ fun v2 d2 B2 C2 H2 e2 rl2 rp2 ⟨ks, k, d, hd, hk, hl, p⟩ => by
    subst hk
    cases rp2
    obtain ⟨a, vs, rfl, ha, r⟩ := dicD_rd rl2 (rp1.mono e2) hd
    obtain ⟨v, g1, g2⟩ := (repK_look r k).2 d hl
    have g := DGet.k (k := Sum.inl k) ha
    rw [g1] at g
    exact ⟨a, v, rfl, g, q v d B2 C2 H2 (e1.trans e2) rl2 g2 p⟩
/-- what is found under a key, or else -/
def getD' (ks : List (Int × D)) (k : Int) (z : D) : D := (lookD ks k).getD z
theorem w_dget1 {td ty : TE} (h : W B0 td E C fun x C1 => (∃ ks, DicD C1 x ks) ∧ W B0 ty E C1 fun y C2 => ∃ ks k, DicD C2 x ks ∧ y = .int k ∧ P (getD' ks k .non) C2) : W B0 (tDGet1 td ty) E C P := fun B F σ H sb rl re Q q =>
  h B F σ H sb rl re _ fun v1 d1 B1 C1 H1 e1 rl1 rp1 ⟨⟨ks0, hd0⟩, h1⟩ => by
    obtain ⟨a, vs0, rfl, ha0, _⟩ := dicD_rd rl1 rp1 hd0
    refine ⟨a, rfl, .inl ⟨vs0, .inl ha0⟩, h1 B1 F σ H1 (sb.trans e1) rl1 (re.mono e1) _ fun v2 d2 B2 C2 H2 e2 rl2 rp2 ⟨ks, k, hd, hk, p⟩ => ?_⟩
    subst hk
    cases rp2
    obtain ⟨a', vs, e, ha, r⟩ := dicD_rd rl2 (rp1.mono e2) hd
    cases e
    refine ⟨_, DGet.k (k := Sum.inl k) ha, ?_⟩
    unfold getD' at p
    cases g : lookD ks k with
    | none =>
      rw [(repK_look r k).1 g]
      rw [g] at p
      exact q _ _ B2 C2 H2 (e1.trans e2) rl2 .non p
    | some d =>
      obtain ⟨v, g1, g2⟩ := (repK_look r k).2 d g
      rw [g1]
      rw [g] at p
      exact q v d B2 C2 H2 (e1.trans e2) rl2 g2 p
theorem w_dget2 {td ty tx : TE} (h : W B0 td E C fun x C1 => (∃ ks, DicD C1 x ks) ∧ W B0 ty E C1 fun y C2 => W B0 tx E C2 fun z C3 => ∃ ks k, DicD C3 x ks ∧ y = .int k ∧ P (getD' ks k z) C3) : W B0 (tDGet2 td ty tx) E C P := fun B F σ H sb rl re Q q =>
  h B F σ H sb rl re _ fun v1 d1 B1 C1 H1 e1 rl1 rp1 ⟨⟨ks0, hd0⟩, h1⟩ => by
    obtain ⟨a, vs0, rfl, ha0, _⟩ := dicD_rd rl1 rp1 hd0
    refine ⟨a, rfl, .inl ⟨vs0, .inl ha0⟩, h1 B1 F σ H1 (sb.trans e1) rl1 (re.mono e1) _ fun v2 d2 B2 C2 H2 e2 rl2 rp2 h2 =>
      h2 B2 F σ H2 (sb.trans (e1.trans e2)) rl2 (re.mono (e1.trans e2)) _ fun v3 d3 B3 C3 H3 e3 rl3 rp3 ⟨ks, k, hd, hk, p⟩ => ?_⟩
    subst hk
    cases rp2
    obtain ⟨a', vs, e, ha, r⟩ := dicD_rd rl3 (rp1.mono (e2.trans e3)) hd
    cases e
    refine ⟨_, DGet.k (k := Sum.inl k) ha, ?_⟩
    unfold getD' at p
    cases g : lookD ks k with
    | none =>
      rw [(repK_look r k).1 g]
      rw [g] at p
      exact q _ _ B3 C3 H3 ((e1.trans e2).trans e3) rl3 rp3 p
    | some d =>
      obtain ⟨v, g1, g2⟩ := (repK_look r k).2 d g
      rw [g1]
      rw [g] at p
      exact q v d B3 C3 H3 ((e1.trans e2).trans e3) rl3 g2 p
theorem isSome_look {B : Hp} {vs : List (Key × V)} (r : RepK B vs ks) (k : Int) : (valV vs (Sum.inl k)).isSome = (lookD ks k).isSome := by
  cases g : lookD ks k with
  | none => rw [(repK_look r k).1 g]; rfl
  | some d =>
    obtain ⟨v, g1, _⟩ := (repK_look r k).2 d g
    rw [g1]; rfl
theorem w_din {td ty : TE} (h : W B0 ty E C fun y C1 => W B0 td E C1 fun x C2 => ∃ ks k, DicD C2 x ks ∧ y = .int k ∧ P (.bl (lookD ks k).isSome) C2) : W B0 (tDIn ty td) E C P := fun B F σ H sb rl re Q q =>
  h B F σ H sb rl re _ fun v1 d1 B1 C1 H1 e1 rl1 rp1 h1 => h1 B1 F σ H1 (sb.trans e1) rl1 (re.mono e1) _ fun v2 d2 B2 C2 H2 e2 rl2 rp2 ⟨ks, k, hd, hk, p⟩ => by
    subst hk
    cases rp1
    obtain ⟨a, vs, rfl, ha, r⟩ := dicD_rd rl2 rp2 hd
    exact ⟨a, _, rfl, DGet.k (k := Sum.inl k) ha, by rw [isSome_look r k]; exact q _ _ B2 C2 H2 (e1.trans e2) rl2 .bl p⟩
theorem w_dnotin {td ty : TE} (h : W B0 ty E C fun y C1 => W B0 td E C1 fun x C2 => ∃ ks k, DicD C2 x ks ∧ y = .int k ∧ P (.bl (!(lookD ks k).isSome)) C2) : W B0 (tDNotIn ty td) E C P := fun B F σ H sb rl re Q q =>
  h B F σ H sb rl re _ fun v1 d1 B1 C1 H1 e1 rl1 rp1 h1 => h1 B1 F σ H1 (sb.trans e1) rl1 (re.mono e1) _ fun v2 d2 B2 C2 H2 e2 rl2 rp2 ⟨ks, k, hd, hk, p⟩ => by
    subst hk
    cases rp1
    obtain ⟨a, vs, rfl, ha, r⟩ := dicD_rd rl2 rp2 hd
    exact ⟨a, _, rfl, DGet.k (k := Sum.inl k) ha, by rw [isSome_look r k]; exact q _ _ B2 C2 H2 (e1.trans e2) rl2 .bl p⟩
theorem ws_dput {td ty tv : TE} {D1 : EndD} (h : W B0 tv E C fun v C1 => W B0 td E C1 fun x C2 => W B0 ty E C2 fun y C3 => ∃ a ks k, x = .ref a ∧ y = .int k ∧ C3 a = some (.dic ks) ∧ ks.length < 1000000 ∧ D1.nx E (updC C3 a (.dic (putD ks k v)))) : WS B0 (sDPut td ty tv) E C D1 := fun B F σ H sb rl re Dn ok =>
  h B F σ H sb rl re _ fun v1 d1 B1 C1 H1 e1 rl1 rp1 h1 => h1 B1 F σ H1 (sb.trans e1) rl1 (re.mono e1) _ fun v2 d2 B2 C2 H2 e2 rl2 rp2 h2 =>
    h2 B2 F σ H2 (sb.trans (e1.trans e2)) rl2 (re.mono (e1.trans e2)) _ fun v3 d3 B3 C3 H3 e3 rl3 rp3 ⟨a, ks, k, hx, hy, hc, hl, n⟩ => by
      subst hx hy
      cases rp2; cases rp3
      obtain ⟨o, g1, g2⟩ := rl3.own _ _ hc
      cases g2 with
      | @dic vs _ r =>
        refine ⟨a, _, rfl, DPut.k (k := Sum.inl k) g1 (by rw [repK_len r]; exact Nat.lt_trans hl (by decide)), ?_⟩
        exact ok.nx σ E B3 _ _ ((e1.trans e2).trans e3) (rl3.write hc (.dic (repK_put r k (rp1.mono (e2.trans e3))))) (re.mono ((e1.trans e2).trans e3)) n

/-! ### isinstance -/
def tyD (C : CH) : D → Option String
  | .non => some "NoneType" | .bl _ => some "bool" | .int _ => some "int" | .str _ => some "str"
  | .tup _ => some "tuple" | .lst _ => some "list" | .dic _ => some "dict" | .ty _ => none | .dicR _ => none | .dicL _ _ => none | .fn _ _ => none
  | .ref a => match C a with
    | some (.lst _) => some "list"
    | some (.dic _) => some "dict"
    | _ => none
theorem tyD_ok {B F H : Hp} {v : V} {n : String} (rl : Rel B C F H) (h : Rep B v d) (e : tyD C d = some n) : TyX K H v (.type n) := by
  cases h with
  | non => cases e; exact .base .non
  | bl => cases e; exact .base (.bl _)
  | int => cases e; exact .base (.int _)
  | str => cases e; exact .base (.str _)
  | fn _ _ => cases e
  | ty => cases e
  | tup h r => cases e; exact .base (.tup (rl.ex _ _ h))
  | lst h r => cases e; exact .base (.lst (rl.ex _ _ h))
  | dic h r => cases e; exact .base (.dK (rl.ex _ _ h))
  | dicR h r => cases e
  | dicL h r => cases e
  | @ref a =>
    have e : (match C a with
      | some (.lst _) => some "list"
      | some (.dic _) => some "dict"
      | _ => none) = some n := e
    split at e
    · rename_i l hc
      cases e
      obtain ⟨o, h1, h2⟩ := rl.own _ _ hc
      cases h2
      exact .base (.lst h1)
    · rename_i l hc
      cases e
      obtain ⟨o, h1, h2⟩ := rl.own _ _ hc
      cases h2
      exact .base (.dK h1)
    · cases e
def rIsiU (K : PySem.W.Frag) : List V → Hp → VK → Prop := fun xs H Q => rIsi K xs H Q ∨ rIsiT K xs H Q
theorem call_isiU {X : Cx} : CallR X (.builtin "isinstance") (rIsiU X.K) := call_isi.or call_isiT
theorem wc_isi {n m : String} {b : Bool} (h : tyD C x = some n) (hk : kitB n m = some b) (k : P (.bl b) C) : WC B0 (rIsiU K) [x, .ty m] C P := fun B F H vs _ rl r Q q => by
  cases r with
  | cons r1 r =>
    cases r with
    | cons r2 r =>
      cases r; cases r2
      exact .inl ⟨_, _, _, _, b, rfl, .ty m, tyD_ok rl r1 h, kit_ty hk, q _ _ B C H (Same.refl B) rl .bl k⟩
theorem wc_isi2 {n m m' : String} {b b' : Bool} (h : tyD C x = some n) (hk : kitB n m = some b) (hk' : kitB n m' = some b') (k : P (.bl (b || b')) C) : WC B0 (rIsiU K) [x, .tup [.ty m, .ty m']] C P := fun B F H vs _ rl r Q q => by
  cases r with
  | cons r1 r =>
    cases r with
    | cons r2 r =>
      cases r
      cases r2 with
      | @tup a ws _ ha rr =>
        cases rr with
        | cons r3 rr =>
          cases rr with
          | cons r4 rr =>
            cases rr; cases r3; cases r4
            refine .inr ⟨_, a, _, _, [.type m, .type m'], b || b', rfl, rl.ex _ _ ha, .cons (.ty m) (.cons (.ty m') .nil), tyD_ok rl r1 h, ?_, q _ _ B C H (Same.refl B) rl .bl k⟩
            refine kitAny_cons (kit_ty hk) (fun e => kitAny_cons (kit_ty hk') (fun e' => ?_) (fun e' => ?_)) (fun e => ?_)
            · rw [e, e']; exact kitAny_nil
            · rw [e, e']; rfl
            · rw [e]; rfl

/-! ### in -/
def rInU (K : PySem.W.Frag) (neg : Bool) : R2 := fun x y H Q => rIn K neg x y H Q ∨ ∃ (c : Nat) (z : Str), x = .str ⟨#[c]⟩ ∧ y = .str z ∧ Q (.bl (if neg then !decide (c ∈ z.cps.toList) else decide (c ∈ z.cps.toList))) H
theorem op_inU {X : Cx} : OpR X (compareOp .In) (rInU X.K false) := op_in_seq.or op_in_sign
theorem op_ninU {X : Cx} : OpR X (compareOp .NotIn) (rInU X.K true) := op_notIn_seq.or op_notIn_sign
/-- flat data: none, bools, ints, texts -/
def flatD : D → Bool
  | .int _ => true | .str _ => true | .non => true | .bl _ => true | _ => false
theorem ixV_int (n : Int) : ∀ ms : List Int, inV (.int n) (ms.map V.int) = decide (n ∈ ms)
  | [] => by simp [inV]
  | m :: r => by
    have ih := ixV_int n r
    unfold inV at ih ⊢
    rw [List.map_cons, List.any_cons, ih]
    have : eqV (V.int m) (V.int n) = decide (n = m) := by
      by_cases e : n = m
      · subst e; simp [eqV]
      · have e2 : ¬ m = n := fun z => e z.symm
        simp [eqV, e, e2]
    rw [this]
    by_cases h1 : n = m <;> by_cases h2 : n ∈ r <;> simp [h1, h2]
theorem flat_ints (ms : List Int) : (ms.map V.int).all flatV = true := by simp [flatV]
theorem wr_inI {ms : List Int} {n : Int} (hy : SeqD C y (ms.map D.int)) (k : P (.bl (decide (n ∈ ms))) C) : WR B0 (rInU K false) (.int n) y C P := fun B F H vx vy _ rl hx h2 Q q => by
  cases hx
  obtain ⟨a, vs, rfl, hs, r⟩ := seqD_rd (K := K) rl h2 hy
  have e := r.ints
  subst e
  refine .inl ⟨a, _, rfl, hs, rfl, flat_ints ms, ?_⟩
  rw [if_neg Bool.false_ne_true, ixV_int]
  exact q _ _ B C H (Same.refl B) rl .bl k
theorem wr_ninI {ms : List Int} {n : Int} (hy : SeqD C y (ms.map D.int)) (k : P (.bl (!decide (n ∈ ms))) C) : WR B0 (rInU K true) (.int n) y C P := fun B F H vx vy _ rl hx h2 Q q => by
  cases hx
  obtain ⟨a, vs, rfl, hs, r⟩ := seqD_rd (K := K) rl h2 hy
  have e := r.ints
  subst e
  refine .inl ⟨a, _, rfl, hs, rfl, flat_ints ms, ?_⟩
  rw [if_pos rfl, ixV_int]
  exact q _ _ B C H (Same.refl B) rl .bl k
theorem wr_inC {z : Str} {c : Nat} (k : P (.bl (decide (c ∈ z.cps.toList))) C) : WR B0 (rInU K false) (.str ⟨#[c]⟩) (.str z) C P := fun B F H vx vy _ rl hx h2 Q q => by
  cases hx; cases h2
  exact .inr ⟨c, z, rfl, rfl, q _ _ B C H (Same.refl B) rl .bl k⟩
theorem wr_ninC {z : Str} {c : Nat} (k : P (.bl (!decide (c ∈ z.cps.toList))) C) : WR B0 (rInU K true) (.str ⟨#[c]⟩) (.str z) C P := fun B F H vx vy _ rl hx h2 Q q => by
  cases hx; cases h2
  exact .inr ⟨c, z, rfl, rfl, q _ _ B C H (Same.refl B) rl .bl k⟩
end

/-! ### len(set(..)) of ints -/
section
variable {B0 : Gr} {C : CH} {P : D → CH → Prop} {K : PySem.W.Frag} {E : EnvD}
/-- how many different ones -/
def metN (ns : List Int) : Nat := (PyProof.Rows.firstMet (fun i => ns.getD i 0) ns.length).length
def tLenSet (K : PySem.W.Frag) (ta : TE) : TE := fun σ H Q => ta σ H fun x H1 => ∃ (l : Addr) (ns : List Int), x = .ref l ∧ SqL K H1 l (ns.map V.int) ∧ ns.length ≤ 4000 ∧ Q (.int (metN ns : Nat)) H1
theorem pe_lenSetN {X : Cx} {a : Expr} {ta : TE} {p p2 q pos : Pos} (hm : X.mg "len" = none) (hm2 : X.mg "set" = none) (ha : PE X a ta) (hg : Gl X "len" := by rfl) (hg2 : Gl X "set" := by rfl) (hc : X.calm = true := by rfl)
    (na : starEach [a] X.env = (false, eval a X.env) :: starEach [] X.env := by rfl) : PE X (.Call (.Name "len" p) [.Call (.Name "set" p2) [a] [] q] [] pos) (tLenSet X.K ta) := by
  constructor
  intro pins s σ H Q I h
  refine PyProof.Rows.Call_ (ld_blt I hg hm PySem.boot_len (PyProof.Rows.callWith_builtin1 (PyProof.Rows.args_cons (PyProof.Rows.Call_ (ld_blt I hg2 hm2 PyProof.Rows.boot_set
    (PyProof.Rows.callWith_type1 (PyProof.Rows.args_cons (thn (ha.run pins s σ H _ I h) ?_) na) na rfl))) rfl) rfl rfl))
  rintro v s1 ⟨x, H1, J, r1, l, ns, e, hq, hl, k⟩
  subst e
  cases r1
  obtain ⟨its, r, pl, hz⟩ := J.list hq
  have hlen : its.toArray.size = ns.length := by
    have e := r.length
    rw [List.length_map] at e
    rw [List.size_toArray, e]
  refine PyProof.Rows.args_nil (PySem.call_set_list (J.ok.hd hc) pl.isList (by simpa using RZ.intsAre_vals r) (by rw [hlen]; unfold scanBound; omega) fun h' tk hS hk => PyProof.Rows.args_nil ?_)
  rw [hlen] at hS
  obtain ⟨o, es, ep, t, ho, hex, hd, _, _, _, hf, hn⟩ := hS
  have J2 : Inv X pins σ H1 { s1 with heap := h', toks := tk } := J.kept fun b o e => hk b o (Heap.lt_size e) e
  have hle : metN ns ≤ ns.length := PyProof.Rows.firstMet_length_le _ _
  have hle2 : (PyProof.Rows.firstMet (fun i => ns.getD i 0) ns.length).length ≤ ns.length := hle
  exact PySem.call_len_set ho hex hd hf (by rw [hn] <;> omega) ⟨.int (metN ns), H1, J2.tok _, ⟨_, by rw [hn]; rfl⟩, k⟩
theorem w_lenSet {ta : TE} (h : W B0 ta E C fun x C1 => ∃ ns : List Int, LstD C1 x (ns.map D.int) ∧ ns.length ≤ 4000 ∧ P (.int (metN ns : Nat)) C1) : W B0 (tLenSet K ta) E C P := fun B F σ H sb rl re Q q =>
  h B F σ H sb rl re _ fun v d B1 C1 H1 e1 rl1 rp ⟨ns, l, hl, p⟩ => by
    obtain ⟨a, vs, rfl, ha, r⟩ := lstD_rd rl1 rp l
    have e := r.ints
    subst e
    exact ⟨a, ns, rfl, SqL.of ha, hl, q _ _ B1 C1 H1 e1 rl1 .int p⟩
/-- fewer than all just where one stands twice -/
theorem met_step (l : List Int) (v : Int) : PyProof.Rows.step_dedup l v = if v ∈ l then l else l ++ [v] := by
  unfold PyProof.Rows.step_dedup
  by_cases h : v ∈ l
  · have : (l.any fun x => x == v) = true := List.any_eq_true.mpr ⟨v, h, by simp⟩
    simp [this, h]
  · have : (l.any fun x => x == v) = false := by
      cases e : l.any fun x => x == v with
      | false => rfl
      | true =>
        obtain ⟨w, hw, e2⟩ := List.any_eq_true.mp e
        rw [eq_of_beq e2] at hw
        exact absurd hw h
    simp [this, h]
theorem met_fold : ∀ (l acc : List Int), acc.Nodup → (l.foldl PyProof.Rows.step_dedup acc).length ≤ acc.length + l.length ∧
    ((l.foldl PyProof.Rows.step_dedup acc).length = acc.length + l.length ↔ (acc ++ l).Nodup)
  | [], acc, h => by simp [h]
  | v :: l, acc, h => by
    rw [List.foldl_cons, met_step]
    by_cases m : v ∈ acc
    · rw [if_pos m]
      obtain ⟨h1, h2⟩ := met_fold l acc h
      refine ⟨by simp; omega, ⟨fun e => ?_, fun e => ?_⟩⟩
      · simp at e; omega
      · exact absurd rfl ((List.nodup_append.mp e).2.2 v m v (by simp))
    · rw [if_neg m]
      have hn : (acc ++ [v]).Nodup := by
        rw [List.nodup_append]
        refine ⟨h, by simp, fun a ha b hb => ?_⟩
        simp at hb
        subst hb
        exact fun e => m (e ▸ ha)
      obtain ⟨h1, h2⟩ := met_fold l (acc ++ [v]) hn
      rw [List.length_append, List.length_singleton] at h1 h2
      rw [List.length_cons]
      refine ⟨by omega, ?_⟩
      rw [show acc ++ v :: l = acc ++ [v] ++ l by simp, ← h2]
      omega
theorem getD_list (ns : List Int) : (List.range ns.length).map (fun i => ns.getD i 0) = ns := by
  apply List.ext_getElem?
  intro i
  rw [List.getElem?_map]
  by_cases h : i < ns.length
  · rw [List.getElem?_range h, List.getElem?_eq_getElem h]
    simp [List.getD_eq_getElem?_getD, h]
  · rw [List.getElem?_eq_none (by simpa using h), List.getElem?_eq_none (by omega)]; rfl
theorem metN_lt (ns : List Int) : decide ((metN ns : Int) < (ns.length : Int)) = !decide ns.Nodup := by
  unfold metN PyProof.Rows.firstMet
  rw [getD_list]
  obtain ⟨h1, h2⟩ := met_fold ns [] List.nodup_nil
  simp only [List.nil_append, List.length_nil, Nat.zero_add] at h1 h2
  by_cases h : ns.Nodup
  · have := h2.mpr h
    simp [h]; omega
  · have : ¬ (ns.foldl PyProof.Rows.step_dedup []).length = ns.length := fun e => h (h2.mp e)
    simp [h]; omega
end
end Dv

set_option maxRecDepth 100000
set_option maxHeartbeats 1000000
/-! Short words for the terms that gen.py prints. -/
namespace Dv
open PySem PySem.Spec L2
theorem bt_len : bootBuiltins "len" = some (.builtin "len") := by decide +kernel
theorem bt_max : bootBuiltins "max" = some (.builtin "max") := by decide +kernel
theorem bt_min : bootBuiltins "min" = some (.builtin "min") := by decide +kernel
theorem bt_sum : bootBuiltins "sum" = some (.builtin "sum") := by decide +kernel
theorem bt_all : bootBuiltins "all" = some (.builtin "all") := by decide +kernel
theorem bt_any : bootBuiltins "any" = some (.builtin "any") := by decide +kernel
theorem bt_abs : bootBuiltins "abs" = some (.builtin "abs") := by decide +kernel
theorem bt_isinstance : bootBuiltins "isinstance" = some (.builtin "isinstance") := by decide +kernel
theorem bt_sorted : bootBuiltins "sorted" = some (.builtin "sorted") := by decide +kernel
theorem bt_int : bootBuiltins "int" = some (.type "int") := by decide +kernel
theorem bt_list : bootBuiltins "list" = some (.type "list") := by decide +kernel
theorem bt_tuple : bootBuiltins "tuple" = some (.type "tuple") := by decide +kernel
theorem bt_dict : bootBuiltins "dict" = some (.type "dict") := by decide +kernel
theorem bt_str : bootBuiltins "str" = some (.type "str") := by decide +kernel
theorem bt_bool : bootBuiltins "bool" = some (.type "bool") := by decide +kernel
section
variable {X : Cx} {pos pos' : Pos}
theorem pg_nm (i : Nat) {x : Str} (hN : X.N.Nodup) (hi : X.N[i]? = some x := by rfl) (hx : Loc X.env.scope x := by first | exact Or.inl rfl | exact Or.inr rfl)
    (hf : X.fn x = true ∨ X.env.scope.names.lookup x = some .local := by first | exact .inl rfl | exact .inr rfl | assumption) : PG X (.Name x pos) (gName i) := pg_name hN hi hx hf
theorem ps_nm (i : Nat) {x : Str} {e : Expr} {te : TE} (hN : X.N.Nodup) (he : PE X e te) (hi : X.N[i]? = some x := by rfl) (hx : Loc X.env.scope x := by first | exact Or.inl rfl | exact Or.inr rfl)
    (hs : swapsWith e (some (.Name x pos')) pos.line X.env = pure false := by rfl) (hf : X.fn x = true ∨ X.env.scope.names.lookup x = some .local := by first | exact .inl rfl | exact .inr rfl | assumption) :
    PS X (.Assign [.Name x pos'] e pos) (tAsg te (gName i)) := ps_set hN hi hx he hs hf
theorem ps_au (i : Nat) {x : Str} {e : Expr} {te : TE} {op : Operator} {ti : TIp} (hN : X.N.Nodup) (he : PE X e te) (ho : PIp X op ti) (hi : X.N[i]? = some x := by rfl) (hx : Loc X.env.scope x := by first | exact Or.inl rfl | exact Or.inr rfl)
    (hf : X.fn x = true ∨ X.env.scope.names.lookup x = some .local := by first | exact .inl rfl | exact .inr rfl | assumption) : PS X (.AugAssign (.Name x pos') op e pos) (tAug i te ti) := ps_aug hN hi hx he ho hf
theorem pt_tru {e : Expr} {te : TE} (he : PE X e te) (hh : ∀ whole, isTrue e X.env whole = (do let v ← whole; standAt e.pos; holding [v] (truthy v)) := by intro _; rfl) : PT X e (tTruth X.K te) := pt_truth he hh
end
theorem kit_NoneType_list : kitB "NoneType" "list" = some false := by decide +kernel
theorem kit_NoneType_tuple : kitB "NoneType" "tuple" = some false := by decide +kernel
theorem kit_NoneType_bool : kitB "NoneType" "bool" = some false := by decide +kernel
theorem kit_NoneType_str : kitB "NoneType" "str" = some false := by decide +kernel
theorem kit_NoneType_int : kitB "NoneType" "int" = some false := by decide +kernel
theorem kit_NoneType_dict : kitB "NoneType" "dict" = some false := by decide +kernel
theorem kit_bool_list : kitB "bool" "list" = some false := by decide +kernel
theorem kit_bool_tuple : kitB "bool" "tuple" = some false := by decide +kernel
theorem kit_bool_bool : kitB "bool" "bool" = some true := by decide +kernel
theorem kit_bool_str : kitB "bool" "str" = some false := by decide +kernel
theorem kit_bool_int : kitB "bool" "int" = some true := by decide +kernel
theorem kit_bool_dict : kitB "bool" "dict" = some false := by decide +kernel
theorem kit_int_list : kitB "int" "list" = some false := by decide +kernel
theorem kit_int_tuple : kitB "int" "tuple" = some false := by decide +kernel
theorem kit_int_bool : kitB "int" "bool" = some false := by decide +kernel
theorem kit_int_str : kitB "int" "str" = some false := by decide +kernel
theorem kit_int_int : kitB "int" "int" = some true := by decide +kernel
theorem kit_int_dict : kitB "int" "dict" = some false := by decide +kernel
theorem kit_str_list : kitB "str" "list" = some false := by decide +kernel
theorem kit_str_tuple : kitB "str" "tuple" = some false := by decide +kernel
theorem kit_str_bool : kitB "str" "bool" = some false := by decide +kernel
theorem kit_str_str : kitB "str" "str" = some true := by decide +kernel
theorem kit_str_int : kitB "str" "int" = some false := by decide +kernel
theorem kit_str_dict : kitB "str" "dict" = some false := by decide +kernel
theorem kit_tuple_list : kitB "tuple" "list" = some false := by decide +kernel
theorem kit_tuple_tuple : kitB "tuple" "tuple" = some true := by decide +kernel
theorem kit_tuple_bool : kitB "tuple" "bool" = some false := by decide +kernel
theorem kit_tuple_str : kitB "tuple" "str" = some false := by decide +kernel
theorem kit_tuple_int : kitB "tuple" "int" = some false := by decide +kernel
theorem kit_tuple_dict : kitB "tuple" "dict" = some false := by decide +kernel
theorem kit_list_list : kitB "list" "list" = some true := by decide +kernel
theorem kit_list_tuple : kitB "list" "tuple" = some false := by decide +kernel
theorem kit_list_bool : kitB "list" "bool" = some false := by decide +kernel
theorem kit_list_str : kitB "list" "str" = some false := by decide +kernel
theorem kit_list_int : kitB "list" "int" = some false := by decide +kernel
theorem kit_list_dict : kitB "list" "dict" = some false := by decide +kernel
theorem kit_dict_list : kitB "dict" "list" = some false := by decide +kernel
theorem kit_dict_tuple : kitB "dict" "tuple" = some false := by decide +kernel
theorem kit_dict_bool : kitB "dict" "bool" = some false := by decide +kernel
theorem kit_dict_str : kitB "dict" "str" = some false := by decide +kernel
theorem kit_dict_int : kitB "dict" "int" = some false := by decide +kernel
theorem kit_dict_dict : kitB "dict" "dict" = some true := by decide +kernel
/-! the same with the written part K named (within a comprehension's block the context is another one) -/
section
variable {X : Cx} {pos pos' : Pos}
theorem pt_truK (K : PySem.W.Frag) {e : Expr} {te : TE} (he : PE X e te) (h : X.K = K := by rfl) (hh : ∀ whole, isTrue e X.env whole = (do let v ← whole; standAt e.pos; holding [v] (truthy v)) := by intro _; rfl) : PT X e (tTruth K te) := by
  subst h
  exact pt_truth he hh
theorem ix_seqK (K : PySem.W.Frag) (h : X.K = K := by rfl) : IxR X (rIx K) := by subst h; exact ix_seq
theorem op_addK (K : PySem.W.Frag) (h : X.K = K := by rfl) : OpR X (binaryOp .Add) (rAddU K) := by subst h; exact op_addU
theorem op_eqK (K : PySem.W.Frag) {n : Nat} (hr : Room n X.A) (h : X.K = K := by rfl) : OpR X (compareOp .Eq) (rEqU K) := by subst h; exact op_eqU hr
theorem op_neK (K : PySem.W.Frag) {n : Nat} (hr : Room n X.A) (h : X.K = K := by rfl) : OpR X (compareOp .NotEq) (rNeU K) := by subst h; exact op_neU hr
theorem op_inK (K : PySem.W.Frag) (h : X.K = K := by rfl) : OpR X (compareOp .In) (rInU K false) := by subst h; exact op_inU
theorem op_ninK (K : PySem.W.Frag) (h : X.K = K := by rfl) : OpR X (compareOp .NotIn) (rInU K true) := by subst h; exact op_ninU
theorem sl_K (K : PySem.W.Frag) (h : X.K = K := by rfl) : SlR X (rSlU K) := by subst h; exact sl_U
theorem call_lenK (K : PySem.W.Frag) (h : X.K = K := by rfl) : CallR X (.builtin "len") (rLenU K) := by subst h; exact call_lenU
theorem call_maxK (K : PySem.W.Frag) (h : X.K = K := by rfl) (hc : X.calm = true := by rfl) : CallR X (.builtin "max") (rMaxU K) := by subst h; exact call_maxU hc
theorem call_minK (K : PySem.W.Frag) (h : X.K = K := by rfl) (hc : X.calm = true := by rfl) : CallR X (.builtin "min") (rMinU K) := by subst h; exact call_minU hc
theorem call_sumK (K : PySem.W.Frag) (h : X.K = K := by rfl) (hc : X.calm = true := by rfl) : CallR X (.builtin "sum") (rSum K) := by subst h; exact cr_sum hc
theorem call_allK (K : PySem.W.Frag) (h : X.K = K := by rfl) (hc : X.calm = true := by rfl) : CallR X (.builtin "all") (rAll K) := by subst h; exact cr_all hc
theorem call_anyK (K : PySem.W.Frag) (h : X.K = K := by rfl) (hc : X.calm = true := by rfl) : CallR X (.builtin "any") (rAny K) := by subst h; exact cr_any hc
theorem call_isiK (K : PySem.W.Frag) (h : X.K = K := by rfl) : CallR X (.builtin "isinstance") (rIsiU K) := by subst h; exact call_isiU
theorem call_lstK (K : PySem.W.Frag) (h : X.K = K := by rfl) (hc : X.calm = true := by rfl) : CallR X (.type "list") (rLstU K) := by subst h; exact call_lstU hc
theorem call_tupK (K : PySem.W.Frag) (h : X.K = K := by rfl) : CallR X (.type "tuple") (rTupU K) := by subst h; exact call_tupU
theorem pi_seqK (K : PySem.W.Frag) {tg l : Expr} {tl : TE} (hl : PE X l tl) (h : X.K = K := by rfl) : PI X tg l (iSeq K tl) := by subst h; exact pi_seq hl
theorem pg_tupK (K : PySem.W.Frag) {es : List Expr} {k : Nat} {t : TGs} {n : Nat} (hp : PGs X es t) (h : X.K = K := by rfl) (hc : X.calm = true := by rfl)
    (hn : (assignEach es X.env).length = n := by rfl) (hst : (assignEach es X.env).findIdx? (·.1) = none := by rfl) : PG X (.Tuple es k pos) (gTup K n t) := by subst h; exact pg_tup hc hp hn hst
theorem pe_lenSetK (K : PySem.W.Frag) {a : Expr} {ta : TE} {p p2 q : Pos} (hm : X.mg "len" = none) (hm2 : X.mg "set" = none) (ha : PE X a ta) (h : X.K = K := by rfl) (hg : Gl X "len" := by rfl) (hg2 : Gl X "set" := by rfl) (hc : X.calm = true := by rfl)
    (na : starEach [a] X.env = (false, eval a X.env) :: starEach [] X.env := by rfl) : PE X (.Call (.Name "len" p) [.Call (.Name "set" p2) [a] [] q] [] pos) (tLenSet K ta) := by subst h; exact pe_lenSetN hm hm2 ha hg hg2 hc na
theorem pe_bmK (K : PySem.W.Frag) {T id : String} {name : Str} {o e : Expr} {es : List Expr} {apos cpos : Pos} {r : V → List V → Hp → VK → Prop} {to : TE} {t : TA} (pa : PlainAttrs T) (slot : Slot T name id) (hty : typeOf (.builtin id) = pure (.type "method_descriptor")) (hm : MtR X id r) (ho : PE X o to) (ha : PA X (e :: es) t) (h : X.K = K := by rfl)
    (hbase : attributeBase o name X.env (eval o X.env) = eval o X.env := by rfl)
    (hfew : ((backTo cpos (starEach (e :: es) X.env)).all (fun x => !x.1) && (backToKw cpos (keywordEach [] X.env)).all (fun x => x.1.isSome) && decide ((e :: es).length + ([] : List Keyword).length + (if ([] : List Keyword).isEmpty then 0 else 1) < 30)) = true := by rfl)
    (hline : (apos.endLine == cpos.line) = true := by rfl) (hs : starEach (e :: es) X.env = (false, eval e X.env) :: starEach es X.env := by rfl) (hplain : (backTo cpos (starEach es X.env)).any (·.1) = false := by rfl) :
    PE X (.Call (.Attribute o name apos) (e :: es) [] cpos) (tBM K T r to t) := by subst h; exact pe_bm pa slot hty hm ho ha hbase hfew hline hs hplain
theorem pe_bmK0 (K : PySem.W.Frag) {T id : String} {name : Str} {o : Expr} {apos cpos : Pos} {r : V → List V → Hp → VK → Prop} {to : TE} (pa : PlainAttrs T) (slot : Slot T name id) (hty : typeOf (.builtin id) = pure (.type "method_descriptor")) (hm : MtR X id r) (ho : PE X o to) (h : X.K = K := by rfl)
    (hbase : attributeBase o name X.env (eval o X.env) = eval o X.env := by rfl) (hline : (apos.endLine == cpos.line) = true := by rfl) :
    PE X (.Call (.Attribute o name apos) [] [] cpos) (tBM0 K T r to) := by subst h; exact pe_bm0 pa slot hty hm ho hbase hline
end
theorem nx_show {nx bk ct : EnvD → CH → Prop} {rt : D → CH → Prop} {E : EnvD} {C : CH} (h : nx E C) : (EndD.mk nx rt bk ct).nx E C := h
theorem rt_show {nx bk ct : EnvD → CH → Prop} {rt : D → CH → Prop} {d : D} {C : CH} (h : rt d C) : (EndD.mk nx rt bk ct).rt d C := h
theorem bk_show {nx bk ct : EnvD → CH → Prop} {rt : D → CH → Prop} {E : EnvD} {C : CH} (h : bk E C) : (EndD.mk nx rt bk ct).bk E C := h
theorem ct_show {nx bk ct : EnvD → CH → Prop} {rt : D → CH → Prop} {E : EnvD} {C : CH} (h : ct E C) : (EndD.mk nx rt bk ct).ct E C := h
/-- a comprehension within a comprehension's block -/
theorem blkOk_in {X : Cx} {own : List (Str × Nat)} {scope : Scope} (N : List Str) (hN : X.N = N := by exact rfl) (h : blkC N X.env.scope scope own = true := by with_unfolding_all exact rfl) : BlkOk X.N X.env.scope scope own := by
  rw [hN]
  exact blkOk_by h
theorem wsl_tupE {B0 : Gr} {C : CH} {P : D → CH → Prop} {K : PySem.W.Frag} {x : D} {ds : List D} {lo hi : Option Int} (e : x = .tup ds) (k : P (.tup (cutD ds lo hi)) C) : WSl B0 (rSlU K) x lo hi C P := by
  subst e
  exact wsl_tup k
theorem wsl_lstE {B0 : Gr} {C : CH} {P : D → CH → Prop} {K : PySem.W.Frag} {x : D} {ds : List D} {lo hi : Option Int} (e : x = .lst ds) (k : P (.lst (cutD ds lo hi)) C) : WSl B0 (rSlU K) x lo hi C P := by
  subst e
  exact wsl_lst .lst k
/-- what holds behind a test: both ways -/
theorem ite_two {b : Bool} {p q : Prop} (h1 : b = true → p) (h2 : b = false → q) : (b = true → p) ∧ (b = false → q) := ⟨h1, h2⟩
theorem ex_bl {b : Bool} {p : Bool → Prop} (h : p b) : ∃ c, D.bl b = .bl c ∧ p c := ⟨b, rfl, h⟩
theorem tru_bl {C : CH} {b : Bool} {p : Bool → Prop} (h : p b) : ∃ c, TruD C (.bl b) = some c ∧ p c := ⟨b, rfl, h⟩
end Dv

set_option maxRecDepth 100000
/-! Boxes as Lean data. -/
namespace Dv
open PySem L2
inductive Box where
  | block (n h : Int)
  | scroller (n h : Int) (ps : List Box)
mutual
def encB : Box → D
  | .block n h => .tup [.str "block", .int n, .int h]
  | .scroller n h ps => .tup [.str "scroller", .int n, .int h, .tup (encBs ps)]
def encBs : List Box → List D
  | [] => []
  | b :: r => encB b :: encBs r
end
theorem encBs_map : ∀ ps : List Box, encBs ps = ps.map encB
  | [] => rfl
  | b :: r => by rw [encBs, encBs_map r]; rfl
def Box.num : Box → Int
  | .block n _ => n
  | .scroller n _ _ => n
def Box.hgt : Box → Int
  | .block _ h => h
  | .scroller _ h _ => h
def Box.kind : Box → Str
  | .block _ _ => "block"
  | .scroller _ _ _ => "scroller"
section
variable {B0 : Gr} {C : CH} {P : D → CH → Prop} {K : PySem.W.Frag} {b : Box}
theorem wr_bn (k : P (.int b.num) C) : WR B0 (rIx K) (encB b) (.int 1) C P := by
  cases b with
  | block n h => exact wr_ix .tup rfl k
  | scroller n h ps => exact wr_ix .tup rfl k
theorem wr_bh (k : P (.int b.hgt) C) : WR B0 (rIx K) (encB b) (.int 2) C P := by
  cases b with
  | block n h => exact wr_ix .tup rfl k
  | scroller n h ps => exact wr_ix .tup rfl k
theorem wr_bk (k : P (.str b.kind) C) : WR B0 (rIx K) (encB b) (.int 0) C P := by
  cases b with
  | block n h => exact wr_ix .tup rfl k
  | scroller n h ps => exact wr_ix .tup rfl k
end
def encO : Option Box → D
  | none => .non
  | some b => encB b
def encOI : Option Int → D
  | none => .non
  | some i => .int i
def findB : List Box → Int → Option Box
  | [], _ => none
  | p :: r, i => if p.num = i then some p else findB r i
def Box.parts : Box → List Box
  | .block _ _ => []
  | .scroller _ _ ps => ps
def parentB : List Box → Int → Option Int
  | [], _ => none
  | p :: r, i => if i ∈ p.parts.map Box.num then some p.num else parentB r i
def Box.isS : Box → Bool
  | .block _ _ => false
  | .scroller _ _ _ => true
mutual
/-- levels of boxes -/
def Box.lev : Box → Nat
  | .block _ _ => 1
  | .scroller _ _ ps => levs ps + 1
def levs : List Box → Nat
  | [] => 0
  | b :: r => max b.lev (levs r)
end
mutual
def Box.all : Box → List Box
  | .block n h => [.block n h]
  | .scroller n h ps => .scroller n h ps :: alls ps
def alls : List Box → List Box
  | [] => []
  | b :: r => b.all ++ alls r
end
mutual
/-- scrollers within one another -/
def Box.deep : Box → Nat
  | .block _ _ => 0
  | .scroller _ _ ps => deeps ps + 1
def deeps : List Box → Nat
  | [] => 0
  | b :: r => max b.deep (deeps r)
end
theorem lev_le : ∀ {ps : List Box} {b : Box}, b ∈ ps → b.lev ≤ levs ps
  | p :: ps, b, h => by
    rw [levs]
    rcases List.mem_cons.mp h with rfl | h
    · omega
    · have := lev_le h; omega
theorem lev_parts {b p : Box} {n : Nat} (h : b.lev ≤ n + 1) (hp : p ∈ b.parts) : p.lev ≤ n := by
  cases b with
  | block _ _ => cases hp
  | scroller _ _ ps =>
    have := lev_le (show p ∈ ps from hp)
    rw [Box.lev] at h
    omega
theorem all_eq (b : Box) : b.all = b :: alls b.parts := by
  cases b with
  | block _ _ => rfl
  | scroller _ _ _ => rw [Box.all]; rfl
theorem encBs_cons {x : D} {xs : List D} {post : List Box} (h : x :: xs = encBs post) : ∃ p q, post = p :: q ∧ x = encB p ∧ xs = encBs q := by
  cases post with
  | nil => rw [encBs] at h; cases h
  | cons p q => rw [encBs] at h; injection h with h1 h2; exact ⟨p, q, rfl, h1, h2⟩
theorem encBs_nil {post : List Box} (h : [] = encBs post) : post = [] := by
  cases post with
  | nil => rfl
  | cons p q => rw [encBs] at h; cases h
theorem encBs_append (a b : List Box) : encBs (a ++ b) = encBs a ++ encBs b := by
  rw [encBs_map, encBs_map, encBs_map, List.map_append]
theorem encBs_length (a : List Box) : (encBs a).length = a.length := by rw [encBs_map, List.length_map]
theorem alls_append : ∀ a b : List Box, alls (a ++ b) = alls a ++ alls b
  | [], b => rfl
  | p :: r, b => by rw [List.cons_append, alls, alls, alls_append r b, List.append_assoc]
theorem all_len_part {b p : Box} {pre post : List Box} (h : b.parts = pre ++ p :: post) : (b :: alls pre).length + p.all.length ≤ b.all.length := by
  rw [all_eq b, h, alls_append, alls]
  simp
  omega
theorem alls_flat : ∀ ps : List Box, alls ps = ps.flatMap Box.all
  | [] => rfl
  | b :: r => by rw [alls, alls_flat r, List.flatMap_cons]
theorem alls_len_ge : ∀ ps : List Box, ps.length ≤ (alls ps).length
  | [] => Nat.le_refl _
  | p :: r => by
    have := alls_len_ge r
    rw [alls, all_eq p]
    simp
    omega
theorem all_len_sub {b p : Box} (hp : p ∈ b.parts) : p.all.length ≤ b.all.length := by
  obtain ⟨pre, post, e⟩ := List.append_of_mem hp
  have := all_len_part e
  omega
mutual
theorem parts_len : ∀ {b p : Box}, p ∈ b.all → p.parts.length ≤ b.all.length
  | .block n h, p, hp => by
    rw [Box.all] at hp
    rcases List.mem_cons.mp hp with rfl | hp
    · exact Nat.zero_le _
    · cases hp
  | .scroller n h ps, p, hp => by
    rw [Box.all] at hp ⊢
    rcases List.mem_cons.mp hp with rfl | hp
    · have := alls_len_ge ps
      simp [Box.parts]
      omega
    · have := partss_len hp
      simp
      omega
theorem partss_len : ∀ {ps : List Box} {p : Box}, p ∈ alls ps → p.parts.length ≤ (alls ps).length
  | [], p, hp => by rw [alls] at hp; cases hp
  | b :: r, p, hp => by
    rw [alls] at hp ⊢
    rw [List.length_append]
    rcases List.mem_append.mp hp with hp | hp
    · have := parts_len hp; omega
    · have := partss_len hp; omega
end
def isDoc (b : Box) : Bool := decide (b.isS = true ∧ b.all.length ≤ 40 ∧ b.deep ≤ 4 ∧ (b.all.map Box.num).Nodup ∧ (∀ p ∈ b.all, 1 ≤ p.num ∧ p.num ≤ 999) ∧ ∀ p ∈ b.all, 0 ≤ p.hgt ∧ p.hgt ≤ 1000)
theorem deeps_max : ∀ (ps : List Box) (m : Int), m ∈ (0 : Int) :: ps.map (fun p => (p.deep : Int)) → (∀ y, y ∈ (0 : Int) :: ps.map (fun p => (p.deep : Int)) → y ≤ m) → m = (deeps ps : Nat)
  | ps, m, h1, h2 => by
    have up : ∀ (qs : List Box) (q : Box), q ∈ qs → q.deep ≤ deeps qs := by
      intro qs
      induction qs with
      | nil => intro q h; cases h
      | cons a r ih =>
        intro q h
        rw [deeps]
        rcases List.mem_cons.mp h with rfl | h
        · omega
        · have := ih q h; omega
    have has : ∀ qs : List Box, deeps qs = 0 ∨ ∃ q ∈ qs, q.deep = deeps qs := by
      intro qs
      induction qs with
      | nil => exact .inl rfl
      | cons a r ih =>
        rw [deeps]
        by_cases h : deeps r ≤ a.deep
        · exact .inr ⟨a, by simp, by omega⟩
        · rcases ih with h0 | ⟨q, hq, e⟩
          · omega
          · exact .inr ⟨q, by simp [hq], by omega⟩
    have le : m ≤ (deeps ps : Nat) := by
      rcases List.mem_cons.mp h1 with e | h
      · omega
      · obtain ⟨q, hq, e⟩ := List.mem_map.mp h
        have := up ps q hq
        omega
    rcases has ps with h0 | ⟨q, hq, e⟩
    · have := h2 0 (by simp); omega
    · have := h2 (q.deep : Int) (List.mem_cons_of_mem _ (List.mem_map.mpr ⟨q, hq, rfl⟩))
      omega
end Dv

set_option maxRecDepth 100000
namespace Dv
open PySem L2
/-! ### documents as the law draws them -/
mutual
/-- a box drawn with k levels left: the last number ahead, the box, the last number behind -/
inductive DocB : Nat → Int → Box → Int → Prop
  | block {k : Nat} {z n h : Int} : z < n → n ≤ z + 3 → 0 ≤ h → h < 7 → DocB k z (.block n h) n
  | scroller {k : Nat} {z n h z' : Int} {ps : List Box} : z < n → n ≤ z + 3 → 0 ≤ h → h < 9 → ps.length ≤ 2 → DocBs k n ps z' → DocB (k + 1) z (.scroller n h ps) z'
inductive DocBs : Nat → Int → List Box → Int → Prop
  | nil {k : Nat} {z : Int} : DocBs k z [] z
  | cons {k : Nat} {z z1 z2 : Int} {b : Box} {ps : List Box} : DocB k z b z1 → DocBs k z1 ps z2 → DocBs k z (b :: ps) z2
end
theorem DocBs.snoc {k : Nat} : ∀ {ps : List Box} {z z1 z2 : Int} {b : Box}, DocBs k z ps z1 → DocB k z1 b z2 → DocBs k z (ps ++ [b]) z2
  | [], _, _, _, _, .nil, h => .cons h .nil
  | _ :: _, _, _, _, _, .cons a r, h => .cons a (DocBs.snoc r h)
theorem DocBs.app {k : Nat} : ∀ {ps qs : List Box} {z z1 z2 : Int}, DocBs k z ps z1 → DocBs k z1 qs z2 → DocBs k z (ps ++ qs) z2
  | [], _, _, _, _, .nil, h => h
  | _ :: _, _, _, _, _, .cons a r, h => .cons a (DocBs.app r h)
mutual
theorem DocB.mono {k : Nat} : ∀ {b : Box} {z z' : Int}, DocB k z b z' → DocB (k + 1) z b z'
  | _, _, _, .block a b c d => .block a b c d
  | _, _, _, .scroller a b c d e f => .scroller a b c d e (DocBs.mono f)
theorem DocBs.mono {k : Nat} : ∀ {ps : List Box} {z z' : Int}, DocBs k z ps z' → DocBs (k + 1) z ps z'
  | _, _, _, .nil => .nil
  | _, _, _, .cons a r => .cons (DocB.mono a) (DocBs.mono r)
end
/-- a document as the law draws it -/
def DocR (b : Box) : Prop := ∃ (n h : Int) (ps : List Box) (z : Int), b = .scroller n h ps ∧ 1 ≤ n ∧ n ≤ 5 ∧ 0 ≤ h ∧ h ≤ 20 ∧ ps.length ≤ 4 ∧ DocBs 2 n ps z

/-! ### what such documents are like -/
def szB : Nat → Nat
  | 0 => 1
  | k + 1 => 1 + 2 * szB k
structure InB (k : Nat) (z : Int) (l : List Box) (z' : Int) : Prop where
  le : z ≤ z'
  rg : ∀ p ∈ l, z < p.num ∧ p.num ≤ z'
  up : (l.map Box.num).Pairwise (· < ·)
  hg : ∀ p ∈ l, 0 ≤ p.hgt ∧ p.hgt ≤ 20
  st : z' ≤ z + 3 * (l.length : Int)
theorem InB.app {k : Nat} {z z1 z2 : Int} {l m : List Box} (a : InB k z l z1) (b : InB k z1 m z2) : InB k z (l ++ m) z2 where
  le := Int.le_trans a.le b.le
  rg := fun p hp => by
    have := a.le
    have := b.le
    rcases List.mem_append.mp hp with h | h
    · have := a.rg p h; omega
    · have := b.rg p h; omega
  up := by
    rw [List.map_append, List.pairwise_append]
    refine ⟨a.up, b.up, fun x hx y hy => ?_⟩
    obtain ⟨p, hp, rfl⟩ := List.mem_map.mp hx
    obtain ⟨q, hq, rfl⟩ := List.mem_map.mp hy
    have := a.rg p hp
    have := b.rg q hq
    omega
  hg := fun p hp => (List.mem_append.mp hp).elim (a.hg p) (b.hg p)
  st := by
    have := a.st
    have := b.st
    rw [List.length_append]
    omega
theorem InB.head {k : Nat} {z z' n : Int} {b : Box} {l : List Box} (e : b.num = n) (h1 : z < n) (h2 : n ≤ z + 3) (h3 : 0 ≤ b.hgt ∧ b.hgt ≤ 20) (a : InB k n l z') : InB k z (b :: l) z' where
  le := by have := a.le; omega
  rg := fun p hp => by
    have := a.le
    rcases List.mem_cons.mp hp with rfl | h
    · omega
    · have := a.rg p h; omega
  up := by
    rw [List.map_cons, List.pairwise_cons]
    refine ⟨fun x hx => ?_, a.up⟩
    obtain ⟨p, hp, rfl⟩ := List.mem_map.mp hx
    have := a.rg p hp
    omega
  hg := fun p hp => by
    rcases List.mem_cons.mp hp with rfl | h
    · exact h3
    · exact a.hg p h
  st := by
    have := a.st
    rw [List.length_cons]
    omega
theorem InB.none {k : Nat} {z : Int} : InB k z [] z := ⟨Int.le_refl _, (fun p hp => by cases hp), List.Pairwise.nil, (fun p hp => by cases hp), by simp⟩
mutual
theorem docB_in {k : Nat} : ∀ {b : Box} {z z' : Int}, DocB k z b z' → InB k z b.all z'
  | .block n h, z, _, .block a b c d => InB.head rfl a b ⟨c, by show h ≤ 20; omega⟩ .none
  | .scroller n h ps, z, _, .scroller a b c d e f => by
    rw [Box.all]
    have r := docBs_in f
    exact InB.head rfl a b ⟨c, by show h ≤ 20; omega⟩ ⟨r.le, r.rg, r.up, r.hg, r.st⟩
theorem docBs_in {k : Nat} : ∀ {ps : List Box} {z z' : Int}, DocBs k z ps z' → InB k z (alls ps) z'
  | [], _, _, .nil => .none
  | b :: r, _, _, .cons a c => by
    rw [alls]
    exact (docB_in a).app (docBs_in c)
end
mutual
theorem docB_sz {k : Nat} : ∀ {b : Box} {z z' : Int}, DocB k z b z' → b.all.length ≤ szB k ∧ b.deep ≤ k ∧ b.lev ≤ k + 1
  | .block n h, z, _, .block _ _ _ _ => by
    have : 1 ≤ szB k := by cases k <;> simp [szB]
    simp [Box.all, Box.deep, Box.lev]
    omega
  | .scroller n h ps, z, _, @DocB.scroller k _ _ _ _ _ a b c d e f => by
    obtain ⟨s1, s2, s3⟩ := docBs_sz f
    have : ps.length * szB k ≤ 2 * szB k := Nat.mul_le_mul_right _ e
    simp only [Box.all, Box.deep, Box.lev, szB, List.length_cons]
    omega
theorem docBs_sz {k : Nat} : ∀ {ps : List Box} {z z' : Int}, DocBs k z ps z' → (alls ps).length ≤ ps.length * szB k ∧ deeps ps ≤ k ∧ levs ps ≤ k + 1
  | [], _, _, .nil => by simp [alls, deeps, levs]
  | b :: r, _, _, .cons a c => by
    obtain ⟨s1, s2, s3⟩ := docB_sz a
    obtain ⟨t1, t2, t3⟩ := docBs_sz c
    simp only [alls, deeps, levs, List.length_append, List.length_cons]
    rw [Nat.add_mul]
    omega
end
theorem nodup_of_up : ∀ {l : List Int}, l.Pairwise (· < ·) → l.Nodup
  | l, h => h.imp fun {a b} h => by omega
structure DocOk (b : Box) : Prop where
  isS : b.isS = true
  len : b.all.length ≤ 29
  deep : b.deep ≤ 3
  lev : b.lev ≤ 4
  up : (b.all.map Box.num).Pairwise (· < ·)
  rg : ∀ p ∈ b.all, 1 ≤ p.num ∧ p.num ≤ 200
  hg : ∀ p ∈ b.all, 0 ≤ p.hgt ∧ p.hgt ≤ 20
  parts : b.parts.length ≤ 4
theorem docR_ok {b : Box} (h : DocR b) : DocOk b := by
  obtain ⟨n, h, ps, z, rfl, n1, n5, h0, h20, hl, hd⟩ := h
  obtain ⟨s1, s2, s3⟩ := docBs_sz hd
  have r := docBs_in hd
  have : ps.length * szB 2 ≤ 4 * szB 2 := Nat.mul_le_mul_right _ hl
  have e : szB 2 = 7 := rfl
  have hst := r.st
  refine ⟨rfl, by simp only [Box.all, List.length_cons]; omega, by simp only [Box.deep]; omega, by simp only [Box.lev]; omega, ?_, ?_, ?_, hl⟩
  · rw [Box.all, List.map_cons, List.pairwise_cons]
    refine ⟨fun x hx => ?_, r.up⟩
    obtain ⟨p, hp, rfl⟩ := List.mem_map.mp hx
    exact (r.rg p hp).1
  · intro p hp
    rw [Box.all] at hp
    rcases List.mem_cons.mp hp with rfl | hp
    · exact ⟨n1, by show n ≤ 200; omega⟩
    · have := r.rg p hp
      omega
  · intro p hp
    rw [Box.all] at hp
    rcases List.mem_cons.mp hp with rfl | hp
    · exact ⟨h0, h20⟩
    · exact r.hg p hp
theorem isDoc_of {b : Box} (h : DocOk b) : isDoc b = true := by
  unfold isDoc
  refine decide_eq_true ⟨h.isS, by have := h.len; omega, by have := h.deep; omega, nodup_of_up h.up, fun p hp => ?_, fun p hp => ?_⟩
  · have := h.rg p hp; omega
  · have := h.hg p hp; omega
end Dv

set_option maxRecDepth 100000
set_option maxHeartbeats 1000000
/-! Walks over a dict (locked meanwhile), sorted, displays of dicts. -/
namespace Dv
open PySem L2
/-- no dict within -/
inductive NoDic : D → Prop
  | non : NoDic .non
  | bl {b : Bool} : NoDic (.bl b)
  | int {i : Int} : NoDic (.int i)
  | str {x : Str} : NoDic (.str x)
  | ref {a : Addr} : NoDic (.ref a)
  | ty {n : String} : NoDic (.ty n)
  | tup {l : List D} : (∀ x ∈ l, NoDic x) → NoDic (.tup l)
  | lst {l : List D} : (∀ x ∈ l, NoDic x) → NoDic (.lst l)
/-- the heaps agree but at a, which has no list, no tuple in B -/
def ButA (a : Addr) (B B' : Hp) : Prop := ∀ b o, b ≠ a → B b = some o → B' b = some o
mutual
theorem rep_but {B B' : Hp} {a : Addr} {u : HO} (e : ButA a B B') (ha : B a = some u) (h1 : ∀ vs, u ≠ .tup vs) (h2 : ∀ vs, u ≠ .lst vs) : ∀ {v : V} {d : D}, Rep B v d → NoDic d → Rep B' v d
  | _, _, .non, _ => .non
  | _, _, .bl, _ => .bl
  | _, _, .int, _ => .int
  | _, _, .str, _ => .str
  | _, _, .ref, _ => .ref
  | _, _, .ty, _ => .ty
  | _, .tup l, .tup (a := b) (vs := vs) h r, n => .tup (e b _ (fun z => by rw [z, ha] at h; exact h1 vs (Option.some.inj h)) h) (reps_but e ha h1 h2 r (by cases n with | tup k => exact k))
  | _, .lst l, .lst (a := b) (vs := vs) h r, n => .lst (e b _ (fun z => by rw [z, ha] at h; exact h2 vs (Option.some.inj h)) h) (reps_but e ha h1 h2 r (by cases n with | lst k => exact k))
  | _, _, .dic _ _, n => by cases n
  | _, _, .dicR _ _, n => by cases n
  | _, _, .dicL _ _, n => by cases n
  | _, _, .fn _ _, n => by cases n
theorem reps_but {B B' : Hp} {a : Addr} {u : HO} (e : ButA a B B') (ha : B a = some u) (h1 : ∀ vs, u ≠ .tup vs) (h2 : ∀ vs, u ≠ .lst vs) : ∀ {vs : List V} {ds : List D}, Reps B vs ds → (∀ x ∈ ds, NoDic x) → Reps B' vs ds
  | _, _, .nil, _ => .nil
  | _, d :: ds, .cons h r, n => .cons (rep_but e ha h1 h2 h (n d (by simp))) (reps_but e ha h1 h2 r fun x hx => n x (by simp [hx]))
end
theorem repK_but {B B' : Hp} {a : Addr} {u : HO} (e : ButA a B B') (ha : B a = some u) (h1 : ∀ vs, u ≠ .tup vs) (h2 : ∀ vs, u ≠ .lst vs) {vs : List (Key × V)} {ks : List (Int × D)} (r : RepK B vs ks) (n : ∀ p ∈ ks, NoDic p.2) : RepK B' vs ks := by
  induction vs generalizing ks with
  | nil => cases r; exact .nil
  | cons p vs ih =>
    cases r with
    | @cons k v d vs ds h r => exact .cons (rep_but e ha h1 h2 h (n (k, d) (by simp))) (ih r fun p hp => n p (by simp [hp]))
/-- what is told of a slot while a dict is locked -/
inductive LockR : D → D → Prop
  | same {d : D} : NoDic d → LockR d d
  | dic {ks : List (Int × D)} : (∀ p ∈ ks, NoDic p.2) → LockR (.dic ks) (.dicR ks)
section
variable {B0 : Gr} {C : CH} {P : D → CH → Prop} {K : PySem.W.Frag} {E : EnvD} {ks : List (Int × D)}
theorem w_lock {te : TE} {i : Nat} (E' : Obj → EnvD) (he : E[i]? = some (some (.dic ks))) (hk : ∀ p ∈ ks, NoDic p.2) (hl : ∀ od, (E' od).length = E.length)
    (hE : ∀ (od : Obj) (j : Nat) (d : D), (E' od)[j]? = some (some d) → (j = i ∧ d = .dicL od ks) ∨ ∃ d0, E[j]? = some (some d0) ∧ LockR d0 d)
    (h : ∀ B1 od, W B1 te (E' od) (fun _ => none) fun d _ => NoDic d ∧ P d C) : W B0 (tLockE te) E C P := fun B F σ H sb rl re Q q => by
  obtain ⟨v, hv, rv⟩ := re.get i _ he
  cases rv with
  | @dic a vs _ ha r =>
  refine ⟨a, .dK vs, rl.ex _ _ ha, trivial, fun od => ?_⟩
  have hFa : F a = none := by
    cases e : F a with
    | none => rfl
    | some o => have := rl.bf a o e; rw [ha] at this; cases this
  have hCa : C a = none := by
    cases e : C a with
    | none => rfl
    | some o => have := rl.bc a o e; rw [ha] at this; cases this
  have but : ButA a B (upd B a (.frz od (.dK vs))) := fun b o n e => by rw [upd_ne n]; exact e
  have rl2 : Rel (upd B a (.frz od (.dK vs))) (fun _ => none) (fun b => if (C b).isSome then H b else F b) (upd H a (.frz od (.dK vs))) := by
    refine ⟨fun b o e => ?_, fun b o e => ?_, fun b o e => ?_, fun _ _ _ => rfl, (fun b c e => by cases e), (fun b c e => by cases e)⟩
    · by_cases n : b = a
      · subst n; rw [upd_same] at e ⊢; exact e
      · rw [upd_ne n] at e ⊢; exact rl.ex b o e
    · have e : (if (C b).isSome then H b else F b) = some o := e
      have n : b ≠ a := fun z => by subst z; rw [hCa, hFa] at e; simp at e
      rw [upd_ne n]
      split at e
      · exact e
      · exact rl.fr b o e
    · have e : (if (C b).isSome then H b else F b) = some o := e
      have n : b ≠ a := fun z => by subst z; rw [hCa, hFa] at e; simp at e
      rw [upd_ne n]
      split at e
      · rename_i hs
        cases ec : C b with
        | none => rw [ec] at hs; simp at hs
        | some c => exact rl.bc b c ec
      · exact rl.bf b o e
  have re2 : RelE (upd B a (.frz od (.dK vs))) σ (E' od) := by
    refine ⟨by rw [re.len, hl], fun j d e => ?_⟩
    rcases hE od j d e with ⟨rfl, rfl⟩ | ⟨d0, e0, lr⟩
    · exact ⟨_, hv, .dicL upd_same (repK_but but ha (by intro _ z; cases z) (by intro _ z; cases z) r hk)⟩
    · obtain ⟨x, hx, rx⟩ := re.get j d0 e0
      refine ⟨x, hx, ?_⟩
      cases lr with
      | same n => exact rep_but but ha (by intro _ z; cases z) (by intro _ z; cases z) rx n
      | dic n =>
        cases rx with
        | @dic b ws _ hb rb =>
          refine .dicR ?_ (repK_but but ha (by intro _ z; cases z) (by intro _ z; cases z) rb n)
          by_cases z : b = a
          · subst z
            rw [ha] at hb
            cases hb
            exact .inr ⟨od, upd_same⟩
          · exact .inl (by rw [upd_ne z]; exact hb)
  refine h ⟨upd B a (.frz od (.dK vs)), _⟩ od _ _ σ _ (Sb.refl _ _) rl2 re2 _ fun v' d' B' C' H' s rl' rp' ⟨nd, p⟩ => ?_
  have hB'a : B' a = some (.frz od (.dK vs)) := s a _ upd_same
  refine ⟨rl'.ex _ _ hB'a, ?_⟩
  have keepB : Same B (upd B' a (.dK vs)) := fun b o e => by
    by_cases n : b = a
    · subst n; rw [upd_same, ← ha]; exact e
    · rw [upd_ne n]; exact s b o (by rw [upd_ne n]; exact e)
  have keepF : ∀ b o, F b = some o → b ≠ a ∧ H' b = some o ∧ B' b = none := fun b o e => by
    have n : b ≠ a := fun z => by subst z; rw [hFa] at e; cases e
    have cn := rl.cf b o e
    have fe : (if (C b).isSome then H b else F b) = some o := by rw [cn]; simpa using e
    exact ⟨n, rl'.fr b o fe, rl'.bf b o fe⟩
  have keepC : ∀ b c, C b = some c → b ≠ a ∧ B' b = none ∧ ∃ o, H' b = some o ∧ RepO B o c := fun b c e => by
    have n : b ≠ a := fun z => by subst z; rw [hCa] at e; cases e
    obtain ⟨o, g1, g2⟩ := rl.own b c e
    have fe : (if (C b).isSome then H b else F b) = some o := by rw [e]; simpa using g1
    exact ⟨n, rl'.bf b o fe, o, rl'.fr b o fe, g2⟩
  refine q v' d' (upd B' a (.dK vs)) C (upd H' a (.dK vs)) keepB ⟨fun b o e => ?_, fun b o e => ?_, fun b o e => ?_, rl.cf, fun b c e => ?_, fun b c e => ?_⟩ ?_ p
  · by_cases n : b = a
    · subst n; rw [upd_same] at e ⊢; exact e
    · rw [upd_ne n] at e ⊢; exact rl'.ex b o e
  · obtain ⟨n, g, _⟩ := keepF b o e
    rw [upd_ne n]; exact g
  · obtain ⟨n, _, g⟩ := keepF b o e
    rw [upd_ne n]; exact g
  · obtain ⟨n, g, _⟩ := keepC b c e
    rw [upd_ne n]; exact g
  · obtain ⟨n, _, o, g1, g2⟩ := keepC b c e
    exact ⟨o, by rw [upd_ne n]; exact g1, g2.mono keepB⟩
  · exact rep_but (fun b o n e => by rw [upd_ne n]; exact e) hB'a (by intro _ z; cases z) (by intro _ z; cases z) rp' nd
/-- the keys of a locked dict -/
theorem wi_keys {td : TE} {PI' : List D → CH → Prop} (h : W B0 td E C fun d C1 => ∃ o ks, d = .dicL o ks ∧ PI' ((ks.map (·.1)).map D.int) C1) : WI B0 (iKeys td) E C PI' := fun B F σ H sb rl re R q =>
  h B F σ H sb rl re _ fun v d B1 C1 H1 e1 rl1 rp ⟨o, ks, hd, p⟩ => by
    subst hd
    cases rp with
    | @dicL a _ vs _ ha r =>
    refine ⟨a, o, rfl, .inl ⟨vs, rl1.ex _ _ ha, q _ _ B1 C1 H1 e1 rl1 ⟨?_, ?_, ?_⟩ p⟩⟩
    · intro i B' F' H' C' s rl' hi
      exact ⟨rl'.ex _ _ (s _ _ ha), by rw [repK_len r]; simpa using hi⟩
    · intro B' F' H' C' s rl'
      exact ⟨rl'.ex _ _ (s _ _ ha), by rw [repK_len r]; simp⟩
    · intro i x B' F' H' H2 C' s rl' hi y
      obtain ⟨e, k, z, hk, hx⟩ := y
      subst e hx
      have em := repK_keys r
      have g : (vs.map fun kv => kV kv.1)[i]? = some (kV k) := by rw [List.getElem?_map, hk]; rfl
      rw [em, List.getElem?_map] at g
      cases gi : (ks.map (·.1))[i]? with
      | none => rw [gi] at g; cases g
      | some n =>
        rw [gi] at g
        have ek : kV k = .int n := (Option.some.inj g).symm
        refine ⟨.int n, B', by rw [List.getElem?_map, gi]; rfl, Same.refl _, rl', ?_⟩
        rw [ek]
        exact .int
theorem w_dgetR {td ty : TE} (h : W B0 td E C fun x C1 => W B0 ty E C1 fun y C2 => ∃ ks k d, (x = .dicR ks ∨ ∃ o, x = .dicL o ks) ∧ y = .int k ∧ lookD ks k = some d ∧ P d C2) : W B0 (tDGet td ty) E C P := fun B F σ H sb rl re Q q =>
  h B F σ H sb rl re _ fun v1 d1 B1 C1 H1 e1 rl1 rp1 h1 => h1 B1 F σ H1 (sb.trans e1) rl1 (re.mono e1) _ fun v2 d2 B2 C2 H2 e2 rl2 rp2 ⟨ks, k, d, hd, hk, hl, p⟩ => by
    subst hk
    cases rp2
    have key : ∃ a vs, v1 = .ref a ∧ Rd H2 a (.dK vs) ∧ RepK B2 vs ks := by
      rcases hd with rfl | ⟨o, rfl⟩
      · cases rp1 with
        | dicR h r => exact ⟨_, _, rfl, h.elim (fun z => .inl (rl2.ex _ _ (e2 _ _ z))) fun ⟨o, z⟩ => .inr ⟨o, rl2.ex _ _ (e2 _ _ z)⟩, r.mono e2⟩
      · cases rp1 with
        | dicL h r => exact ⟨_, _, rfl, .inr ⟨_, rl2.ex _ _ (e2 _ _ h)⟩, r.mono e2⟩
    obtain ⟨a, vs, rfl, ha, r⟩ := key
    obtain ⟨v, g1, g2⟩ := (repK_look r k).2 d hl
    exact ⟨a, v, rfl, .inl ⟨vs, Sum.inl k, ha, rfl, g1.symm⟩, q v d B2 C2 H2 (e1.trans e2) rl2 g2 p⟩
/-- sorted(..) of ints -/
theorem call_sortedK {X : Cx} (K : PySem.W.Frag) (h : X.K = K := by rfl) : CallR X (.builtin "sorted") (rSortedI K) := by subst h; exact cr_sortedI
theorem wc_sorted {x : D} {ns : List Int} (h : LstD C x (ns.map D.int)) (k : ∀ ns' : List Int, ns'.Perm ns → ns'.Pairwise (· ≤ ·) → P (.lst (ns'.map D.int)) C) : WC B0 (rSortedI K) [x] C P := fun B F H vs _ rl r Q q => by
  cases r with
  | cons r1 r =>
    cases r
    obtain ⟨a, vs, rfl, hs, rr⟩ := lstD_rd rl r1 h
    have e := rr.ints
    subst e
    refine ⟨a, ns, rfl, SqL.of hs, fun ns' p hp hw hn => ?_⟩
    have e := same_upd (o := .lst (ns'.map V.int)) (rl.noB hn)
    exact q _ _ _ C _ e (rl.new hn) (.lst upd_same (Reps.ofInts ns')) (k ns' hp hw)
theorem sorted_same {a b : List Int} (hp : a.Perm b) (ha : a.Pairwise (· ≤ ·)) (hb : b.Pairwise (· ≤ ·)) : a = b := by
  first
    | exact hp.eq_of_pairwise (fun x y _ _ h1 h2 => Int.le_antisymm h1 h2) ha hb
    | exact List.Perm.eq_of_pairwise (fun x y _ _ h1 h2 => Int.le_antisymm h1 h2) ha hb hp
end

inductive NoDicC : Cell → Prop
  | lst {l : List D} : (∀ x ∈ l, NoDic x) → NoDicC (.lst l)
  | dic {l : List (Int × D)} : (∀ p ∈ l, NoDic p.2) → NoDicC (.dic l)
  | ins {c : Addr} {fs : List (Str × D)} : (∀ p ∈ fs, NoDic p.2) → NoDicC (.ins c fs)
theorem repF_but {B B' : Hp} {a : Addr} {u : HO} (e : ButA a B B') (ha : B a = some u) (h1 : ∀ vs, u ≠ .tup vs) (h2 : ∀ vs, u ≠ .lst vs) {vs : List (Str × V)} {ks : List (Str × D)} (r : RepF B vs ks) (n : ∀ p ∈ ks, NoDic p.2) : RepF B' vs ks := by
  induction r with
  | nil => exact .nil
  | @cons k v d vs ds h r ih => exact .cons (rep_but e ha h1 h2 h (n (k, d) (by simp))) (ih fun p hp => n p (by simp [hp]))
theorem repO_but {B B' : Hp} {a : Addr} {u : HO} (e : ButA a B B') (ha : B a = some u) (h1 : ∀ vs, u ≠ .tup vs) (h2 : ∀ vs, u ≠ .lst vs) {o : HO} {c : Cell} (r : RepO B o c) (n : NoDicC c) : RepO B' o c := by
  cases n with
  | lst n => cases r with | lst r => exact .lst (reps_but e ha h1 h2 r n)
  | dic n => cases r with | dic r => exact .dic (repK_but e ha h1 h2 r n)
  | ins n => cases r with | ins r => exact .ins (repF_but e ha h1 h2 r n)
section
variable {B0 : Gr} {C : CH} {K : PySem.W.Frag} {E : EnvD} {ks : List (Int × D)} {D1 : EndD}
theorem ws_lock {t : TS} {i : Nat} (E' : Obj → EnvD) (he : E[i]? = some (some (.dic ks))) (hk : ∀ p ∈ ks, NoDic p.2) (hl : ∀ od, (E' od).length = E.length)
    (hE : ∀ (od : Obj) (j : Nat) (d : D), (E' od)[j]? = some (some d) → (j = i ∧ d = .dicL od ks) ∨ ∃ d0, E[j]? = some (some d0) ∧ LockR d0 d) (hC : ∀ a c, C a = some c → NoDicC c)
    (h : ∀ B1 od, WS B1 t (E' od) C ⟨fun E1 C1 => (∀ a c, C1 a = some c → NoDicC c) ∧ ∃ E2 : EnvD, E2.length = E1.length ∧ (∀ (j : Nat) (d : D), E2[j]? = some (some d) → E1[j]? = some (some d) ∧ NoDic d) ∧ D1.nx E2 C1,
      fun d C1 => (∀ a c, C1 a = some c → NoDicC c) ∧ NoDic d ∧ D1.rt d C1, fun _ _ => False, fun _ _ => False⟩) : WS B0 (tLock t) E C D1 := fun B F σ H sb rl re Dn ok => by
  obtain ⟨v, hv, rv⟩ := re.get i _ he
  cases rv with
  | @dic a vs _ ha r =>
  refine ⟨a, .dK vs, rl.ex _ _ ha, trivial, fun od => ?_⟩
  have nt : ∀ ws : List V, (HO.dK vs) ≠ .tup ws := by intro _ z; cases z
  have nl : ∀ ws : List V, (HO.dK vs) ≠ .lst ws := by intro _ z; cases z
  have nt2 : ∀ ws : List V, (HO.frz od (.dK vs)) ≠ .tup ws := by intro _ z; cases z
  have nl2 : ∀ ws : List V, (HO.frz od (.dK vs)) ≠ .lst ws := by intro _ z; cases z
  have but : ButA a B (upd B a (.frz od (.dK vs))) := fun b o n e => by rw [upd_ne n]; exact e
  have nF : ∀ b o, F b = some o → b ≠ a := fun b o e z => by subst z; rw [rl.bf _ o e] at ha; cases ha
  have nC : ∀ b c, C b = some c → b ≠ a := fun b o e z => by subst z; rw [rl.bc _ o e] at ha; cases ha
  have rl2 : Rel (upd B a (.frz od (.dK vs))) C F (upd H a (.frz od (.dK vs))) := by
    refine ⟨fun b o e => ?_, fun b o e => ?_, fun b o e => ?_, rl.cf, fun b c e => ?_, fun b c e => ?_⟩
    · by_cases n : b = a
      · subst n; rw [upd_same] at e ⊢; exact e
      · rw [upd_ne n] at e ⊢; exact rl.ex b o e
    · rw [upd_ne (nF b o e)]; exact rl.fr b o e
    · rw [upd_ne (nF b o e)]; exact rl.bf b o e
    · rw [upd_ne (nC b c e)]; exact rl.bc b c e
    · obtain ⟨o, g1, g2⟩ := rl.own b c e
      exact ⟨o, by rw [upd_ne (nC b c e)]; exact g1, repO_but but ha nt nl g2 (hC b c e)⟩
  have re2 : RelE (upd B a (.frz od (.dK vs))) σ (E' od) := by
    refine ⟨by rw [re.len, hl], fun j d e => ?_⟩
    rcases hE od j d e with ⟨rfl, rfl⟩ | ⟨d0, e0, lr⟩
    · exact ⟨_, hv, .dicL upd_same (repK_but but ha nt nl r hk)⟩
    · obtain ⟨x, hx, rx⟩ := re.get j d0 e0
      refine ⟨x, hx, ?_⟩
      cases lr with
      | same n => exact rep_but but ha nt nl rx n
      | dic n =>
        cases rx with
        | @dic b ws _ hb rb =>
          refine .dicR ?_ (repK_but but ha nt nl rb n)
          by_cases z : b = a
          · subst z
            rw [ha] at hb
            cases hb
            exact .inr ⟨od, upd_same⟩
          · exact .inl (by rw [upd_ne z]; exact hb)
  have back : ∀ (B' : Hp) (C' : CH) (H' : Hp), Same (upd B a (.frz od (.dK vs))) B' → Rel B' C' F H' → (∀ a c, C' a = some c → NoDicC c) →
      H' a = some (.frz od (.dK vs)) ∧ Same B (upd B' a (.dK vs)) ∧ Rel (upd B' a (.dK vs)) C' F (upd H' a (.dK vs)) ∧ ∀ v d, Rep B' v d → NoDic d → Rep (upd B' a (.dK vs)) v d := by
    intro B' C' H' s rl' hn
    have hB'a : B' a = some (.frz od (.dK vs)) := s a _ upd_same
    have but2 : ButA a B' (upd B' a (.dK vs)) := fun b o n e => by rw [upd_ne n]; exact e
    have nF : ∀ b o, F b = some o → b ≠ a := fun b o e z => by subst z; rw [rl'.bf _ o e] at hB'a; cases hB'a
    have nC : ∀ b c, C' b = some c → b ≠ a := fun b o e z => by subst z; rw [rl'.bc _ o e] at hB'a; cases hB'a
    refine ⟨rl'.ex _ _ hB'a, fun b o e => ?_, ⟨fun b o e => ?_, fun b o e => ?_, fun b o e => ?_, rl'.cf, fun b c e => ?_, fun b c e => ?_⟩, fun v d r n => rep_but but2 hB'a nt2 nl2 r n⟩
    · by_cases n : b = a
      · subst n; rw [upd_same, ← ha]; exact e
      · rw [upd_ne n]; exact s b o (by rw [upd_ne n]; exact e)
    · by_cases n : b = a
      · subst n; rw [upd_same] at e ⊢; exact e
      · rw [upd_ne n] at e ⊢; exact rl'.ex b o e
    · rw [upd_ne (nF b o e)]; exact rl'.fr b o e
    · rw [upd_ne (nF b o e)]; exact rl'.bf b o e
    · rw [upd_ne (nC b c e)]; exact rl'.bc b c e
    · obtain ⟨o, g1, g2⟩ := rl'.own b c e
      exact ⟨o, by rw [upd_ne (nC b c e)]; exact g1, repO_but but2 hB'a nt2 nl2 g2 (hn b c e)⟩
  refine h ⟨upd B a (.frz od (.dK vs)), F⟩ od _ F σ _ (Sb.refl _ _) rl2 re2 _ ⟨fun σ' E1 B' C' H' s rl' re' ⟨hn, E2, l2, h2, k⟩ => ?_, fun v' d B' C' H' s rl' rp ⟨hn, nd, k⟩ => ?_, fun _ _ _ _ _ _ _ _ z => z.elim, fun _ _ _ _ _ _ _ _ z => z.elim⟩
  · obtain ⟨b1, b2, b3, b4⟩ := back B' C' H' s rl' hn
    refine ⟨b1, ok.nx σ' E2 _ C' _ b2 b3 ⟨by rw [re'.len, l2], fun j d e => ?_⟩ k⟩
    obtain ⟨g1, g2⟩ := h2 j d e
    obtain ⟨x, hx, rx⟩ := re'.get j d g1
    exact ⟨x, hx, b4 x d rx g2⟩
  · obtain ⟨b1, b2, b3, b4⟩ := back B' C' H' s rl' hn
    exact ⟨b1, ok.rt v' d _ C' _ b2 b3 (b4 v' d rp nd) k⟩
end
/-! ### a def that touches no cell of its caller's -/
section
variable {P : Program} {w : World} {K : PySem.W.Frag} {mg : Str → Option Value} {base : Heap}
abbrev SpP := List D → (D → Prop) → Prop
def pureD (g : SpP) : SpD := fun ds C P => g ds fun d => P d C
theorem has_ofP {x : Str} {st : Stmt} {N ps : List Str} {k : Nat} {g : SpP} (Df : DefAt K mg x st ps) (S : FnScope N ps (defScope st)) (len : ∀ ds P, g ds P → ds.length = ps.length)
    (hbody : ∀ (f : Addr) (cdv : Value) (A : Around) (outer : List PySem.Env) (s : Shared) (H : Hp) (E : XK), Room k (A.deeper (PyProof.Rows.envOfC x (defScope st) s.heap.objs.size f cdv)) →
      ∃ t, PSs (cxOf CX0 P w K mg base N x (defScope st) f cdv A outer s H E).nox (defBody st) t ∧ ∀ (B : Gr) ds PD, g ds PD → WS B t (startD N.length ds) (fun _ => none) { nx := fun _ _ => PD .non, rt := fun d _ => PD d }) :
    Has P w K mg base (k + 1) x ps (spD (pureD g)) := by
  refine has_of Df S (fun ds C P h => len ds _ h) fun f cdv A outer s H E hr => ?_
  obtain ⟨t, h1, h2⟩ := hbody f cdv A outer s H E hr
  refine ⟨t, h1, fun B0 ds C PD hg => ?_⟩
  intro B F σ H sb rl re Dn ok
  have rl2 : Rel B (fun _ => none) (fun b => if (C b).isSome then H b else F b) H := by
    refine ⟨rl.ex, fun b o e => ?_, fun b o e => ?_, fun _ _ _ => rfl, (fun b c e => by cases e), (fun b c e => by cases e)⟩
    · have e : (if (C b).isSome then H b else F b) = some o := e
      split at e
      · exact e
      · exact rl.fr b o e
    · have e : (if (C b).isSome then H b else F b) = some o := e
      split at e
      · rename_i hs
        cases ec : C b with
        | none => rw [ec] at hs; simp at hs
        | some c => exact rl.bc b c ec
      · exact rl.bf b o e
  have back : ∀ (B' : Hp) (C' : CH) (H' : Hp), Same B B' → Rel B' C' (fun b => if (C b).isSome then H b else F b) H' → Rel B' C F H' := by
    intro B' C' H' s rl'
    have keepF : ∀ b o, F b = some o → H' b = some o ∧ B' b = none := fun b o e => by
      have cn := rl.cf b o e
      have fe : (if (C b).isSome then H b else F b) = some o := by rw [cn]; simpa using e
      exact ⟨rl'.fr b o fe, rl'.bf b o fe⟩
    have keepC : ∀ b c, C b = some c → B' b = none ∧ ∃ o, H' b = some o ∧ RepO B o c := fun b c e => by
      obtain ⟨o, g1, g2⟩ := rl.own b c e
      have fe : (if (C b).isSome then H b else F b) = some o := by rw [e]; simpa using g1
      exact ⟨rl'.bf b o fe, o, rl'.fr b o fe, g2⟩
    refine ⟨rl'.ex, fun b o e => (keepF b o e).1, fun b o e => (keepF b o e).2, rl.cf, fun b c e => (keepC b c e).1, fun b c e => ?_⟩
    obtain ⟨_, o, g1, g2⟩ := keepC b c e
    exact ⟨o, g1, g2.mono s⟩
  refine h2 B0 ds _ hg B _ σ H (sb.grow fun b o e => show (if (C b).isSome then H b else F b) = some o by rw [rl.cf b o e]; simpa using e) rl2 re Dn ⟨?_, ?_, ?_, ?_⟩
  · exact fun σ' E' B' C' H' s rl' re' k => ok.nx σ' E' B' C H' s (back B' C' H' s rl') re' k
  · exact fun v d B' C' H' s rl' rp k => ok.rt v d B' C H' s (back B' C' H' s rl') rp k
  · exact fun _ _ _ _ _ _ _ _ z => z.elim
  · exact fun _ _ _ _ _ _ _ _ z => z.elim
end
end Dv

set_option maxRecDepth 100000
set_option maxHeartbeats 1000000
/-! Dicts of integers, displays of dicts, == of dicts and of lists of integers. -/
namespace Dv
open PySem L2
/-! ### dicts of integers -/
def encI (l : List (Int × Int)) : List (Int × D) := l.map fun p => (p.1, D.int p.2)
def getI (l : List (Int × Int)) (k : Int) : Option Int := (l.find? fun p => decide (p.1 = k)).map (·.2)
def putI (l : List (Int × Int)) (k v : Int) : List (Int × Int) :=
  if l.any fun p => decide (p.1 = k) then l.map fun p => if p.1 = k then (p.1, v) else p else l ++ [(k, v)]
def keysI (l : List (Int × Int)) : List Int := l.map (·.1)
theorem encI_nil : encI [] = [] := rfl
theorem encI_keys (l : List (Int × Int)) : (encI l).map (·.1) = keysI l := by simp [encI, keysI, List.map_map, Function.comp_def]
theorem encI_len (l : List (Int × Int)) : (encI l).length = l.length := by simp [encI]
theorem lookD_encI (l : List (Int × Int)) (k : Int) : lookD (encI l) k = (getI l k).map D.int := by
  unfold lookD encI getI
  rw [List.find?_map, Option.map_map, Option.map_map]
  rfl
theorem putD_encI (l : List (Int × Int)) (k v : Int) : putD (encI l) k (.int v) = encI (putI l k v) := by
  unfold putD encI putI
  rw [List.any_map]
  have e : ((fun p : Int × D => decide (p.1 = k)) ∘ fun p : Int × Int => (p.1, D.int p.2)) = fun p : Int × Int => decide (p.1 = k) := rfl
  rw [e]
  split
  · rw [List.map_map, List.map_map]
    apply List.map_congr_left
    intro p _
    simp only [Function.comp_def]
    split <;> rfl
  · rw [List.map_append]; rfl
theorem getD_encI (l : List (Int × Int)) (k z : Int) : getD' (encI l) k (.int z) = .int ((getI l k).getD z) := by
  unfold getD'
  rw [lookD_encI]
  cases getI l k <;> rfl
theorem getI_nil (k : Int) : getI [] k = none := rfl
theorem getI_cons (p : Int × Int) (l : List (Int × Int)) (k : Int) : getI (p :: l) k = if p.1 = k then some p.2 else getI l k := by
  unfold getI
  rw [List.find?_cons]
  by_cases h : p.1 = k <;> simp [h]
theorem getI_none {l : List (Int × Int)} {k : Int} : getI l k = none ↔ k ∉ keysI l := by
  induction l with
  | nil => simp [getI, keysI]
  | cons p l ih =>
    rw [getI_cons]
    by_cases h : p.1 = k
    · simp [h, keysI]
    · rw [if_neg h, ih]
      simp [keysI, Ne.symm h]
theorem any_keys (l : List (Int × Int)) (k : Int) : (l.any fun p => decide (p.1 = k)) = true ↔ k ∈ keysI l := by
  simp [keysI]
theorem getI_append (l m : List (Int × Int)) (k : Int) : getI (l ++ m) k = (getI l k).or (getI m k) := by
  induction l with
  | nil => rfl
  | cons p l ih =>
    rw [List.cons_append, getI_cons, getI_cons, ih]
    split <;> rfl
theorem getI_put (l : List (Int × Int)) (k v j : Int) : getI (putI l k v) j = if j = k then some v else getI l j := by
  unfold putI
  split
  · rename_i h
    rw [any_keys] at h
    induction l with
    | nil => simp [keysI] at h
    | cons p l ih =>
      rw [List.map_cons, getI_cons, getI_cons]
      by_cases e : p.1 = k
      · rw [if_pos e]
        by_cases ej : j = k
        · subst ej; simp [e]
        · have : ¬ p.1 = j := fun z => ej (z ▸ e)
          rw [if_neg ej, if_neg this, if_neg this]
          by_cases hk : k ∈ keysI l
          · rw [ih hk, if_neg ej]
          · have : (l.map fun p => if p.1 = k then (p.1, v) else p) = l := by
              conv => rhs; rw [← List.map_id l]
              apply List.map_congr_left
              intro q hq
              have : ¬ q.1 = k := fun z => hk (by rw [← z]; exact List.mem_map.mpr ⟨q, hq, rfl⟩)
              simp [this]
            rw [this]
      · rw [if_neg e]
        have hk : k ∈ keysI l := by
          simp only [keysI, List.map_cons, List.mem_cons] at h
          rcases h with h | h
          · exact absurd h.symm e
          · exact h
        rw [ih hk]
        by_cases ej : j = k
        · subst ej; rw [if_pos rfl, if_neg e, if_pos rfl]
        · rw [if_neg ej, if_neg ej]
  · rename_i h
    rw [any_keys] at h
    rw [getI_append]
    by_cases ej : j = k
    · subst ej
      rw [getI_none.mpr h, if_pos rfl, getI_cons]
      simp
    · rw [if_neg ej, getI_cons, if_neg (Ne.symm ej), getI_nil]
      cases getI l j <;> rfl
theorem keys_put (l : List (Int × Int)) (k v : Int) : keysI (putI l k v) = if k ∈ keysI l then keysI l else keysI l ++ [k] := by
  unfold putI
  by_cases h : k ∈ keysI l
  · rw [if_pos ((any_keys l k).mpr h), if_pos h]
    unfold keysI
    rw [List.map_map]
    apply List.map_congr_left
    intro p _
    simp only [Function.comp_def]
    split <;> rfl
  · rw [if_neg (fun z => h ((any_keys l k).mp z)), if_neg h]
    simp [keysI]
theorem put_new {l : List (Int × Int)} {k v : Int} (h : k ∉ keysI l) : putI l k v = l ++ [(k, v)] := by
  unfold putI
  rw [if_neg (fun z => h ((any_keys l k).mp z))]
theorem nodup_put {l : List (Int × Int)} {k v : Int} (h : (keysI l).Nodup) : (keysI (putI l k v)).Nodup := by
  rw [keys_put]
  split
  · exact h
  · rename_i n
    rw [List.nodup_append]
    refine ⟨h, by simp, fun a ha b hb => ?_⟩
    simp at hb
    subst hb
    exact fun z => n (z ▸ ha)
theorem len_put (l : List (Int × Int)) (k v : Int) : (putI l k v).length ≤ l.length + 1 := by
  unfold putI
  split
  · simp
  · simp
theorem repK_encI {B : Hp} : ∀ {vs : List (Key × V)} {l : List (Int × Int)}, RepK B vs (encI l) → vs = l.map fun p => ((Sum.inl p.1 : Key), V.int p.2)
  | _, [], .nil => rfl
  | _, p :: l, .cons h r => by
    cases h
    rw [repK_encI r]
    rfl
theorem valV_encI : ∀ {l : List (Int × Int)} {p : Int × Int}, (keysI l).Nodup → p ∈ l → valV (l.map fun p => ((Sum.inl p.1 : Key), V.int p.2)) (Sum.inl p.1) = some (.int p.2)
  | q :: l, p, hn, hp => by
    simp only [keysI, List.map_cons, List.nodup_cons] at hn
    rcases List.mem_cons.mp hp with rfl | hp
    · exact valV_pos rfl
    · rw [List.map_cons, valV_neg (fun z => hn.1 (by rw [show q.1 = p.1 from Sum.inl.inj z]; exact List.mem_map.mpr ⟨p, hp, rfl⟩))]
      exact valV_encI hn.2 hp
section
variable {B0 : Gr} {C : CH} {P : D → CH → Prop} {K : PySem.W.Frag} {E : EnvD} {x y : D} {l : List (Int × Int)} {ns : List Int}
theorem wr_neDicI (hx : DicD C x (encI l)) (hy : DicD C y (encI l)) (hn : (keysI l).Nodup) (k : P (.bl false) C) : WR B0 (rNeU K) x y C P := fun B F H vx vy _ rl h1 h2 Q q => by
  obtain ⟨a, vs, rfl, ha, r1⟩ := dicD_rd rl h1 hx
  obtain ⟨b, ws, rfl, hb, r2⟩ := dicD_rd rl h2 hy
  have e1 := repK_encI r1
  have e2 := repK_encI r2
  subst e1 e2
  refine .inr (.inr ⟨a, b, _, _, rfl, rfl, ha, hb, rfl, fun p hp => ?_, q _ _ B C H (Same.refl B) rl .bl k⟩)
  obtain ⟨z, hz, rfl⟩ := List.mem_map.mp hp
  exact ⟨valV_encI hn hz, rfl⟩
theorem wr_eqDicI (hx : DicD C x (encI l)) (hy : DicD C y (encI l)) (hn : (keysI l).Nodup) (k : P (.bl true) C) : WR B0 (rEqU K) x y C P := fun B F H vx vy _ rl h1 h2 Q q => by
  obtain ⟨a, vs, rfl, ha, r1⟩ := dicD_rd rl h1 hx
  obtain ⟨b, ws, rfl, hb, r2⟩ := dicD_rd rl h2 hy
  have e1 := repK_encI r1
  have e2 := repK_encI r2
  subst e1 e2
  refine .inr (.inr ⟨a, b, _, _, rfl, rfl, ha, hb, rfl, fun p hp => ?_, q _ _ B C H (Same.refl B) rl .bl k⟩)
  obtain ⟨z, hz, rfl⟩ := List.mem_map.mp hp
  exact ⟨valV_encI hn hz, rfl⟩
theorem toPys_ints : ∀ ns : List Int, toPys (ns.map D.int) = some (ns.map PyData.int)
  | [] => rfl
  | n :: r => by
    have h := toPys_ints r
    show (toPy (.int n)).bind (fun a => (toPys (r.map D.int)).map fun b => a :: b) = _
    rw [h]
    rfl
theorem toPy_ints (ns : List Int) : toPy (.lst (ns.map D.int)) = some (.list (ns.map PyData.int)) := by
  show (toPys (ns.map D.int)).map PyData.list = _
  rw [toPys_ints]
  rfl
theorem eqvAll_ints : ∀ ns ms : List Int, PyData.eqvAll (ns.map PyData.int) (ms.map PyData.int) = decide (ns = ms)
  | [], [] => by simp [PyData.eqvAll]
  | [], _ :: _ => by simp [PyData.eqvAll]
  | _ :: _, [] => by simp [PyData.eqvAll]
  | a :: r, b :: t => by
    simp only [List.map_cons, PyData.eqvAll, PyData.eqv, eqvAll_ints r t]
    by_cases h : a = b <;> by_cases h' : r = t <;> simp [h, h']
theorem wr_neInts {ms : List Int} (k : P (.bl (!decide (ns = ms))) C) : WR B0 (rNeU K) (.lst (ns.map D.int)) (.lst (ms.map D.int)) C P :=
  wr_neP (toPy_ints ns) (toPy_ints ms) (PySem.W.ke_shaped_ints ns) (PySem.W.ke_shaped_ints ms) (by rw [PyData.eqv, eqvAll_ints]; exact k)
theorem wr_eqInts {ms : List Int} (k : P (.bl (decide (ns = ms))) C) : WR B0 (rEqU K) (.lst (ns.map D.int)) (.lst (ms.map D.int)) C P :=
  wr_eqP (toPy_ints ns) (toPy_ints ms) (PySem.W.ke_shaped_ints ns) (PySem.W.ke_shaped_ints ms) (by rw [PyData.eqv, eqvAll_ints]; exact k)
theorem wr_ip {i j : Int} {g : Int → Int → Int} (k : P (.int (g i j)) C) : WR B0 (fun a b H Q => ipI g a b H Q) (.int i) (.int j) C P := fun B F H vx vy _ rl hx hy Q q => by
  cases hx
  cases hy
  exact ⟨i, j, rfl, rfl, q _ _ B C H (Same.refl B) rl .int k⟩
/-! ### a cell that is to change no more -/
theorem w_frzD {te : TE} (h : W B0 te E C fun d C1 => ∃ a ks, d = .ref a ∧ C1 a = some (.dic ks) ∧ P (.dic ks) (delC C1 a)) : W B0 te E C P := fun B F σ H sb rl re Q q =>
  h B F σ H sb rl re _ fun v d B1 C1 H1 e1 rl1 rp ⟨a, ks, hd, hc, p⟩ => by
    subst hd
    cases rp
    obtain ⟨o, h1, h2⟩ := rl1.own _ _ hc
    cases h2 with
    | @dic vs _ r =>
    have s := same_upd (o := .dK vs) (rl1.bc a _ hc)
    exact q _ _ _ _ H1 (e1.trans s) (rl1.freeze hc h1) (.dic upd_same (r.mono s)) p
theorem w_frzL {te : TE} (h : W B0 te E C fun d C1 => ∃ a ks, d = .ref a ∧ C1 a = some (.lst ks) ∧ P (.lst ks) (delC C1 a)) : W B0 te E C P := fun B F σ H sb rl re Q q =>
  h B F σ H sb rl re _ fun v d B1 C1 H1 e1 rl1 rp ⟨a, ks, hd, hc, p⟩ => by
    subst hd
    cases rp
    obtain ⟨o, h1, h2⟩ := rl1.own _ _ hc
    cases h2 with
    | @lst vs _ r =>
    have s := same_upd (o := .lst vs) (rl1.bc a _ hc)
    exact q _ _ _ _ H1 (e1.trans s) (rl1.freeze hc h1) (.lst upd_same (r.mono s)) p
/-! ### displays -/
def WPs (B0 : Gr) (t : List (TE × TE)) (E : EnvD) (C : CH) (P : List (Int × D) → CH → Prop) : Prop :=
  ∀ (B F : Hp) (σ : St) (H : Hp), Sb B0 B F → Rel B C F H → RelE B σ E → ∀ Q : List (V × V) → Hp → Prop,
    (∀ kvs ds B' C' H', Same B B' → Rel B' C' F H' → RepK B' kvs ds → P ds C' → Q (kvs.map fun kv => (kV kv.1, kv.2)) H') → tPairs t σ H Q
theorem wps_nil {PL : List (Int × D) → CH → Prop} (k : PL [] C) : WPs B0 [] E C PL := fun B F σ H _ rl _ Q q => q [] [] B C H (Same.refl B) rl .nil k
theorem wps_cons {PL : List (Int × D) → CH → Prop} {tk tv : TE} {r : List (TE × TE)} (h : W B0 tk E C fun x C1 => ∃ k, x = .int k ∧ W B0 tv E C1 fun y C2 => WPs B0 r E C2 fun ps C3 => PL ((k, y) :: ps) C3) : WPs B0 ((tk, tv) :: r) E C PL := fun B F σ H sb rl re Q q =>
  h B F σ H sb rl re _ fun v1 d1 B1 C1 H1 e1 rl1 rp1 ⟨k, hd, h1⟩ => by
    subst hd
    cases rp1
    exact h1 B1 F σ H1 (sb.trans e1) rl1 (re.mono e1) _ fun v2 d2 B2 C2 H2 e2 rl2 rp2 h2 =>
      h2 B2 F σ H2 ((sb.trans e1).trans e2) rl2 ((re.mono e1).mono e2) _ fun kvs ds B3 C3 H3 e3 rl3 rp3 p => q ((Sum.inl k, v2) :: kvs) _ B3 C3 H3 ((e1.trans e2).trans e3) rl3 (.cons (rp2.mono e3) rp3) p
def mergeD (l acc : List (Int × D)) : List (Int × D) := l.foldl (fun acc p => putD acc p.1 p.2) acc
theorem repK_merge {B : Hp} : ∀ {kvs : List (Key × V)} {ds : List (Int × D)} {acc : List (Key × V)} {ac : List (Int × D)}, RepK B kvs ds → RepK B acc ac → RepK B (mergeK acc kvs) (mergeD ds ac)
  | _, _, _, _, .nil, r => r
  | (Sum.inl k, v) :: kvs, (_, d) :: ds, acc, ac, .cons h r, r0 => by
    show RepK B (mergeK (putK acc (Sum.inl k) v) kvs) (mergeD ds (putD ac k d))
    exact repK_merge r (repK_put r0 k h)
theorem w_dispC {trs : List (TE × TE)} (h : ∀ a, C a = none → WPs B0 trs E (updC C a (.dic [])) fun ps C1 => C1 a = some (.dic []) ∧ ps.length ≤ 15 ∧ P (.ref a) (updC C1 a (.dic (mergeD ps [])))) : W B0 (tDisp trs) E C P := fun B F σ H sb rl re Q q a ha =>
  h a (rl.noC ha) B F σ _ sb (rl.newC ha (.dic .nil)) re _ fun kvs ds B1 C1 H1 e1 rl1 rp ⟨hc, hl, p⟩ => by
    obtain ⟨o, h1, h2⟩ := rl1.own _ _ hc
    cases h2 with
    | @dic vs _ r =>
    cases r
    refine ⟨h1, kvs, rfl, by rw [repK_len rp]; exact hl, ?_⟩
    exact q _ _ B1 _ _ e1 (rl1.write hc (.dic (repK_merge rp .nil))) .ref p
/-- what holds behind a statement, named -/
theorem ws_cut {t : TS} {D1 : EndD} (I : EnvD → CH → Prop) (h : WS B0 t E C { D1 with nx := I }) (k : ∀ E1 C1, I E1 C1 → D1.nx E1 C1) : WS B0 t E C D1 := fun B F σ H sb rl re Dn ok =>
  h B F σ H sb rl re Dn ⟨fun σ' E1 B' C' H' s rl' re' p => ok.nx σ' E1 B' C' H' s rl' re' (k E1 C' p), ok.rt, ok.bk, ok.ct⟩
end
end Dv

set_option maxRecDepth 100000
/-! Lengths, ranges, places, fitted offsets. -/
namespace Dv
open PySem L2
def lenB (b : Box) : Int := (b.parts.map Box.hgt).sum
def rangeB (b : Box) : Int := max 0 (lenB b - b.hgt)
def placesL : Int → List Box → List Int
  | _, [] => []
  | z, p :: r => z :: placesL (z + p.hgt) r
def scrsB (b : Box) : List Box := b.all.filter Box.isS
theorem scrsB_nil : ([] : List Box).filter Box.isS = [] := rfl
def fitL (o : List (Int × Int)) (l : List Box) (acc : List (Int × Int)) : List (Int × Int) :=
  l.foldl (fun acc s => putI acc s.num (min (max ((getI o s.num).getD 0) 0) (rangeB s))) acc
def fitB (o : List (Int × Int)) (b : Box) : List (Int × Int) := fitL o (scrsB b) []
theorem placesL_len : ∀ (z : Int) (l : List Box), (placesL z l).length = l.length
  | _, [] => rfl
  | z, p :: r => by rw [placesL, List.length_cons, placesL_len, List.length_cons]
theorem placesL_snoc : ∀ (z : Int) (l : List Box) (p : Box), placesL z (l ++ [p]) = placesL z l ++ [z + (l.map Box.hgt).sum]
  | z, [], p => by simp [placesL]
  | z, q :: r, p => by
    rw [List.cons_append, placesL, placesL_snoc (z + q.hgt) r p, placesL, List.cons_append, List.map_cons, List.sum_cons, Int.add_assoc]
theorem placesL_take : ∀ (l : List Box) (z : Int), placesL z l = (List.range l.length).map fun k => z + ((l.take k).map Box.hgt).sum
  | [], _ => rfl
  | p :: r, z => by
    rw [placesL, placesL_take r, List.length_cons, List.range_succ_eq_map, List.map_cons, List.map_map]
    congr 1
    · simp
    · apply List.map_congr_left
      intro k _
      simp [Function.comp_def, Int.add_assoc]
theorem fitL_app (o : List (Int × Int)) (l m : List Box) (acc : List (Int × Int)) : fitL o (l ++ m) acc = fitL o m (fitL o l acc) := by
  unfold fitL
  rw [List.foldl_append]
theorem fitL_len (o : List (Int × Int)) : ∀ (l : List Box) (acc : List (Int × Int)), (fitL o l acc).length ≤ acc.length + l.length
  | [], acc => Nat.le_refl _
  | p :: r, acc => by
    have h := fitL_len o r (putI acc p.num (min (max ((getI o p.num).getD 0) 0) (rangeB p)))
    have h2 := len_put acc p.num (min (max ((getI o p.num).getD 0) 0) (rangeB p))
    have e : fitL o (p :: r) acc = fitL o r (putI acc p.num (min (max ((getI o p.num).getD 0) 0) (rangeB p))) := rfl
    rw [e, List.length_cons]
    omega
/-- the map of heights, of numbers, as the program reads boxes -/
def hgtD : D → D := fun x => match x with | .tup (_ :: _ :: h :: _) => h | _ => .non
def numD : D → D := fun x => match x with | .tup (_ :: n :: _) => n | _ => .non
theorem hgtD_enc (l : List Box) : (encBs l).map hgtD = (l.map Box.hgt).map D.int := by
  rw [encBs_map, List.map_map, List.map_map]
  apply List.map_congr_left
  intro z _
  cases z <;> rfl
theorem numD_enc (l : List Box) : (encBs l).map numD = (l.map Box.num).map D.int := by
  rw [encBs_map, List.map_map, List.map_map]
  apply List.map_congr_left
  intro z _
  cases z <;> rfl
theorem hgtD_b (b : Box) : D.int b.hgt = hgtD (encB b) := by cases b <;> rfl
theorem numD_b (b : Box) : D.int b.num = numD (encB b) := by cases b <;> rfl
theorem encBs_mem {l : List Box} {x : D} (h : x ∈ encBs l) : ∃ b ∈ l, x = encB b := by
  rw [encBs_map] at h
  obtain ⟨z, hz, rfl⟩ := List.mem_map.mp h
  exact ⟨z, hz, rfl⟩
def isSD : D → Bool := fun x => match x with | .tup (.str k :: _) => decide (k = "scroller") | _ => false
theorem encBs_filter (l : List Box) : (encBs l).filter isSD = encBs (l.filter Box.isS) := by
  rw [encBs_map, encBs_map, List.filter_map]
  congr 1
  apply List.filter_congr
  intro b _
  cases b <;> rfl
theorem rangeB_nonneg (b : Box) : 0 ≤ rangeB b := by unfold rangeB; omega
theorem fitL_congr {o o' : List (Int × Int)} : ∀ {l : List Box} {acc : List (Int × Int)}, (∀ s ∈ l, getI o s.num = getI o' s.num) → fitL o l acc = fitL o' l acc
  | [], _, _ => rfl
  | p :: r, acc, h => by
    have e : ∀ o : List (Int × Int), fitL o (p :: r) acc = fitL o r (putI acc p.num (min (max ((getI o p.num).getD 0) 0) (rangeB p))) := fun _ => rfl
    rw [e, e, h p (by simp)]
    exact fitL_congr fun s hs => h s (by simp [hs])
theorem fitL_map (o : List (Int × Int)) : ∀ (l : List Box) (acc : List (Int × Int)), (l.map Box.num).Nodup → (∀ s ∈ l, s.num ∉ keysI acc) →
    fitL o l acc = acc ++ l.map fun s => (s.num, min (max ((getI o s.num).getD 0) 0) (rangeB s))
  | [], acc, _, _ => by simp [fitL]
  | p :: r, acc, hn, ha => by
    have e : fitL o (p :: r) acc = fitL o r (putI acc p.num (min (max ((getI o p.num).getD 0) 0) (rangeB p))) := rfl
    rw [List.map_cons, List.nodup_cons] at hn
    rw [e, put_new (ha p (by simp)), fitL_map o r _ hn.2, List.map_cons, List.append_assoc]
    · rfl
    · intro s hs
      simp only [keysI, List.map_append, List.map_cons, List.map_nil, List.mem_append, List.mem_singleton, not_or]
      refine ⟨ha s (by simp [hs]), fun z => hn.1 ?_⟩
      rw [← z]
      exact List.mem_map.mpr ⟨s, hs, rfl⟩
theorem nodup_scrs {b : Box} (h : (b.all.map Box.num).Nodup) : ((scrsB b).map Box.num).Nodup := h.sublist (List.Sublist.map _ List.filter_sublist)
theorem fitB_map {b : Box} (o : List (Int × Int)) (h : (b.all.map Box.num).Nodup) : fitB o b = (scrsB b).map fun s => (s.num, min (max ((getI o s.num).getD 0) 0) (rangeB s)) := by
  unfold fitB
  rw [fitL_map o _ _ (nodup_scrs h) (by intro s _ z; cases z), List.nil_append]
theorem fitB_keys {b : Box} (o : List (Int × Int)) (h : (b.all.map Box.num).Nodup) : keysI (fitB o b) = (scrsB b).map Box.num := by
  rw [fitB_map o h]
  simp [keysI, List.map_map, Function.comp_def]
theorem fitB_nil {b : Box} (o : List (Int × Int)) (h : (b.all.map Box.num).Nodup) : fitB [] b = (fitB o b).map fun p => (p.1, 0) := by
  rw [fitB_map o h, fitB_map [] h, List.map_map]
  apply List.map_congr_left
  intro s _
  have := rangeB_nonneg s
  simp only [Function.comp_def, getI_nil]
  congr 1
  simp
  omega
theorem cutD_take {ds : List D} {k : Nat} : cutD ds none (some (k : Int)) = ds.take k := by
  unfold cutD
  rw [HT.sIx_none, HT.sIx_nat, Nat.sub_zero, List.drop_zero]
  rw [List.take_eq_take_iff]
  omega
theorem cutBs {l : List Box} {i : Nat} : cutD (encBs l) none (some (0 + (i : Int))) = encBs (l.take i) := by
  rw [Int.zero_add, cutD_take, encBs_map, encBs_map, List.map_take]
def sumsF (ps : List Box) : D → D := fun x => match x with | .int k => .int (((ps.take k.toNat).map Box.hgt).sum) | _ => .non
theorem sumsF_map (ps : List Box) : (rngD 0 ps.length).map (sumsF ps) = (placesL 0 ps).map D.int := by
  rw [placesL_take, rngD, List.map_map, List.map_map]
  apply List.map_congr_left
  intro i _
  simp [Function.comp_def, sumsF]
/-- contracts of the length and the range of a scroller -/
def fLen : SpD := fun ds C P => ∃ b : Box, b.isS = true ∧ b.parts.length ≤ 100000 ∧ ds = [encB b] ∧ P (.int (lenB b)) C
def fRange : SpD := fun ds C P => ∃ b : Box, b.isS = true ∧ b.parts.length ≤ 100000 ∧ ds = [encB b] ∧ P (.int (rangeB b)) C
def fDepth (n : Nat) : SpD := fun ds C P => ∃ b : Box, b.lev ≤ n ∧ b.all.length ≤ 100000 ∧ ds = [encB b] ∧ P (.int (b.deep : Nat)) C
def fIsDoc (n : Nat) : SpD := fun ds C P => ∃ b : Box, b.lev ≤ n ∧ b.all.length ≤ 4000 ∧ ds = [encB b] ∧ P (.bl (isDoc b)) C
theorem atI_last {α : Type} {l : List α} {z : α} : atI (l ++ [z]) (-1) = some z := by
  unfold atI ixN
  simp
  have h : (-1 + ((l.length : Int) + 1)).toNat = l.length := by omega
  rw [if_pos (by omega), h]
  simp
end Dv

set_option maxRecDepth 100000
set_option maxHeartbeats 1000000
/-! Dict comprehensions. -/
namespace Dv
open PySem L2
abbrev BlkE (X : Cx) (scope : Scope) (e : Expr) (t : TE) : Prop := ∀ (s : Shared) (H : Hp) (C : Addr) (cl : List (Str × Addr)) (fp : List Addr), PE (X.blk s H scope (compEnvC scope cl C X.env) fp) e t
/-- name = {..} on one line -/
theorem ps_setDc {X : Cx} {i : Nat} {y : Str} {py pos spos : Pos} {kx vx tg iter : Expr} {ifs : List Expr} {scope : Scope} {own : List (Str × Nat)} {wi : TI} {g : TG} {tt : TT} {tk tv : TE} (hc : X.calm = true) (hN : X.N.Nodup)
    (hy : X.N[i]? = some y) (hyl : X.env.scope.names.lookup y = some .local) (hsw : swapsWith (.DictComp kx vx [⟨tg, iter, ifs, 0⟩] scope pos) (some (.Name y py)) spos.line X.env = pure true) (hi : PI X tg iter wi)
    (ok : BlkOk X.N X.env.scope scope own) (hg : ∀ (s : Shared) (H : Hp) (C : Addr) (cl : List (Str × Addr)) (fp : List Addr), PG (X.blk s H scope (compEnvC scope cl C X.env) fp) tg g)
    (ht : ∀ (s : Shared) (H : Hp) (C : Addr) (cl : List (Str × Addr)) (fp : List Addr), PTs (X.blk s H scope (compEnvC scope cl C X.env) fp) ifs tt) (hk : BlkE X scope kx tk) (he : BlkE X scope vx tv)
    (hs : ∀ x, foldedSetIterable iter X.env x = pure x := by intro _; rfl) : PS X (.Assign [.Name y py] (.DictComp kx vx [⟨tg, iter, ifs, 0⟩] scope pos) spos) (tAsg (tDc wi g tt tk tv (own.map (·.2))) (gName i)) := by
  constructor
  intro pins s σ H D I h
  rw [exec_Assign_Name_used _ _ _ _ hsw]
  refine wpAny_bind (wpAny_standAt (wpAny_bind ?_))
  have h1 : tDc wi g tt tk tv (own.map (·.2)) σ H (fun x H1 => gName i x σ H1 D.nx) := h
  show wpAny _ X.A (do let _ ← comprehension (.DictComp kx vx [⟨tg, iter, ifs, 0⟩] scope pos) scope X.env (firstIterPos [⟨tg, iter, ifs, 0⟩] pos) newDict false (eval iter X.env) (some (assign (.Name y py) X.env))) _ _ s
  refine wpAny_bind (thn (dc_core (Qf := fun _ s' => SP X pins D .next s') hc hN I hi ok hg ht hk he hs h1 fun L C s' m H' I' q hn f => ?_) fun _ s' hq => wpAny_pure (wpAny_pure hq))
  obtain ⟨f0, f1, f2, f3, f4, f5⟩ := f
  show wpAny _ _ (assign (.Name y py) X.env (.ref L)) _ _ _
  refine wpAny_assign_Name (store_ok2 (v := V.ref L) I' hN hy (.inl hyl) rfl (fun s2 I2 ⟨a, sb, ha⟩ => ?_) (.inr hyl))
  have haC : C ≠ a := ha.elim (fun z => by rw [z]; exact f1) fun z e => f4 y a z e.symm
  exact ⟨m, hn.sameBut sb haC, fun h3 sb3 => ⟨_, H', I2.turned (t' := s2.toks) (fun b o hb e => (sb3.2 b hb).trans e) f0 f1 f3 f4 f5, q⟩⟩
section
variable {B0 : Gr} {C : CH} {P : D → CH → Prop} {K : PySem.W.Frag} {E : EnvD} {wi : TI} {g : TG} {tt : TT} {tk tv : TE} {vs : List Nat}
theorem putD_len (l : List (Int × D)) (k : Int) (d : D) : (putD l k d).length ≤ l.length + 1 := by
  unfold putD
  split <;> simp
theorem w_dcC (L : List D → List (Int × D) → CH → Prop) (st : Sets g vs) (h : WI B0 wi E C fun ds C1 => ds.length ≤ 1000000 ∧ L ds [] C1)
    (hn : ∀ acc C1, L [] acc C1 → ∀ a, C1 a = none → P (.ref a) (updC C1 a (.dic acc)))
    (hs : ∀ x xs acc C1, L (x :: xs) acc C1 → WG B0 g x (wipeE E vs) C1 fun E2 C2 => WT B0 tt E2 C2 fun b C3 =>
      (b = true → W B0 tk E2 C3 fun y C4 => ∃ n, y = .int n ∧ W B0 tv E2 C4 fun z C5 => L xs (putD acc n z) C5) ∧ (b = false → L xs acc C3)) : W B0 (tDc wi g tt tk tv vs) E C P := fun B F σ H sb rl re Q q =>
  h B F σ H sb rl re _ fun J ds B1 C1 H1 e1 rl1 jd ⟨hlen, l0⟩ Dl hD => by
    have hF := rl1.noF hD
    refine ⟨fun i m H' => m = ds.length - i ∧ i ≤ ds.length ∧ ∃ B' C' vacc acc, Same B1 B' ∧ Rel B' C' (upd F Dl (.dK vacc)) H' ∧ RepK B' vacc acc ∧ acc.length ≤ i ∧ L (ds.drop i) acc C',
      ⟨ds.length, by simp, Nat.zero_le _, B1, C1, [], [], Same.refl _, rl1.newF hD, .nil, Nat.le_refl _, by simpa using l0⟩, ?_⟩
    rintro i m H' ⟨rfl, hi, B', C', vacc, acc, s', rl', ra, hal, l⟩
    by_cases hlt : i < ds.length
    · refine .inr ⟨jd.go i B' _ H' C' s' rl' hlt, fun H2 => ∃ B' C' vacc acc, Same B1 B' ∧ Rel B' C' (upd F Dl (.dK vacc)) H2 ∧ RepK B' vacc acc ∧ acc.length ≤ i + 1 ∧ L (ds.drop (i + 1)) acc C',
        fun H2 n => ⟨ds.length - (i + 1), by omega, rfl, hlt, n⟩, fun x H2 y => ?_⟩
      obtain ⟨d, B2, hd, s2, rl2, rp2⟩ := jd.yld i x B' _ H' H2 C' s' rl' hlt y
      have e : ds.drop i = d :: ds.drop (i + 1) := by
        rw [List.drop_eq_getElem_cons hlt]
        rw [List.getElem?_eq_getElem hlt] at hd
        rw [Option.some.inj hd]
      rw [e] at l
      have sb2 : Same B B2 := (e1.trans s').trans s2
      replace sb : Sb B0 B (upd F Dl (.dK vacc)) := sb.grow (same_upd hF)
      have z := hs d _ acc C' l B2 _ (wipe σ vs) H2 x (sb.trans sb2) rl2 (relE_wipe (re.mono sb2) vs) rp2 (fun σ3 H3 => tt σ3 H3 fun b H3 =>
        if b = true then tk σ3 H3 fun y H4 => tv σ3 H4 fun z H5 => ∃ kvs k, y = kV k ∧ H5 Dl = some (.dK kvs) ∧ kvs.length < sizeLine ∧ ∃ B' C' vacc' acc', Same B1 B' ∧ Rel B' C' (upd F Dl (.dK vacc')) (upd H5 Dl (.dK (putK kvs k z))) ∧ RepK B' vacc' acc' ∧ acc'.length ≤ i + 1 ∧ L (ds.drop (i + 1)) acc' C'
        else ∃ B' C' vacc acc, Same B1 B' ∧ Rel B' C' (upd F Dl (.dK vacc)) H3 ∧ RepK B' vacc acc ∧ acc.length ≤ i + 1 ∧ L (ds.drop (i + 1)) acc C') fun σ3 E3 B3 C3 H3 s3 rl3 re3 w => ?_
      · have z2 := st _ _ _ _ z
        rw [wipe_wipe] at z2
        refine cast ?_ z2
        congr 1
        funext σ2 H2
        exact propext ⟨fun ⟨a, b⟩ => ⟨b, a⟩, fun ⟨a, b⟩ => ⟨b, a⟩⟩
      · refine w B3 _ σ3 H3 (sb.trans (sb2.trans s3)) rl3 re3 _ fun b B4 C4 H4 s4 rl4 p => ?_
        cases b with
        | false =>
          refine ⟨B4, C4, vacc, acc, ((s'.trans s2).trans s3).trans s4, rl4, ra.mono ((s2.trans s3).trans s4), by omega, p.2 rfl⟩
        | true =>
          refine p.1 rfl B4 _ σ3 H4 (sb.trans ((sb2.trans s3).trans s4)) rl4 (re3.mono s4) _ fun v y B5 C5 H5 s5 rl5 rp5 ⟨n, hy, w5⟩ => ?_
          subst hy
          cases rp5
          refine w5 B5 _ σ3 H5 (sb.trans (((sb2.trans s3).trans s4).trans s5)) rl5 ((re3.mono s4).mono s5) _ fun v2 y2 B6 C6 H6 s6 rl6 rp6 l6 => ?_
          have hl6 : H6 Dl = some (.dK vacc) := rl6.fr _ _ upd_same
          have rlen := repK_len ra
          have pl := putD_len acc n y2
          refine ⟨vacc, Sum.inl n, rfl, hl6, Nat.lt_of_le_of_lt (by omega : vacc.length ≤ 1000000) (by decide), B6, C6, putK vacc (Sum.inl n) v2, putD acc n y2, ((((s'.trans s2).trans s3).trans s4).trans s5).trans s6, rl6.writeF,
            repK_put (ra.mono ((((s2.trans s3).trans s4).trans s5).trans s6)) n rp6, by omega, l6⟩
    · have e : i = ds.length := by omega
      subst e
      rw [List.drop_length] at l
      have k := hn _ _ l
      refine .inl ⟨jd.stop B' _ H' C' s' rl', ?_⟩
      exact q _ _ B' _ _ (e1.trans s') (rl'.cellF hF (.dic ra)) .ref (k Dl (rl'.cf Dl _ upd_same))
end
theorem sw_trueD {kx vx : Expr} {gs : List Comprehension} {scope : Scope} {pos py : Pos} {y : Str} {l : Nat} {env : Env} (h1 : env.scope.kind = .function) (h2 : env.scope.names.lookup y = some .local) (h3 : (py.line == pos.line) = true)
    (h4 : (scope.names.any fun (n, k) => n == y && (k == .local || k == .cell)) = false) : swapsWith (.DictComp kx vx gs scope pos) (some (.Name y py)) l env = pure true := by
  have e1 : env.kindOf y = some .local := h2
  have e2 : env.blockKind = .function := by
    unfold Env.blockKind
    rw [h1]
    rfl
  unfold swapsWith
  simp only [e2, e1, h4, Expr.pos, h3]
  rfl
end Dv

set_option maxRecDepth 100000
/-! Scrolling: a scroll at once is a scroll row by row. -/
namespace Dv
open PySem L2
def gI (O : List (Int × Int)) (n : Int) : Int := (getI O n).getD 0
def clampI (n most : Int) : Int := min (max n 0) most
theorem gI_put (O : List (Int × Int)) (n v m : Int) : gI (putI O n v) m = if m = n then v else gI O m := by
  unfold gI
  rw [getI_put]
  split <;> rfl
theorem getI_mem : ∀ {l : List (Int × Int)} {p : Int × Int}, (keysI l).Nodup → p ∈ l → getI l p.1 = some p.2
  | q :: l, p, hn, hp => by
    simp only [keysI, List.map_cons, List.nodup_cons] at hn
    rw [getI_cons]
    rcases List.mem_cons.mp hp with rfl | hp
    · rw [if_pos rfl]
    · rw [if_neg (fun z => hn.1 (by rw [z]; exact List.mem_map.mpr ⟨p, hp, rfl⟩))]
      exact getI_mem hn.2 hp
theorem getI_key {l : List (Int × Int)} {k : Int} (h : k ∈ keysI l) : getI l k = some (gI l k) := by
  unfold gI
  cases e : getI l k with
  | none => exact absurd h (getI_none.mp e)
  | some v => rfl
theorem put_self {O : List (Int × Int)} {n : Int} (hn : (keysI O).Nodup) (h : n ∈ keysI O) : putI O n (gI O n) = O := by
  unfold putI
  rw [if_pos ((any_keys O n).mpr h)]
  conv => rhs; rw [← List.map_id O]
  apply List.map_congr_left
  intro p hp
  by_cases e : p.1 = n
  · have g := getI_mem hn hp
    rw [if_pos e]
    unfold gI
    rw [← e, g]
    rfl
  · rw [if_neg e]; rfl
theorem put_put {O : List (Int × Int)} {n x y : Int} (h : n ∈ keysI O) : putI (putI O n x) n y = putI O n y := by
  have h2 : n ∈ keysI (putI O n x) := by rw [keys_put, if_pos h]; exact h
  have e1 : ∀ (l : List (Int × Int)) (v : Int), n ∈ keysI l → putI l n v = l.map fun p => if p.1 = n then (p.1, v) else p := fun l v hl => by
    unfold putI
    rw [if_pos ((any_keys l n).mpr hl)]
  rw [e1 _ y h2, e1 O x h, e1 O y h, List.map_map]
  apply List.map_congr_left
  intro p _
  by_cases e : p.1 = n <;> simp [e]
theorem keys_put_mem {O : List (Int × Int)} {n v : Int} (h : n ∈ keysI O) : keysI (putI O n v) = keysI O := by rw [keys_put, if_pos h]
/-- at once -/
def scrollL (rg : Int → Int) : List Int → List (Int × Int) → Int → List (Int × Int) × List (Int × Int)
  | [], O, _ => (O, [])
  | n :: r, O, am =>
    if clampI (gI O n + am) (rg n) = gI O n then scrollL rg r O am
    else ((scrollL rg r (putI O n (clampI (gI O n + am) (rg n))) (am - (clampI (gI O n + am) (rg n) - gI O n))).1, (n, clampI (gI O n + am) (rg n) - gI O n) :: (scrollL rg r (putI O n (clampI (gI O n + am) (rg n))) (am - (clampI (gI O n + am) (rg n) - gI O n))).2)
/-- row by row -/
def rowStep (rg : Int → Int) (s : Int) : List Int → List (Int × Int) → List (Int × Int)
  | [], O => O
  | n :: r, O => if 0 ≤ gI O n + s ∧ gI O n + s ≤ rg n then putI O n (gI O n + s) else rowStep rg s r O
def rowsN (rg : Int → Int) (s : Int) (path : List Int) : List (Int × Int) → Nat → List (Int × Int)
  | O, 0 => O
  | O, A + 1 => rowsN rg s path (rowStep rg s path O) A
variable {rg : Int → Int} {s : Int}
theorem rowsN_add {path : List Int} : ∀ (A B : Nat) (O : List (Int × Int)), rowsN rg s path O (A + B) = rowsN rg s path (rowsN rg s path O A) B
  | 0, B, O => by rw [Nat.zero_add]; rfl
  | A + 1, B, O => by rw [Nat.succ_add]; exact rowsN_add A B _
theorem rowStep_other : ∀ {path : List Int} {O : List (Int × Int)} {m : Int}, m ∉ path → gI (rowStep rg s path O) m = gI O m
  | [], _, _, _ => rfl
  | n :: r, O, m, h => by
    rw [rowStep]
    split
    · rw [gI_put, if_neg (fun e => h (by simp [e]))]
    · exact rowStep_other fun z => h (by simp [z])
theorem rowsN_nil : ∀ (A : Nat) (O : List (Int × Int)), rowsN rg s [] O A = O
  | 0, _ => rfl
  | A + 1, O => rowsN_nil A O
theorem rows_stuck {n : Int} {r : List Int} (hr : n ∉ r) : ∀ (A : Nat) (O : List (Int × Int)), ¬ (0 ≤ gI O n + s ∧ gI O n + s ≤ rg n) → rowsN rg s (n :: r) O A = rowsN rg s r O A
  | 0, _, _ => rfl
  | A + 1, O, h => by
    rw [rowsN, rowsN, rowStep, if_neg h]
    exact rows_stuck hr A _ (by rw [rowStep_other hr]; exact h)
theorem rows_fill {n : Int} {r : List Int} (hs : s = 1 ∨ s = -1) : ∀ (k : Nat) (O : List (Int × Int)), (keysI O).Nodup → n ∈ keysI O → 0 ≤ gI O n → gI O n ≤ rg n → 0 ≤ gI O n + s * k → gI O n + s * k ≤ rg n →
    rowsN rg s (n :: r) O k = putI O n (gI O n + s * k)
  | 0, O, hn, hk, _, _, _, _ => by
    rw [rowsN]
    have e : gI O n + s * ((0 : Nat) : Int) = gI O n := by simp
    rw [e, put_self hn hk]
  | k + 1, O, hn, hk, h0, h1, h2, h3 => by
    have hb : 0 ≤ gI O n + s ∧ gI O n + s ≤ rg n := by
      rcases hs with rfl | rfl
      · omega
      · omega
    rw [rowsN, rowStep, if_pos hb]
    have g : gI (putI O n (gI O n + s)) n = gI O n + s := by rw [gI_put, if_pos rfl]
    have e : gI O n + s + s * (k : Int) = gI O n + s * ((k + 1 : Nat) : Int) := by
      rcases hs with rfl | rfl
      · omega
      · omega
    rw [rows_fill hs k _ (by rw [keys_put_mem hk]; exact hn) (by rw [keys_put_mem hk]; exact hk) (by rw [g]; exact hb.1) (by rw [g]; exact hb.2) (by rw [g, e]; exact h2) (by rw [g, e]; exact h3), g, e, put_put hk]
theorem scroll_rows (hs : s = 1 ∨ s = -1) : ∀ (path : List Int) (O : List (Int × Int)) (A : Nat), path.Nodup → (keysI O).Nodup → (∀ n ∈ path, n ∈ keysI O ∧ 0 ≤ gI O n ∧ gI O n ≤ rg n) →
    (scrollL rg path O (s * A)).1 = rowsN rg s path O A
  | [], O, A, _, _, _ => by rw [rowsN_nil]; rfl
  | n :: r, O, A, hp, hn, h => by
    obtain ⟨hk, h0, h1⟩ := h n (by simp)
    rw [List.nodup_cons] at hp
    have key : ∃ k : Nat, k ≤ A ∧ clampI (gI O n + s * A) (rg n) = gI O n + s * k ∧ 0 ≤ gI O n + s * k ∧ gI O n + s * k ≤ rg n ∧ (k < A → ¬ (0 ≤ gI O n + s * k + s ∧ gI O n + s * k + s ≤ rg n)) := by
      unfold clampI
      rcases hs with rfl | rfl
      · refine ⟨(min (A : Int) (rg n - gI O n)).toNat, by omega, by omega, by omega, by omega, by omega⟩
      · refine ⟨(min (A : Int) (gI O n)).toNat, by omega, by omega, by omega, by omega, by omega⟩
    obtain ⟨k, kA, ek, k0, k1, kst⟩ := key
    have ea : rowsN rg s (n :: r) O A = rowsN rg s r (putI O n (gI O n + s * k)) (A - k) := by
      have e : A = k + (A - k) := by omega
      conv => lhs; rw [e]
      rw [rowsN_add, rows_fill hs k O hn hk h0 h1 k0 k1]
      by_cases z : k < A
      · refine rows_stuck hp.1 _ _ ?_
        rw [gI_put, if_pos rfl]
        exact kst z
      · have e2 : A - k = 0 := by omega
        rw [e2]
        rfl
    rw [ea, scrollL, ek]
    by_cases z : gI O n + s * k = gI O n
    · rw [if_pos z]
      have k0' : k = 0 := by rcases hs with rfl | rfl <;> omega
      subst k0'
      rw [z, put_self hn hk]
      exact scroll_rows hs r O A hp.2 hn fun m hm => h m (by simp [hm])
    · rw [if_neg z]
      have e3 : s * (A : Int) - (gI O n + s * k - gI O n) = s * ((A - k : Nat) : Int) := by
        rcases hs with rfl | rfl <;> omega
      show (scrollL rg r (putI O n (gI O n + s * k)) (s * A - (gI O n + s * k - gI O n))).1 = _
      rw [e3]
      refine scroll_rows hs r _ (A - k) hp.2 (by rw [keys_put_mem hk]; exact hn) fun m hm => ?_
      have nm : ¬ m = n := fun e => hp.1 (e ▸ hm)
      rw [keys_put_mem hk, gI_put, if_neg nm]
      exact h m (by simp [hm])
theorem scroll_other : ∀ {path : List Int} {O : List (Int × Int)} {am m : Int}, m ∉ path → gI (scrollL rg path O am).1 m = gI O m
  | [], _, _, _, _ => rfl
  | n :: r, O, am, m, h => by
    have h2 : m ∉ r := fun z => h (by simp [z])
    rw [scrollL]
    split
    · exact scroll_other h2
    · show gI (scrollL rg r _ _).1 m = _
      rw [scroll_other h2, gI_put, if_neg (fun e => h (by simp [e]))]
theorem scroll_moves : ∀ (path : List Int) (O : List (Int × Int)) (am : Int), path.Nodup →
    (scrollL rg path O am).2 = (path.filter fun n => decide (gI (scrollL rg path O am).1 n ≠ gI O n)).map fun n => (n, gI (scrollL rg path O am).1 n - gI O n)
  | [], _, _, _ => rfl
  | n :: r, O, am, hp => by
    rw [List.nodup_cons] at hp
    rw [scrollL]
    by_cases z : clampI (gI O n + am) (rg n) = gI O n
    · rw [if_pos z, List.filter_cons, if_neg (by simp [scroll_other hp.1])]
      exact scroll_moves r O am hp.2
    · rw [if_neg z]
      have ih := scroll_moves r (putI O n (clampI (gI O n + am) (rg n))) (am - (clampI (gI O n + am) (rg n) - gI O n)) hp.2
      generalize hF : scrollL rg r (putI O n (clampI (gI O n + am) (rg n))) (am - (clampI (gI O n + am) (rg n) - gI O n)) = F at ih ⊢
      have gn : gI F.1 n = clampI (gI O n + am) (rg n) := by rw [← hF, scroll_other hp.1, gI_put, if_pos rfl]
      have gm : ∀ m ∈ r, gI (putI O n (clampI (gI O n + am) (rg n))) m = gI O m := fun m hm => by
        have nm : ¬ m = n := fun e => hp.1 (e ▸ hm)
        rw [gI_put, if_neg nm]
      show (n, _) :: F.2 = _
      rw [List.filter_cons, if_pos (by simp [gn, z]), List.map_cons, ih, gn]
      congr 1
      have ef : (r.filter fun m => decide (gI F.1 m ≠ gI (putI O n (clampI (gI O n + am) (rg n))) m)) = r.filter fun m => decide (gI F.1 m ≠ gI O m) := List.filter_congr fun m hm => by rw [gm m hm]
      rw [ef]
      apply List.map_congr_left
      intro m hm
      rw [gm m (List.mem_filter.mp hm).1]
theorem scroll_keys : ∀ {path : List Int} {O : List (Int × Int)} {am : Int}, (∀ n ∈ path, n ∈ keysI O) → keysI (scrollL rg path O am).1 = keysI O
  | [], _, _, _ => rfl
  | n :: r, O, am, h => by
    rw [scrollL]
    split
    · exact scroll_keys fun m hm => h m (by simp [hm])
    · show keysI (scrollL rg r _ _).1 = _
      rw [scroll_keys fun m hm => by rw [keys_put_mem (h n (by simp))]; exact h m (by simp [hm]), keys_put_mem (h n (by simp))]
/-! ### ranges by number -/
def rangesB (b : Box) : List (Int × Int) := (scrsB b).map fun s => (s.num, rangeB s)
def pairD (p : Int × Int) : D := .tup [.int p.1, .int p.2]
theorem rangesB_keys (b : Box) : keysI (rangesB b) = (scrsB b).map Box.num := by simp [rangesB, keysI, List.map_map, Function.comp_def]
theorem findB_of : ∀ {l : List Box} {p : Box}, (l.map Box.num).Nodup → p ∈ l → findB l p.num = some p
  | q :: l, p, hn, hp => by
    rw [List.map_cons, List.nodup_cons] at hn
    rw [findB]
    rcases List.mem_cons.mp hp with rfl | hp
    · rw [if_pos rfl]
    · rw [if_neg (fun z => hn.1 (by rw [z]; exact List.mem_map.mpr ⟨p, hp, rfl⟩))]
      exact findB_of hn.2 hp
theorem find_range {b : Box} {n : Int} (hn : (b.all.map Box.num).Nodup) (h : n ∈ keysI (rangesB b)) : ∃ s, s ∈ b.all ∧ s.isS = true ∧ s.num = n ∧ findB b.all n = some s ∧ gI (rangesB b) n = rangeB s := by
  rw [rangesB_keys] at h
  obtain ⟨s, hs, rfl⟩ := List.mem_map.mp h
  obtain ⟨h1, h2⟩ := List.mem_filter.mp hs
  refine ⟨s, h1, h2, rfl, findB_of hn h1, ?_⟩
  have g := getI_mem (l := rangesB b) (p := (s.num, rangeB s)) (by rw [rangesB_keys]; exact nodup_scrs hn) (List.mem_map.mpr ⟨s, hs, rfl⟩)
  unfold gI
  rw [g]
  rfl
theorem look_key {l : List (Int × Int)} {k : Int} (h : k ∈ keysI l) : lookD (encI l) k = some (.int (gI l k)) := by
  rw [lookD_encI, getI_key h]
  rfl
theorem look_some (l : List (Int × Int)) (k : Int) : (lookD (encI l) k).isSome = decide (k ∈ keysI l) := by
  rw [lookD_encI, Option.isSome_map]
  cases e : getI l k with
  | none => simp [getI_none.mp e]
  | some v =>
    by_cases h : k ∈ keysI l
    · simp [h]
    · rw [getI_none.mpr h] at e; cases e
def movedL (R : List (Int × Int)) : List (Int × Int) → List (Int × Int) → List (Int × Int)
  | [], O => O
  | p :: r, O => movedL R r (if p.1 ∈ keysI R then putI O p.1 (clampI (gI O p.1 + p.2) (gI R p.1)) else O)
theorem moved_keys {R : List (Int × Int)} : ∀ (m O : List (Int × Int)), (∀ n ∈ keysI R, n ∈ keysI O) → keysI (movedL R m O) = keysI O
  | [], O, _ => rfl
  | p :: r, O, h => by
    rw [movedL]
    by_cases z : p.1 ∈ keysI R
    · rw [if_pos z, moved_keys r _ (by rw [keys_put_mem (h _ z)]; exact h), keys_put_mem (h _ z)]
    · rw [if_neg z]
      exact moved_keys r O h
theorem parts_mem : ∀ (n : Nat) {b s p : Box}, b.lev ≤ n → s ∈ b.all → p ∈ s.parts → p ∈ b.all
  | 0, b, _, _, h, _, _ => by cases b <;> simp [Box.lev] at h
  | n + 1, b, s, p, h, hs, hp => by
    rw [all_eq] at hs ⊢
    rw [alls_flat] at hs ⊢
    rcases List.mem_cons.mp hs with rfl | hs
    · exact List.mem_cons_of_mem _ (List.mem_flatMap.mpr ⟨p, hp, by rw [all_eq]; simp⟩)
    · obtain ⟨q, hq, hs⟩ := List.mem_flatMap.mp hs
      exact List.mem_cons_of_mem _ (List.mem_flatMap.mpr ⟨q, hq, parts_mem n (lev_parts h hq) hs hp⟩)
theorem sum_le : ∀ {l : List Int} {m : Int}, (∀ x ∈ l, 0 ≤ x ∧ x ≤ m) → 0 ≤ l.sum ∧ l.sum ≤ m * l.length
  | [], m, _ => by simp
  | x :: l, m, h => by
    obtain ⟨h1, h2⟩ := h x (by simp)
    obtain ⟨h3, h4⟩ := sum_le (l := l) (m := m) fun y hy => h y (by simp [hy])
    rw [List.sum_cons, List.length_cons]
    have e : m * ((l.length + 1 : Nat) : Int) = m * l.length + m := by
      rw [Int.natCast_add, Int.mul_add]
      simp
    rw [e]
    omega
theorem range_le {b s : Box} (ok : DocOk b) (hs : s ∈ b.all) : 0 ≤ lenB s ∧ lenB s ≤ 580 ∧ rangeB s ≤ 580 := by
  have hl := parts_len hs
  have := ok.len
  obtain ⟨h1, h2⟩ := sum_le (l := s.parts.map Box.hgt) (m := 20) fun x hx => by
    obtain ⟨p, hp, rfl⟩ := List.mem_map.mp hx
    exact ok.hg p (parts_mem 4 ok.lev hs hp)
  have := ok.hg s hs
  rw [List.length_map] at h2
  unfold rangeB lenB
  omega
theorem rangesB_at {b s : Box} (hn : (b.all.map Box.num).Nodup) (hs : s ∈ scrsB b) : gI (rangesB b) s.num = rangeB s := by
  have g := getI_mem (l := rangesB b) (p := (s.num, rangeB s)) (by rw [rangesB_keys]; exact nodup_scrs hn) (List.mem_map.mpr ⟨s, hs, rfl⟩)
  unfold gI
  rw [g]
  rfl
theorem filter_snocS (pre : List Box) (p : Box) (h : p.isS = true) : (pre ++ [p]).filter Box.isS = pre.filter Box.isS ++ [p] := by
  rw [List.filter_append, List.filter_cons, if_pos h]
  rfl
theorem filter_snocB (pre : List Box) (p : Box) (h : p.isS = false) : (pre ++ [p]).filter Box.isS = pre.filter Box.isS := by
  rw [List.filter_append, List.filter_cons, if_neg (by simp [h])]
  simp
theorem rowStep_keys : ∀ {path : List Int} {O : List (Int × Int)} {rg : Int → Int} {s : Int}, (∀ n ∈ path, n ∈ keysI O) → keysI (rowStep rg s path O) = keysI O
  | [], _, _, _, _ => rfl
  | n :: r, O, rg, s, h => by
    rw [rowStep]
    split
    · exact keys_put_mem (h n (by simp))
    · exact rowStep_keys fun m hm => h m (by simp [hm])
theorem rows_one {rg : Int → Int} {s : Int} {n : Int} {O : List (Int × Int)} {A : Nat} (hs : s = 1 ∨ s = -1) (hn : (keysI O).Nodup) (h : n ∈ keysI O) (h0 : 0 ≤ gI O n) (h1 : gI O n ≤ rg n) :
    rowsN rg s [n] O A = putI O n (clampI (gI O n + s * A) (rg n)) := by
  rw [← scroll_rows hs [n] O A (by simp) hn (fun m hm => by simp at hm; subst hm; exact ⟨h, h0, h1⟩), scrollL]
  split
  · rename_i e
    rw [e, put_self hn h]
    rfl
  · rfl
theorem cutD_drop {ds : List D} {k : Nat} : cutD ds (some (k : Int)) none = ds.drop k := by
  unfold cutD
  rw [HT.sIx_none, HT.sIx_nat, List.take_of_length_le (by rw [List.length_drop]; omega)]
  by_cases h : k ≤ ds.length
  · rw [Nat.min_eq_left h]
  · rw [Nat.min_eq_right (by omega), List.drop_length, List.drop_eq_nil_of_le (by omega)]
theorem put_in (p : List Int) (m : Nat) (n : Int) : (p.take m ++ [n] ++ p.drop m).Perm (n :: p) := by
  rw [List.append_assoc]
  have h := List.perm_middle (a := n) (l₁ := p.take m) (l₂ := p.drop m)
  rw [List.take_append_drop] at h
  exact h
end Dv

set_option maxRecDepth 100000
set_option maxHeartbeats 1000000
/-! zip of a list and a tuple. -/
namespace Zm
open PySem
open PySem.Sem (wp)
/-- the zip's own record c, its two iterators u (of the list l), v (of the tuple t), its pairs p, o; all apart -/
structure Mix (h : Heap) (c p o u v l t : Addr) (f : Value) (m n : Nat) (xs ys : Array Value) (a b : Value) : Prop where
  rec_ : IsZip h c p o f
  its : IsPair h p (.ref u) (.ref v)
  out : IsPair h o a b
  hu : h.IsListIter u l m
  hv : h.IsTupleIter v t n
  hl : h.IsList l xs
  ht : h.IsTuple t ys
section
variable {prog : Program} {w : World} {A : Around} {E : Value → Shared → Prop} {s : Shared} {c p o u v l t : Addr} {m n : Nat} {xs ys : Array Value} {x y a b : Value}
theorem step_rec {f : Value} {h h' : Heap} (M : Mix h c p o u v l t f m n xs ys a b) (D : ZipApart c p o u v l t) (r : IsZip h' c p o .ellipsis) (k : Heap.SameBut c h h') : Mix h' c p o u v l t .ellipsis m n xs ys a b where
  rec_ := r
  its := k.extBut _ _ D.TIz M.its
  out := k.extBut _ _ D.TOz M.out
  hu := M.hu.at fun q e => k.extBut _ q D.i1z e
  hv := M.hv.extBut k.extBut D.i2z
  hl := M.hl.extBut k.extBut D.l1z
  ht := M.ht.extBut k.extBut D.l2z
theorem step_u {f : Value} {h h' : Heap} (M : Mix h c p o u v l t f m n xs ys a b) (D : ZipApart c p o u v l t) (r : h'.IsListIter u l (m + 1)) (k : Heap.SameBut u h h') : Mix h' c p o u v l t f (m + 1) n xs ys a b where
  rec_ := k.extBut _ _ D.i1z.symm M.rec_
  its := k.extBut _ _ D.TIi1 M.its
  out := k.extBut _ _ D.TOi1 M.out
  hu := r
  hv := M.hv.extBut k.extBut D.i12.symm
  hl := M.hl.extBut k.extBut D.l1i1
  ht := M.ht.extBut k.extBut D.l2i1
theorem step_v {f : Value} {h h' : Heap} (M : Mix h c p o u v l t f m n xs ys a b) (D : ZipApart c p o u v l t) (r : h'.IsTupleIter v t (n + 1)) (k : Heap.SameBut v h h') : Mix h' c p o u v l t f m (n + 1) xs ys a b where
  rec_ := k.extBut _ _ D.i2z.symm M.rec_
  its := k.extBut _ _ D.TIi2 M.its
  out := k.extBut _ _ D.TOi2 M.out
  hu := M.hu.extBut k.extBut D.i12
  hv := r
  hl := M.hl.extBut k.extBut D.l1i2
  ht := M.ht.extBut k.extBut D.l2i2
theorem step_o {f a' b' : Value} {h h' : Heap} (M : Mix h c p o u v l t f m n xs ys a b) (D : ZipApart c p o u v l t) (r : IsPair h' o a' b') (k : Heap.SameBut o h h') : Mix h' c p o u v l t f m n xs ys a' b' where
  rec_ := k.extBut _ _ D.TOz.symm M.rec_
  its := k.extBut _ _ D.TITO M.its
  out := r
  hu := M.hu.extBut k.extBut D.TOi1.symm
  hv := M.hv.extBut k.extBut D.TOi2.symm
  hl := M.hl.extBut k.extBut D.l1TO
  ht := M.ht.extBut k.extBut D.l2TO
/-- what a turn may change -/
def Kept (c o u v : Addr) (h h' : Heap) : Prop := ∀ d q, d ≠ c → d ≠ o → d ≠ u → d ≠ v → h.get? d = some q → h'.get? d = some q
theorem mix_item {Q : Value → Shared → Prop} (D : ZipApart c p o u v l t) (M : Mix s.heap c p o u v l t .none m n xs ys a b) (gx : xs[m]? = some x) (gy : ys[n]? = some y)
    (k : ∀ h', Mix h' c p o u v l t (rawInt s.heap.objs.size) (m + 1) (n + 1) xs ys x y → IsPair h' s.heap.objs.size x y → h'.objs.size = s.heap.objs.size + 1 → Kept c o u v s.heap h' → Q (.ref s.heap.objs.size) { s with heap := h' }) :
    wpAny (model prog w) A (Builtin.«zip.__next__» ⟨[.ref c], []⟩) (fun fin s' => ∃ r, fin = .done (.ret r) ∧ Q r s') E s := by
  show wpAny _ _ (field (.ref c) 2 >>= _) _ _ _
  refine wpAny_bind (wpAny_field M.rec_ rfl (x := .bool false) rfl ?_)
  show wpAny _ _ (field (.ref c) 3 >>= _) _ _ _
  refine wpAny_bind (wpAny_field M.rec_ rfl (x := .ref p) rfl (wpAny_bind (wpAny_seqItems M.its rfl ?_)))
  show wpAny _ _ (Builtin.SmallTypes.ownedTupleIsFree (.ref c) >>= _) _ _ _
  refine wpAny_bind ?_
  (unfold Builtin.SmallTypes.ownedTupleIsFree; refine wpAny_bind (wpAny_field M.rec_ rfl (x := .none) rfl (wpAny_pure ?_)); simp only [if_true])
  refine wpAny_bind (wpAny_rule (wpAny_bind (wpAny_field M.rec_ rfl (x := .ref o) rfl (wpAny_bind (wpAny_setField_rec M.rec_ (by simp) fun ha ra ka => ?_)))))
  have Ma := step_rec M D (show IsZip ha c p o .ellipsis from ra) ka
  refine wpAny_bind ?_
  (simp only [List.zipIdx_cons, List.zipIdx_nil, List.forIn_cons, List.forIn_nil]; refine wpAny_bind (wpAny_bind (wpAny_onRaise ?_)))
  show wpAny _ _ (Builtin.SmallTypes.nextOf (.ref u) >>= _) _ _ _
  refine wpAny_bind (wpAny_nextOf_list_item Ma.hu Ma.hl gx fun hb rb kb => wpAny_pure ?_)
  have Mb := step_u Ma D rb kb
  refine wpAny_bind (wpAny_seqItems Mb.out rfl (wpAny_bind (wpAny_updateSeq_pair Mb.out fun hd rd kd => ?_)))
  have Md := step_o Mb D (show IsPair hd o x b from rd) kd
  refine wpAny_bind (wpAny_letGo (wpAny_pure (wpAny_bind (wpAny_bind (wpAny_onRaise ?_)))))
  show wpAny _ _ (Builtin.SmallTypes.nextOf (.ref v) >>= _) _ _ _
  refine wpAny_bind (RZ.nextOf_tuple_item Md.hv Md.ht gy fun he re ke => wpAny_pure ?_)
  have Me := step_v Md D re ke
  refine wpAny_bind (wpAny_seqItems Me.out rfl (wpAny_bind (wpAny_updateSeq_pair Me.out fun hf rf kf => ?_)))
  have Mf := step_o Me D (show IsPair hf o x y from rf) kf
  refine wpAny_bind (wpAny_letGo (wpAny_pure (wpAny_pure (wpAny_bind (wpAny_seqItems Mf.out rfl (wpAny_bind (wpAny_newTuple ?_)))))))
  have sz : hf.objs.size = s.heap.objs.size := by rw [kf.1, ke.1, kd.1, kb.1, ka.1]
  have kept : Kept c o u v s.heap hf := fun d q d1 d2 d3 d4 e => kf.extBut _ _ d2 (ke.extBut _ _ d4 (kd.extBut _ _ d2 (kb.extBut _ _ d3 (ka.extBut _ _ d1 e))))
  have clt : c < hf.objs.size := Heap.lt_size Mf.rec_
  show wpAny _ _ (Builtin.SmallTypes.ownedTupleHandOut (.ref c) (.ref hf.objs.size) >>= _) _ _ _
  refine wpAny_bind ?_
  unfold Builtin.SmallTypes.ownedTupleHandOut
  have rg : IsZip (hf.push { cls := .type "tuple", data := .seq #[x, y] }) c p o .ellipsis := Heap.get?_push_of_some _ Mf.rec_
  refine wpAny_bind (wpAny_setField_rec rg (by simp) fun hg2 rg2 kg2 => ?_)
  replace rg2 : IsZip hg2 c p o (rawInt hf.objs.size) := rg2
  refine wpAny_setField_rec rg2 (by simp) fun hi ri ki => ?_
  replace ri : IsZip hi c p o (rawInt hf.objs.size) := ri
  have up : ∀ d q, d ≠ c → hf.get? d = some q → hi.get? d = some q := fun d q d1 e => ki.extBut _ _ d1 (kg2.extBut _ _ d1 (Heap.get?_push_of_some _ e))
  have new : IsPair hi hf.objs.size x y := ki.extBut _ _ (Nat.ne_of_gt clt) (kg2.extBut _ _ (Nat.ne_of_gt clt) (Heap.get?_push_size _ rfl))
  have siz : hi.objs.size = hf.objs.size + 1 := by rw [ki.1, kg2.1, Heap.size_push]
  rw [sz] at ri new siz
  refine wpAny_pure ⟨_, rfl, ?_⟩
  show Q (.ref hf.objs.size) _
  rw [sz]
  refine k hi ⟨ri, up _ _ D.TIz Mf.its, up _ _ D.TOz Mf.out, Mf.hu.at fun q e => up _ q D.i1z e, Mf.hv.at fun q e => up _ q D.i2z e, Mf.hl.at fun q e => up _ q D.l1z e, ?_⟩ new siz fun d q d1 d2 d3 d4 e => up d q d1 (kept d q d1 d2 d3 d4 e)
  exact Mf.ht.at fun q e => up _ q D.l2z e
theorem mix_end {Q : Fin → Shared → Prop} (hh : A.handled = none) (D : ZipApart c p o u v l t) (M : Mix s.heap c p o u v l t .none m n xs ys a b) (gend : xs[m]? = none ∨ ys[n]? = none)
    (k : ∀ h' e, Kept c o u v s.heap h' → (∃ q, h'.get? e = some q ∧ q.cls = .type "StopIteration") → E (.ref e) { s with heap := h' }) : wpAny (model prog w) A (Builtin.«zip.__next__» ⟨[.ref c], []⟩) Q E s := by
  show wpAny _ _ (field (.ref c) 2 >>= _) _ _ _
  refine wpAny_bind (wpAny_field M.rec_ rfl (x := .bool false) rfl ?_)
  show wpAny _ _ (field (.ref c) 3 >>= _) _ _ _
  refine wpAny_bind (wpAny_field M.rec_ rfl (x := .ref p) rfl (wpAny_bind (wpAny_seqItems M.its rfl ?_)))
  show wpAny _ _ (Builtin.SmallTypes.ownedTupleIsFree (.ref c) >>= _) _ _ _
  refine wpAny_bind ?_
  (unfold Builtin.SmallTypes.ownedTupleIsFree; refine wpAny_bind (wpAny_field M.rec_ rfl (x := .none) rfl (wpAny_pure ?_)); simp only [if_true])
  refine wpAny_bind (wpAny_rule (wpAny_bind (wpAny_field M.rec_ rfl (x := .ref o) rfl (wpAny_bind (wpAny_setField_rec M.rec_ (by simp) fun ha ra ka => ?_)))))
  have Ma := step_rec M D (show IsZip ha c p o .ellipsis from ra) ka
  refine wpAny_bind ?_
  (simp only [List.zipIdx_cons, List.zipIdx_nil, List.forIn_cons, List.forIn_nil]; refine wpAny_bind (wpAny_bind (wpAny_onRaise ?_)))
  show wpAny _ _ (Builtin.SmallTypes.nextOf (.ref u) >>= _) _ _ _
  cases gx : xs[m]? with
  | none =>
    refine wpAny_bind (wpAny_nextOf_list_end hh Ma.hu Ma.hl gx fun hb e kb hs => ?_)
    obtain ⟨q, q1, q2⟩ := hs
    have rb : IsZip hb c p o .ellipsis := kb _ _ D.i1z.symm Ma.rec_
    have ec : e ≠ c := fun z => by subst z; rw [rb] at q1; cases q1; simp at q2
    refine wpAny_setField_rec rb (by simp) fun hd _ kd => ?_
    exact k hd e (fun d r d1 _ d3 _ z => kd.extBut _ _ d1 (kb _ _ d3 (ka.extBut _ _ d1 z))) ⟨q, kd.extBut _ _ ec q1, q2⟩
  | some x =>
    have gy : ys[n]? = none := gend.elim (fun z => by rw [gx] at z; cases z) id
    refine wpAny_bind (wpAny_nextOf_list_item Ma.hu Ma.hl gx fun hb rb kb => wpAny_pure ?_)
    have Mb := step_u Ma D rb kb
    refine wpAny_bind (wpAny_seqItems Mb.out rfl (wpAny_bind (wpAny_updateSeq_pair Mb.out fun hd rd kd => ?_)))
    have Md := step_o Mb D (show IsPair hd o x b from rd) kd
    refine wpAny_bind (wpAny_letGo (wpAny_pure (wpAny_bind (wpAny_bind (wpAny_onRaise ?_)))))
    show wpAny _ _ (Builtin.SmallTypes.nextOf (.ref v) >>= _) _ _ _
    refine wpAny_bind (RZ.nextOf_tuple_end hh Md.hv Md.ht gy fun he e ke hs => ?_)
    obtain ⟨q, q1, q2⟩ := hs
    have re : IsZip he c p o .ellipsis := ke _ _ D.i2z.symm Md.rec_
    have ec : e ≠ c := fun z => by subst z; rw [re] at q1; cases q1; simp at q2
    refine wpAny_setField_rec re (by simp) fun hf _ kf => ?_
    exact k hf e (fun d r d1 d2 d3 d4 z => kf.extBut _ _ d1 (ke _ _ d4 (kd.extBut _ _ d2 (kb.extBut _ _ d3 (ka.extBut _ _ d1 z))))) ⟨q, kf.extBut _ _ ec q1, q2⟩
theorem mix_next {Q : Option Value → Shared → Prop} (D : ZipApart c p o u v l t) (M : Mix s.heap c p o u v l t .none m n xs ys a b) (gx : xs[m]? = some x) (gy : ys[n]? = some y)
    (k : ∀ h', Mix h' c p o u v l t (rawInt s.heap.objs.size) (m + 1) (n + 1) xs ys x y → IsPair h' s.heap.objs.size x y → h'.objs.size = s.heap.objs.size + 1 → Kept c o u v s.heap h' → Q (some (.ref s.heap.objs.size)) { s with heap := h' }) :
    wpAny (model prog w) A (pyNext (.ref c)) Q E s := by
  have ty : s.TypeIs (.ref c) "zip" := ⟨_, M.rec_, rfl⟩
  unfold pyNext
  refine wpAny_bind (wpAny_attempt (wpAny_callSpecial?_slot (name := Str.ofString "__next__") ty F.slot_zip_next (wpAny_call_entry F.slot_zip_next ty F.entry_zip_next ?_ (F.args_zip_next_1 _))))
  exact mix_item D M gx gy fun h' b1 b2 b3 b4 => wpAny_pure (k h' b1 b2 b3 b4)
theorem mix_stop {Q : Option Value → Shared → Prop} (hh : A.handled = none) (D : ZipApart c p o u v l t) (M : Mix s.heap c p o u v l t .none m n xs ys a b) (gend : xs[m]? = none ∨ ys[n]? = none)
    (k : ∀ h', Kept c o u v s.heap h' → Q none { s with heap := h' }) : wpAny (model prog w) A (pyNext (.ref c)) Q E s := by
  have ty : s.TypeIs (.ref c) "zip" := ⟨_, M.rec_, rfl⟩
  unfold pyNext
  refine wpAny_bind (wpAny_attempt (wpAny_callSpecial?_slot (name := Str.ofString "__next__") ty F.slot_zip_next (wpAny_call_entry F.slot_zip_next ty F.entry_zip_next (mix_end hh D M gend fun h' e kk hs => ?_) (F.args_zip_next_1 _))))
  obtain ⟨q, q1, q2⟩ := hs
  exact wpAny_bind (wpAny_isInstance (T := "StopIteration") (b := true) ⟨q, q1, q2⟩ isSubtype_stop (wpAny_pure (k _ kk)))
end
abbrev mh1 (h : Heap) (l : Addr) : Heap := h.push { cls := .type "list_iterator", data := .fields #[.ref l, .int 0 0] }
abbrev mh2 (h : Heap) (l t : Addr) : Heap := (mh1 h l).push { cls := .type "tuple_iterator", data := .fields #[.ref t, .int 0 0] }
abbrev mh3 (h : Heap) (l t : Addr) : Heap := (mh2 h l t).push { cls := .type "tuple", data := .seq #[.ref h.objs.size, .ref (mh1 h l).objs.size] }
abbrev mh4 (h : Heap) (l t : Addr) : Heap := (mh3 h l t).push { cls := .type "tuple", data := .seq #[.none, .none] }
abbrev mh5 (h : Heap) (l t : Addr) : Heap := (mh4 h l t).push { cls := .type "zip", data := .fields #[.none, .bool false, .bool false, .ref (mh2 h l t).objs.size, .ref (mh3 h l t).objs.size] }
theorem meets_mix (l t : Addr) (xs ys : Array Value) :
    Meets (Builtin.«zip.__new__» ⟨[.type "zip", .ref l, .ref t], []⟩) (fun _ R s => s.heap.IsList l xs ∧ s.heap.IsTuple t ys ∧ R (.ok (.ret (.ref (mh4 s.heap l t).objs.size))) { s with heap := mh5 s.heap l t }) :=
  .of_wp fun prog w A R s h => by
    obtain ⟨hp, g, d, tk, os⟩ := s
    obtain ⟨gl, gt, h⟩ := h
    have hsub := sub_zip
    have el : Heap.IsList (Shared.heap ⟨hp, g, d, tk, os⟩) l xs := gl
    have et : Heap.IsTuple (Shared.heap ⟨hp.push { cls := .type "list_iterator", data := .fields #[.ref l, .int 0 0] }, g, d, tk, os⟩) t ys := Heap.IsTuple.push gt _
    wp_walk using wpAny_pyIter_list el, wpAny_pyIter_tuple et
    exact ⟨_, rfl, h⟩
section
variable {prog : Program} {w : World} {A : Around} {E : Value → Shared → Prop} {s : Shared}
theorem call_mix {l t : Addr} {xs ys : Array Value} {Q : Value → Shared → Prop} (gl : s.heap.IsList l xs) (gt : s.heap.IsTuple t ys)
    (k : ∀ h', Mix h' (s.heap.objs.size + 4) (s.heap.objs.size + 2) (s.heap.objs.size + 3) s.heap.objs.size (s.heap.objs.size + 1) l t .none 0 0 xs ys .none .none → h'.objs.size = s.heap.objs.size + 5 →
      (∀ d q, s.heap.get? d = some q → h'.get? d = some q) → Q (.ref (s.heap.objs.size + 4)) { s with heap := h' }) : wpAny (model prog w) A (call (.type "zip") [.ref l, .ref t]) Q E s := by
  refine callType_new F.called_zip (by decide) (F.typeCall_zip_2 _ _) (F.newCall_zip_2 _ _) (fun obj => F.args_object_init_3 obj _ _) F.entry_zip_new (meets_mix l t xs ys) ⟨gl, gt, ?_⟩
  have y1 : (mh1 s.heap l).objs.size = s.heap.objs.size + 1 := Heap.size_push ..
  have y2 : (mh2 s.heap l t).objs.size = s.heap.objs.size + 2 := by rw [Heap.size_push, y1]
  have y3 : (mh3 s.heap l t).objs.size = s.heap.objs.size + 3 := by rw [Heap.size_push, y2]
  have y4 : (mh4 s.heap l t).objs.size = s.heap.objs.size + 4 := by rw [Heap.size_push, y3]
  have y5 : (mh5 s.heap l t).objs.size = s.heap.objs.size + 5 := by rw [Heap.size_push, y4]
  have old : ∀ {d : Addr} {q : Obj}, (mh3 s.heap l t).get? d = some q → (mh5 s.heap l t).get? d = some q := fun e => Heap.get?_push_of_some _ (Heap.get?_push_of_some _ e)
  have f5 : (mh5 s.heap l t).get? (mh4 s.heap l t).objs.size = some _ := Heap.get?_push_size _ rfl
  have f4 : (mh5 s.heap l t).get? (mh3 s.heap l t).objs.size = some _ := Heap.get?_push_of_some _ (Heap.get?_push_size _ rfl)
  have f3 : (mh5 s.heap l t).get? (mh2 s.heap l t).objs.size = some _ := old (Heap.get?_push_size _ rfl)
  have f2 : (mh5 s.heap l t).get? (mh1 s.heap l).objs.size = some _ := old (Heap.get?_push_of_some _ (Heap.get?_push_size _ rfl))
  have f1 : (mh5 s.heap l t).get? s.heap.objs.size = some _ := old (Heap.get?_push_of_some _ (Heap.get?_push_of_some _ (Heap.get?_push_size _ rfl)))
  have f0 : ∀ d q, s.heap.get? d = some q → (mh5 s.heap l t).get? d = some q := fun d q e => old (Heap.get?_push_of_some _ (Heap.get?_push_of_some _ (Heap.get?_push_of_some _ e)))
  show _ ∧ _
  rw [y2, y3, y4] at f5
  rw [y1, y2] at f3
  (rw [y3] at f4; rw [y1] at f2; rw [y4])
  exact ⟨⟨_, f5, rfl⟩, k _ ⟨f5, f3, f4, ⟨_, f1, rfl, rfl⟩, ⟨_, f2, rfl, rfl⟩, gl.at fun q e => f0 _ q e, gt.at fun q e => f0 _ q e⟩ y5 f0⟩
end
open PySem.Spec PyProof.Rows L2
/-- the list at a and the tuple at b as they stand at each turn, the items in new pairs -/
def ItM (K : PySem.W.Frag) (a b : Addr) : It :=
  ⟨fun i H => ∃ (xs ys : List V) (x y : V), (SqL K H a xs ∧ SqT K H b ys) ∧ xs[i]? = some x ∧ ys[i]? = some y,
    fun i H v H' => ∃ T x y, (v = .ref T ∧ H T = none ∧ H' = upd H T (.tup [x, y])) ∧ (∀ xs, SqL K H a xs → xs[i]? = some x) ∧ ∀ ys, SqT K H b ys → ys[i]? = some y,
    fun i H => ∃ xs ys : List V, (SqL K H a xs ∧ SqT K H b ys) ∧ (xs.length ≤ i ∨ ys.length ≤ i)⟩
theorem of5 {c p o u v d : Addr} (h : d ∈ [c, p, o, u, v]) : d = c ∨ d = p ∨ d = o ∨ d = u ∨ d = v := by simpa using h
theorem turn_mix {P : Program} {w : World} {K : PySem.W.Frag} {elts : List Expr} {kk : Nat} {tpos : Pos} {l t c p o u v : Addr} (D : ZipApart c p o u v l t) :
    Turn P w K (.Tuple elts kk tpos) (ItM K l t) [c, p, o, u, v] c (fun i h => IsZip h c p o .none ∧ IsPair h p (.ref u) (.ref v) ∧ (∃ x y, IsPair h o x y) ∧ h.IsListIter u l i ∧ h.IsTupleIter v t i) where
  mem := by simp
  obj := fun i h ⟨g1, g2, ⟨x, y, g3⟩, ⟨o1, g4, _, d1⟩, ⟨o2, g5, _, d2⟩⟩ d hd => by
    rcases of5 hd with rfl | rfl | rfl | rfl | rfl
    · exact ⟨_, g1, fun _ q => nomatch q⟩
    · exact ⟨_, g2, fun _ q => nomatch q⟩
    · exact ⟨_, g3, fun _ q => nomatch q⟩
    · exact ⟨o1, g4, fun _ q => by rw [d1] at q; cases q⟩
    · exact ⟨o2, g5, fun _ q => by rw [d2] at q; cases q⟩
  keep := fun i h h' ⟨g1, g2, ⟨x, y, g3⟩, g4, g5⟩ k => ⟨k c (by simp) _ g1, k p (by simp) _ g2, ⟨x, y, k o (by simp) _ g3⟩, g4.at fun q e => k u (by simp) q e, g5.at fun q e => k v (by simp) q e⟩
  item := by
    intro X hP hw hK hc i pins s σ H E I hf ⟨g1, g2, ⟨x0, y0, g3⟩, g4, g5⟩ ⟨xs, ys, x, y, ⟨qx, qy⟩, ex, ey⟩
    subst hP hw hK
    obtain ⟨is1, rv, p1, _⟩ := I.list qx
    obtain ⟨is2, rv2, p2, _⟩ := I.tuple qy
    obtain ⟨z, hz, rz⟩ := rv.get ex
    obtain ⟨z2, hz2, rz2⟩ := rv2.get ey
    have M : Mix s.heap c p o u v l t .none i i is1.toArray is2.toArray x0 y0 := ⟨g1, g2, g3, g4, g5, p1.isList, p2⟩
    have clt : c < s.heap.objs.size := Heap.lt_size g1
    refine mix_next D M (x := z) (y := z2) (by simpa using hz) (by simpa using hz2) fun h1 M1 n1 sz1 k1 => ⟨_, rfl, wpAny_letOwnedTupleGo_zip (s := { s with heap := h1 }) M1.rec_ fun h2 r2 sb => ?_⟩
    have n2 : h2.get? s.heap.objs.size = some { cls := .type "tuple", data := .seq #[z, z2] } := (sb.2 _ (Nat.ne_of_gt clt)).trans n1
    have obj : ObjOk X.prog X.w (upd H s.heap.objs.size (.tup [x, y])) h2 s.heap.objs.size (.tup [x, y]) := ⟨by show 2 ≤ sizeLine; decide, [z, z2], .cons rz (.cons rz2 .nil), ⟨_, n2, rfl, _, rfl⟩⟩
    have I2 : Inv X pins σ (upd H s.heap.objs.size (.tup [x, y])) { s with heap := h2 } := by
      refine I.turnedNew (t' := s.toks) (ch := [c, p, o, u, v]) (fun d q hb e => ?_) hf (Nat.le_refl _) obj
      simp only [List.mem_cons, List.not_mem_nil, or_false, not_or] at hb
      exact (sb.2 d hb.1).trans (k1 d q hb.1 hb.2.2.1 hb.2.2.2.1 hb.2.2.2.2 e)
    refine ⟨.ref s.heap.objs.size, _, I2, rfl, ⟨_, x, y, ⟨rfl, I.hok.fresh (Nat.le_refl _), rfl⟩, fun ws hs => by rw [I.list_inj hs qx]; exact ex, fun ws hs => by rw [I.tuple_inj hs qy]; exact ey⟩, ⟨r2, (sb.2 _ D.TIz).trans M1.its, ⟨z, z2, (sb.2 _ D.TOz).trans M1.out⟩, M1.hu.at fun q e => (sb.2 _ D.i1z).trans e, M1.hv.at fun q e => (sb.2 _ D.i2z).trans e⟩, fun d hd => ?_⟩
    have dlt : d < s.heap.objs.size := by
      rcases of5 hd with rfl | rfl | rfl | rfl | rfl
      · exact clt
      · exact Heap.lt_size g2
      · exact Heap.lt_size g3
      · exact let ⟨_, e, _⟩ := g4; Heap.lt_size e
      · exact let ⟨_, e, _⟩ := g5; Heap.lt_size e
    rw [upd_ne (Nat.ne_of_lt dlt)]
    exact (hf d hd).1
  done := by
    intro X hP hw hK hc i pins s σ H E I hf ⟨g1, g2, ⟨x0, y0, g3⟩, g4, g5⟩ ⟨xs, ys, ⟨qx, qy⟩, ge⟩
    subst hP hw hK
    obtain ⟨is1, rv, p1, _⟩ := I.list qx
    obtain ⟨is2, rv2, p2, _⟩ := I.tuple qy
    have M : Mix s.heap c p o u v l t .none i i is1.toArray is2.toArray x0 y0 := ⟨g1, g2, g3, g4, g5, p1.isList, p2⟩
    have n1 := rv.length
    have n2 := rv2.length
    refine mix_stop (I.ok.hd hc) D M (ge.imp (fun z => by simp; omega) fun z => by simp; omega) fun h' k => ⟨rfl, I.turnedL (t' := s.toks) (ch := [c, p, o, u, v]) (fun d q hb e => ?_) hf⟩
    simp only [List.mem_cons, List.not_mem_nil, or_false, not_or] at hb
    exact k d q hb.1 hb.2.2.1 hb.2.2.2.1 hb.2.2.2.2 e
  self := fun A i s Q E st h => wpAny_pyIter_zip st.1 h
def iZipM (K : PySem.W.Frag) (ta : TA) : TI := fun σ H R => ta σ H fun vs H1 => ∃ a b xs ys, vs = [.ref a, .ref b] ∧ SqL K H1 a xs ∧ SqT K H1 b ys ∧ R (ItM K a b) H1
theorem pi_zipM {X : Cx} {e e2 : Expr} {ta : TA} {p pos tpos : Pos} {elts : List Expr} {kk : Nat} (gz : Gl X "zip") (mz : X.mg "zip" = none) (ha : PA X [e, e2] ta)
    (st : starEach [e, e2] X.env = (false, eval e X.env) :: starEach [e2] X.env := by rfl) (pl : (backTo pos (starEach [e2] X.env)).any (·.1) = false := by rfl) :
    PI X (.Tuple elts kk tpos) (.Call (.Name "zip" p) [e, e2] [] pos) (iZipM X.K ta) := by
  constructor
  intro pins s σ H R I h
  refine Call_ (ld_blt I gz mz PyProof.Rows.boot_zip (PyProof.Rows.callWith_type1 (thn (ha.run pos pins s σ H _ I h) fun us s1 ⟨vs, H1, I1, r1, a, b, xs, ys, ex, qx, qy, q⟩ => ?_) st pl))
  subst ex
  obtain ⟨ua, rest, rfl, ra, rr⟩ : ∃ ua rest, us = ua :: rest ∧ RelV (.ref a) ua ∧ Paired RelV [V.ref b] rest := by cases r1 with | cons r rr => exact ⟨_, _, rfl, r, rr⟩
  obtain ⟨ub, rfl, rb⟩ : ∃ ub, rest = [ub] ∧ RelV (.ref b) ub := by cases rr with | cons r rr => cases rr; exact ⟨_, rfl, r⟩
  obtain rfl : ua = Value.ref a := ra
  obtain rfl : ub = Value.ref b := rb
  have fresh : ∀ d, d ∈ [s1.heap.objs.size + 4, s1.heap.objs.size + 2, s1.heap.objs.size + 3, s1.heap.objs.size, s1.heap.objs.size + 1] → FpOk X pins H1 d := fun d hd => by
    have le : s1.heap.objs.size ≤ d := by rcases of5 hd with rfl | rfl | rfl | rfl | rfl <;> first | exact Nat.le_refl _ | exact Nat.le_add_right _ _
    exact I1.fpOk le (I1.hok.fresh le)
  obtain ⟨is1, rv, p1, _⟩ := I1.list qx
  obtain ⟨is2, rv2, p2, _⟩ := I1.tuple qy
  obtain ⟨o2, ho2, _⟩ := id p2
  refine call_mix p1.isList (show s1.heap.IsTuple b is2.toArray from p2) fun h' M sz k => wpAny_pyIter_zip M.rec_ ?_
  have I2 : Inv X pins σ H1 { s1 with heap := h' } := I1.kept (t' := s1.toks) k
  exact ⟨_, _, _, _, H1, rfl, I2, turn_mix (PySem.W.ktu_apart s1.heap.objs.size a b p1.lt (Heap.lt_size ho2)), ⟨M.rec_, M.its, ⟨_, _, M.out⟩, M.hu, M.hv⟩, fresh, q⟩
end Zm

set_option maxRecDepth 100000
set_option maxHeartbeats 1000000
/-! while; stars in displays; zip of a list and a tuple. -/
namespace Dv
open PySem L2
section
variable {B0 : Gr} {C : CH} {E : EnvD} {D1 : EndD} {tc : TT} {tb : TS}
/-- L: what holds ahead of the test, by a measure -/
theorem ws_while (L : Nat → EnvD → CH → Prop) (m0 : Nat) (h0 : L m0 E C)
    (hs : ∀ m E1 C1, L m E1 C1 → WT B0 tc E1 C1 fun b C2 => (b = true → WS B0 tb E1 C2 { D1 with nx := fun E3 C3 => ∃ m', m' < m ∧ L m' E3 C3, ct := fun E3 C3 => ∃ m', m' < m ∧ L m' E3 C3, bk := D1.nx }) ∧ (b = false → D1.nx E1 C2)) :
    WS B0 (tWhile tc tb) E C D1 := fun B F σ H sb rl re Dn ok => by
  refine ⟨fun m σ' H' => ∃ B' C' E', Same B B' ∧ Rel B' C' F H' ∧ RelE B' σ' E' ∧ L m E' C', ⟨m0, B, C, E, Same.refl _, rl, re, h0⟩, ?_⟩
  rintro m σ' H' ⟨B', C', E', s', rl', re', l⟩
  refine hs m E' C' l B' F σ' H' (sb.trans s') rl' re' _ fun b B2 C2 H2 s2 rl2 p => ?_
  cases b with
  | false => exact ok.nx σ' E' B2 C2 H2 (s'.trans s2) rl2 (re'.mono s2) (p.2 rfl)
  | true =>
    have turn : ∀ σ4 E4 B4 C4 H4, Same B2 B4 → Rel B4 C4 F H4 → RelE B4 σ4 E4 → (∃ m', m' < m ∧ L m' E4 C4) → ∃ m', m' < m ∧ ∃ B' C' E', Same B B' ∧ Rel B' C' F H4 ∧ RelE B' σ4 E' ∧ L m' E' C' :=
      fun σ4 E4 B4 C4 H4 s4 rl4 re4 ⟨m', hm, l4⟩ => ⟨m', hm, B4, C4, E4, (s'.trans s2).trans s4, rl4, re4, l4⟩
    refine ⟨fun σ4 H4 => ∃ m', m' < m ∧ ∃ B' C' E', Same B B' ∧ Rel B' C' F H4 ∧ RelE B' σ4 E' ∧ L m' E' C', fun σ4 H4 z => z, ?_⟩
    exact p.1 rfl B2 F σ' H2 (sb.trans (s'.trans s2)) rl2 (re'.mono s2) _ ⟨turn, fun v d B4 C4 H4 s4 rl4 rp4 k => ok.rt v d B4 C4 H4 ((s'.trans s2).trans s4) rl4 rp4 k,
      fun σ4 E4 B4 C4 H4 s4 rl4 re4 k => ok.nx σ4 E4 B4 C4 H4 ((s'.trans s2).trans s4) rl4 re4 k, turn⟩
end
section
variable {B0 : Gr} {C : CH} {K : PySem.W.Frag} {E : EnvD} {PA' : List D → CH → Prop} {te : TE} {ta : TA}
theorem reps_app {B : Hp} {vs ws : List V} {ds es : List D} (a : Reps B vs ds) (b : Reps B ws es) : Reps B (vs ++ ws) (ds ++ es) := a.append b
/-- *e in a display or a call -/
theorem wa_star (h : W B0 te E C fun x C1 => ∃ xs, SeqF x xs ∧ WA B0 ta E C1 fun ys C2 => PA' (xs ++ ys) C2) : WA B0 (StX.tStar K te ta) E C PA' := fun B F σ H sb rl re Q q =>
  h B F σ H sb rl re _ fun v d B1 C1 H1 e1 rl1 rp ⟨xs, hd, h1⟩ => by
    have rd : ∃ a vs, v = .ref a ∧ (SqT K H1 a vs ∨ SqL K H1 a vs) ∧ Reps B1 vs xs := by
      cases hd with
      | lst => cases rp with | lst ha r => exact ⟨_, _, rfl, .inr (SqL.of (rl1.ex _ _ ha)), r⟩
      | tup => cases rp with | tup ha r => exact ⟨_, _, rfl, .inl (SqT.of (rl1.ex _ _ ha)), r⟩
    obtain ⟨a, vs, rfl, ha, r⟩ := rd
    refine ⟨a, vs, rfl, ha, h1 B1 F σ H1 (sb.trans e1) rl1 (re.mono e1) _ fun ws es B2 C2 H2 e2 rl2 rp2 p => ?_⟩
    exact q _ _ B2 C2 H2 (e1.trans e2) rl2 (reps_app (r.mono e2) rp2) p
theorem pa_starK {X : Cx} (K : PySem.W.Frag) {e : Expr} {es : List Expr} {p : Pos} {te : TE} {t : TA} (he : PE X e te) (hr : PA X es t) (h : X.K = K := by rfl)
    (hs : starEach (.Starred e p :: es) X.env = (true, eval e X.env) :: starEach es X.env := by rfl) : PA X (.Starred e p :: es) (StX.tStar K te t) := by
  subst h
  exact StX.pa_star he hr hs
theorem pi_zipK {X : Cx} (K : PySem.W.Frag) {e e2 : Expr} {ta : TA} {p pos tpos : Pos} {elts : List Expr} {kk : Nat} (hm : X.mg "zip" = none) (ha : PA X [e, e2] ta) (h : X.K = K := by rfl) (hg : Gl X "zip" := by rfl)
    (st : starEach [e, e2] X.env = (false, eval e X.env) :: starEach [e2] X.env := by rfl) (pl : (backTo pos (starEach [e2] X.env)).any (·.1) = false := by rfl) :
    PI X (.Tuple elts kk tpos) (.Call (.Name "zip" p) [e, e2] [] pos) (Zm.iZipM K ta) := by
  subst h
  exact Zm.pi_zipM hg hm ha st pl
def zipD : List D → List D → List D := List.zipWith fun x y => .tup [x, y]
theorem jd_zipM {B : Hp} {a b : Addr} {vs ws : List V} {ds es : List D} (h1 : B a = some (.lst vs)) (r1 : Reps B vs ds) (h2 : B b = some (.tup ws)) (r2 : Reps B ws es) : JD (Zm.ItM K a b) B (zipD ds es) := by
  have len : (zipD ds es).length = min vs.length ws.length := by rw [r1.length, r2.length]; exact List.length_zipWith
  refine ⟨fun i B' F H C s rl hi => ?_, fun B' F H C s rl => ?_, fun i x B' F H H' C s rl hi y => ?_⟩
  · have i1 : i < vs.length := by omega
    have i2 : i < ws.length := by omega
    exact ⟨vs, ws, vs[i], ws[i], ⟨SqL.of (rl.ex _ _ (s _ _ h1)), SqT.of (rl.ex _ _ (s _ _ h2))⟩, by simp [i1], by simp [i2]⟩
  · exact ⟨vs, ws, ⟨SqL.of (rl.ex _ _ (s _ _ h1)), SqT.of (rl.ex _ _ (s _ _ h2))⟩, by omega⟩
  · obtain ⟨T, u, v, ⟨rfl, hT, rfl⟩, y1, y2⟩ := y
    obtain ⟨d, d1, d2⟩ := r1.getV (y1 vs (SqL.of (rl.ex _ _ (s _ _ h1))))
    obtain ⟨e, e1, e2⟩ := r2.getV (y2 ws (SqT.of (rl.ex _ _ (s _ _ h2))))
    have sm := same_upd (o := .tup [u, v]) (rl.noB hT)
    refine ⟨.tup [d, e], _, ?_, sm, rl.new hT, .tup upd_same (.cons ((d2.mono s).mono sm) (.cons ((e2.mono s).mono sm) .nil))⟩
    unfold zipD
    rw [List.getElem?_zipWith, d1, e1]
theorem wi_zipM {PI' : List D → CH → Prop} (h : WA B0 ta E C fun ds C1 => ∃ xs ys, ds = [.lst xs, .tup ys] ∧ PI' (zipD xs ys) C1) : WI B0 (Zm.iZipM K ta) E C PI' := fun B F σ H sb rl re R q =>
  h B F σ H sb rl re _ fun vs ds B1 C1 H1 e1 rl1 rp ⟨xs, ys, hd, p⟩ => by
    subst hd
    cases rp with
    | cons ra rr =>
      cases rr with
      | cons rb rr =>
        cases rr
        cases ra with
        | lst ha r1 =>
          cases rb with
          | tup hb r2 => exact ⟨_, _, _, _, rfl, SqL.of (rl1.ex _ _ ha), SqT.of (rl1.ex _ _ hb), q _ _ B1 C1 H1 e1 rl1 (jd_zipM ha r1 hb r2) p⟩
theorem reps_rev {B : Hp} : ∀ {vs : List V} {ds : List D}, Reps B vs ds → Reps B vs.reverse ds.reverse
  | _, _, .nil => .nil
  | _, _, .cons h r => by
    rw [List.reverse_cons, List.reverse_cons]
    exact (reps_rev r).append (.one h)
theorem w_revL {P : D → CH → Prop} (h : W B0 te E C fun x C1 => ∃ ds, LstD C1 x ds ∧ P (.lst ds.reverse) C1) : W B0 (tRevL K te) E C P := fun B F σ H sb rl re Q q =>
  h B F σ H sb rl re _ fun v d B1 C1 H1 e1 rl1 rp ⟨ds, hd, p⟩ => by
    obtain ⟨a, vs, rfl, ha, r⟩ := lstD_rd rl1 rp hd
    refine ⟨a, vs, rfl, SqL.of ha, fun l hl => ?_⟩
    have s := same_upd (o := .lst vs.reverse) (rl1.noB hl)
    exact q _ _ _ C1 _ (e1.trans s) (rl1.new hl) (.lst upd_same ((reps_rev r).mono s)) p
theorem pe_revK {X : Cx} (K : PySem.W.Frag) {e : Expr} {te : TE} {k : Nat} {p1 p2 p3 pos : Pos} (he : PE X e te) (h : X.K = K := by rfl) : PE X (.Subscript e (.Slice none none (some (.UnaryOp .USub (.Constant (.int 1) k p1) p2)) p3) pos) (tRevL K te) := by
  subst h
  exact pe_revL he
end
end Dv

set_option maxRecDepth 100000
/-! Windows of boxes. -/
namespace Dv
open PySem L2
def tri (t f e : Int) : D := .tup [.int t, .int f, .int e]
mutual
/-- a box whose top and window are told: its entry, then those of its parts -/
def winB (O : List (Int × Int)) : Box → Int → Int → Int → List (Int × D) → List (Int × D)
  | .block n _, t, f, e, acc => putD acc n (tri t f e)
  | .scroller n _ ps, t, f, e, acc => winPs O ps (t - gI O n) f e (putD acc n (tri t f e))
/-- the parts of a scroller from the row z on, its window told -/
def winPs (O : List (Int × Int)) : List Box → Int → Int → Int → List (Int × D) → List (Int × D)
  | [], _, _, _, acc => acc
  | p :: r, z, f, e, acc => winPs O r (z + p.hgt) f e (winB O p z (max z f) (min (z + p.hgt) e) acc)
end
theorem winPs_app (O : List (Int × Int)) : ∀ (l m : List Box) (z f e : Int) (acc : List (Int × D)), winPs O (l ++ m) z f e acc = winPs O m (z + (l.map Box.hgt).sum) f e (winPs O l z f e acc)
  | [], m, z, f, e, acc => by simp [winPs]
  | p :: r, m, z, f, e, acc => by
    rw [List.cons_append, winPs, winPs_app O r m, winPs, List.map_cons, List.sum_cons, Int.add_assoc]
theorem putD_any (l : List (Int × D)) (k j : Int) (d : D) : lookD (putD l k d) j = if j = k then some d else lookD l j := by
  unfold putD lookD
  split
  · rename_i h
    induction l with
    | nil => simp at h
    | cons p l ih =>
      rw [List.map_cons, List.find?_cons, List.find?_cons]
      by_cases e : p.1 = k
      · rw [if_pos e]
        by_cases ej : j = k
        · subst ej; simp [e]
        · have n : ¬ p.1 = j := fun z => ej (z ▸ e)
          simp only [n, decide_false, if_neg ej]
          by_cases hk : (l.any fun p => decide (p.1 = k)) = true
          · have := ih hk
            rw [if_neg ej] at this
            exact this
          · congr 1
            have e2 : (l.map fun p => if p.1 = k then (p.1, d) else p) = l := by
              conv => rhs; rw [← List.map_id l]
              apply List.map_congr_left
              intro q hq
              have : ¬ q.1 = k := fun z => hk (List.any_eq_true.mpr ⟨q, hq, by simpa using z⟩)
              simp [this]
            rw [e2]
      · rw [if_neg e]
        have hk : (l.any fun p => decide (p.1 = k)) = true := by simpa [e] using h
        by_cases ep : p.1 = j
        · have ej : ¬ j = k := fun z => e (ep.trans z)
          simp [ep, ej]
        · simp only [ep, decide_false]
          exact ih hk
  · rename_i h
    rw [List.find?_append]
    by_cases ej : j = k
    · subst ej
      have : l.find? (fun p => decide (p.1 = j)) = none := by
        rw [List.find?_eq_none]
        intro p hp z
        exact h (List.any_eq_true.mpr ⟨p, hp, z⟩)
      rw [this]
      simp
    · have n : ¬ k = j := Ne.symm ej
      simp [ej, n]
mutual
theorem winB_len (O : List (Int × Int)) : ∀ (b : Box) (t f e : Int) (acc : List (Int × D)), (winB O b t f e acc).length ≤ acc.length + b.all.length
  | .block n h, t, f, e, acc => by
    have := putD_len acc n (tri t f e)
    rw [winB, Box.all]
    simpa using this
  | .scroller n h ps, t, f, e, acc => by
    have h1 := putD_len acc n (tri t f e)
    have h2 := winPs_len O ps (t - gI O n) f e (putD acc n (tri t f e))
    rw [winB, Box.all, List.length_cons]
    omega
theorem winPs_len (O : List (Int × Int)) : ∀ (ps : List Box) (z f e : Int) (acc : List (Int × D)), (winPs O ps z f e acc).length ≤ acc.length + (alls ps).length
  | [], z, f, e, acc => by simp [winPs]
  | p :: r, z, f, e, acc => by
    have h1 := winB_len O p z (max z f) (min (z + p.hgt) e) acc
    have h2 := winPs_len O r (z + p.hgt) f e (winB O p z (max z f) (min (z + p.hgt) e) acc)
    rw [winPs, alls, List.length_append]
    omega
end
mutual
/-- what was told of a number that is not there stays -/
theorem winB_other (O : List (Int × Int)) : ∀ (b : Box) (t f e : Int) (acc : List (Int × D)) (j : Int), j ∉ b.all.map Box.num → lookD (winB O b t f e acc) j = lookD acc j
  | .block n h, t, f, e, acc, j, hj => by
    have : ¬ j = n := by simpa [Box.all, Box.num] using hj
    rw [winB, putD_any, if_neg this]
  | .scroller n h ps, t, f, e, acc, j, hj => by
    rw [Box.all, List.map_cons, List.mem_cons, not_or] at hj
    rw [winB, winPs_other O ps _ _ _ _ _ hj.2, putD_any, if_neg (show ¬ j = n from hj.1)]
theorem winPs_other (O : List (Int × Int)) : ∀ (ps : List Box) (z f e : Int) (acc : List (Int × D)) (j : Int), j ∉ (alls ps).map Box.num → lookD (winPs O ps z f e acc) j = lookD acc j
  | [], _, _, _, _, _, _ => by rw [winPs]
  | p :: r, z, f, e, acc, j, hj => by
    rw [alls, List.map_append, List.mem_append, not_or] at hj
    rw [winPs, winPs_other O r _ _ _ _ _ hj.2, winB_other O p _ _ _ _ _ hj.1]
end
def IsTri (acc : List (Int × D)) (j : Int) : Prop := ∃ t f e, lookD acc j = some (tri t f e)
theorem putD_tri {acc : List (Int × D)} {n j t f e : Int} (h : j = n ∨ IsTri acc j) : IsTri (putD acc n (tri t f e)) j := by
  unfold IsTri
  rw [putD_any]
  by_cases z : j = n
  · exact ⟨t, f, e, by rw [if_pos z]⟩
  · rw [if_neg z]
    exact h.resolve_left z
mutual
theorem winB_tri (O : List (Int × Int)) : ∀ (b : Box) (t f e : Int) (acc : List (Int × D)) (j : Int), j ∈ b.all.map Box.num ∨ IsTri acc j → IsTri (winB O b t f e acc) j
  | .block n h, t, f, e, acc, j, hj => by
    rw [winB]
    exact putD_tri (hj.imp (fun z => by simpa [Box.all, Box.num] using z) id)
  | .scroller n h ps, t, f, e, acc, j, hj => by
    rw [winB]
    refine winPs_tri O ps _ _ _ _ _ ?_
    rw [Box.all, List.map_cons, List.mem_cons] at hj
    rcases hj with (z | z) | z
    · exact .inr (putD_tri (.inl z))
    · exact .inl z
    · exact .inr (putD_tri (.inr z))
theorem winPs_tri (O : List (Int × Int)) : ∀ (ps : List Box) (z f e : Int) (acc : List (Int × D)) (j : Int), j ∈ (alls ps).map Box.num ∨ IsTri acc j → IsTri (winPs O ps z f e acc) j
  | [], _, _, _, _, _, hj => by
    rw [winPs]
    refine hj.resolve_left fun y => ?_
    simp [alls] at y
  | p :: r, z, f, e, acc, j, hj => by
    rw [winPs]
    refine winPs_tri O r _ _ _ _ _ ?_
    rw [alls, List.map_append, List.mem_append] at hj
    rcases hj with (y | y) | y
    · exact .inr (winB_tri O p _ _ _ _ _ (.inl y))
    · exact .inl y
    · exact .inr (winB_tri O p _ _ _ _ _ (.inr y))
end
def winsOf (O : List (Int × Int)) (b : Box) : List (Int × D) := winB O b 0 0 b.hgt []
theorem winsOf_tri (O : List (Int × Int)) {b p : Box} (h : p ∈ b.all) : IsTri (winsOf O b) p.num := winB_tri O b _ _ _ _ _ (.inl (List.mem_map.mpr ⟨p, h, rfl⟩))
/-- the picture, by the table of windows -/
def blocksB (b : Box) : List Int := (b.all.filter fun p => !p.isS).map Box.num
def visN (W : List (Int × D)) : D → Bool := fun x => match x with
  | .int n => match lookD W n with
    | some (.tup [_, .int f, .int e]) => decide (f < e)
    | _ => false
  | _ => false
def entN (W : List (Int × D)) : D → D := fun x => match x with
  | .int n => match lookD W n with
    | some (.tup l) => .tup (.int n :: l)
    | _ => .non
  | _ => .non
def pictD (W : List (Int × D)) (b : Box) : List D := (((blocksB b).map D.int).filter (visN W)).map (entN W)
def isBD : D → Bool := fun x => match x with | .tup (.str k :: _) => decide (k = "block") | _ => false
theorem blocks_enc (b : Box) : ((encBs b.all).filter isBD).map numD = (blocksB b).map D.int := by
  unfold blocksB
  rw [encBs_map, List.filter_map, List.map_map, List.map_map]
  have e : b.all.filter (isBD ∘ encB) = b.all.filter fun p => !p.isS := List.filter_congr fun p _ => by cases p <;> rfl
  rw [e]
  apply List.map_congr_left
  intro p _
  cases p <;> rfl
theorem blocks_mem {b : Box} {n : Int} (h : n ∈ blocksB b) : ∃ p ∈ b.all, p.num = n := by
  obtain ⟨p, hp, e⟩ := List.mem_map.mp h
  exact ⟨p, (List.mem_filter.mp hp).1, e⟩
theorem blocks_len (b : Box) : (blocksB b).length ≤ b.all.length := by
  unfold blocksB
  rw [List.length_map]
  exact List.length_filter_le _ _
/-! ### what lies under a row -/
mutual
/-- the scrollers (the innermost first) and the target under the row r of a box -/
def undB (O : List (Int × Int)) : Box → Int → List Int → List Int × D
  | .block n _, _, path => (path, .int n)
  | .scroller n _ ps, r, path => undPs O ps (r + gI O n) (n :: path)
def undPs (O : List (Int × Int)) : List Box → Int → List Int → List Int × D
  | [], _, path => (path, .non)
  | p :: rest, i, path => if i < p.hgt then undB O p i path else undPs O rest (i - p.hgt) path
end
mutual
/-- the table W tells of a box and of all within what is to be told -/
def WinOk (O : List (Int × Int)) (W : List (Int × D)) : Box → Int → Int → Int → Prop
  | .block n _, t, f, e => lookD W n = some (tri t f e)
  | .scroller n _ ps, t, f, e => lookD W n = some (tri t f e) ∧ WinPsOk O W ps (t - gI O n) f e
def WinPsOk (O : List (Int × Int)) (W : List (Int × D)) : List Box → Int → Int → Int → Prop
  | [], _, _, _ => True
  | p :: r, z, f, e => WinOk O W p z (max z f) (min (z + p.hgt) e) ∧ WinPsOk O W r (z + p.hgt) f e
end
mutual
theorem winOk_same (O : List (Int × Int)) {W W' : List (Int × D)} : ∀ {b : Box} {t f e : Int}, (∀ j ∈ b.all.map Box.num, lookD W' j = lookD W j) → WinOk O W b t f e → WinOk O W' b t f e
  | .block n h, t, f, e, hj, k => by
    rw [WinOk] at k ⊢
    rw [hj n (by simp [Box.all, Box.num])]
    exact k
  | .scroller n h ps, t, f, e, hj, k => by
    rw [WinOk] at k ⊢
    rw [hj n (by simp [Box.all, Box.num])]
    exact ⟨k.1, winPsOk_same O (fun j hm => hj j (by rw [Box.all, List.map_cons]; exact List.mem_cons_of_mem _ hm)) k.2⟩
theorem winPsOk_same (O : List (Int × Int)) {W W' : List (Int × D)} : ∀ {ps : List Box} {z f e : Int}, (∀ j ∈ (alls ps).map Box.num, lookD W' j = lookD W j) → WinPsOk O W ps z f e → WinPsOk O W' ps z f e
  | [], _, _, _, _, _ => by rw [WinPsOk]; trivial
  | p :: r, z, f, e, hj, k => by
    rw [WinPsOk] at k ⊢
    rw [alls, List.map_append] at hj
    exact ⟨winOk_same O (fun j hm => hj j (List.mem_append_left _ hm)) k.1, winPsOk_same O (fun j hm => hj j (List.mem_append_right _ hm)) k.2⟩
end
mutual
theorem winB_ok (O : List (Int × Int)) : ∀ (b : Box) (t f e : Int) (acc : List (Int × D)), (b.all.map Box.num).Nodup → WinOk O (winB O b t f e acc) b t f e
  | .block n h, t, f, e, acc, _ => by
    rw [WinOk, winB, putD_any, if_pos rfl]
  | .scroller n h ps, t, f, e, acc, hn => by
    rw [Box.all, List.map_cons, List.nodup_cons] at hn
    rw [WinOk, winB]
    refine ⟨?_, winPs_ok O ps _ _ _ _ hn.2⟩
    have h1 : n ∉ (alls ps).map Box.num := hn.1
    rw [winPs_other O ps _ _ _ _ _ h1, putD_any, if_pos rfl]
theorem winPs_ok (O : List (Int × Int)) : ∀ (ps : List Box) (z f e : Int) (acc : List (Int × D)), ((alls ps).map Box.num).Nodup → WinPsOk O (winPs O ps z f e acc) ps z f e
  | [], _, _, _, _, _ => by rw [WinPsOk]; trivial
  | p :: r, z, f, e, acc, hn => by
    rw [alls, List.map_append, List.nodup_append] at hn
    rw [WinPsOk, winPs]
    refine ⟨winOk_same O (fun j hj => ?_) (winB_ok O p z (max z f) (min (z + p.hgt) e) acc hn.1), winPs_ok O r _ _ _ _ hn.2.1⟩
    exact winPs_other O r _ _ _ _ _ fun z => hn.2.2 j hj j z rfl
end
/-- the part that lies under the row, with its top -/
def pickP (row : Int) : Int → List Box → Option (Box × Int)
  | _, [] => none
  | z, p :: r => if row - z < p.hgt then some (p, z) else pickP row (z + p.hgt) r
theorem undPs_pick (O : List (Int × Int)) (row : Int) (path : List Int) : ∀ (ps : List Box) (z : Int), undPs O ps (row - z) path = match pickP row z ps with
    | none => (path, .non)
    | some (p, z') => undB O p (row - z') path
  | [], z => by rw [undPs, pickP]
  | p :: r, z => by
    rw [undPs, pickP]
    by_cases h : row - z < p.hgt
    · rw [if_pos h, if_pos h]
    · rw [if_neg h, if_neg h]
      have e : row - z - p.hgt = row - (z + p.hgt) := by omega
      rw [e]
      exact undPs_pick O row path r (z + p.hgt)
theorem winOk_at {O : List (Int × Int)} {W : List (Int × D)} {b : Box} {t f e : Int} (h : WinOk O W b t f e) : lookD W b.num = some (tri t f e) := by
  cases b with
  | block n k => rw [WinOk] at h; exact h
  | scroller n k ps => rw [WinOk] at h; exact h.1
theorem pick_ok {O : List (Int × Int)} {W : List (Int × D)} {row f e : Int} (h1 : f ≤ row) (h2 : row < e) : ∀ {ps : List Box} {z z' : Int} {p : Box}, z ≤ row → WinPsOk O W ps z f e → pickP row z ps = some (p, z') →
    p ∈ ps ∧ z' ≤ row ∧ WinOk O W p z' (max z' f) (min (z' + p.hgt) e) ∧ max z' f ≤ row ∧ row < min (z' + p.hgt) e
  | [], _, _, _, _, _, h => by rw [pickP] at h; cases h
  | q :: r, z, z', p, hz, hw, h => by
    rw [WinPsOk] at hw
    rw [pickP] at h
    by_cases c : row - z < q.hgt
    · rw [if_pos c] at h
      cases h
      exact ⟨by simp, hz, hw.1, by omega, by omega⟩
    · rw [if_neg c] at h
      obtain ⟨a1, a2⟩ := pick_ok h1 h2 (by omega) hw.2 h
      exact ⟨List.mem_cons_of_mem _ a1, a2⟩
/-- what is under a row: the reckoning gone on with from a part -/
def goOn (O : List (Int × Int)) (row : Int) (path : List Int) : Option (Box × Int) → List Int × D
  | none => (path, .non)
  | some (p, z) => undB O p (row - z) path
theorem goOn_scroller (O : List (Int × Int)) (row z : Int) (path : List Int) (n h : Int) (ps : List Box) : goOn O row path (some (.scroller n h ps, z)) = goOn O row (n :: path) (pickP row (z - gI O n) ps) := by
  rw [goOn, undB]
  have e : row - z + gI O n = row - (z - gI O n) := by omega
  rw [e, undPs_pick]
  cases pickP row (z - gI O n) ps with
  | none => rfl
  | some x => rfl
/-! ### a row has a block of the picture just if it is under it -/
def thereOf : D → List Int
  | .int n => [n]
  | _ => []
def hasN (W : List (Int × D)) (row : Int) (n : Int) : Bool := match lookD W n with
  | some (.tup [_, .int f, .int e]) => decide (f ≤ row ∧ row < e)
  | _ => false
def hasD (row : Int) : D → Bool := fun x => match x with
  | .tup [_, _, .int f, .int e] => decide (f ≤ row ∧ row < e)
  | _ => false
def fstD : D → D := fun x => match x with
  | .tup (a :: _) => a
  | _ => .non
def thereL (W : List (Int × D)) (row : Int) (l : List Box) : List Int := ((l.filter fun p => !p.isS).map Box.num).filter (hasN W row)
theorem thereL_app (W : List (Int × D)) (row : Int) (a b : List Box) : thereL W row (a ++ b) = thereL W row a ++ thereL W row b := by
  unfold thereL
  rw [List.filter_append, List.map_append, List.filter_append]
theorem hasN_tri {W : List (Int × D)} {row n t f e : Int} (h : lookD W n = some (tri t f e)) : hasN W row n = decide (f ≤ row ∧ row < e) := by
  unfold hasN
  rw [h]
  rfl
mutual
theorem there_out (O : List (Int × Int)) {W : List (Int × D)} {row : Int} : ∀ {b : Box} {t f e : Int}, WinOk O W b t f e → ¬ (f ≤ row ∧ row < e) → thereL W row b.all = []
  | .block n h, t, f, e, k, c => by
    rw [WinOk] at k
    simp [thereL, Box.all, Box.isS, Box.num, hasN_tri k]
    omega
  | .scroller n h ps, t, f, e, k, c => by
    rw [WinOk] at k
    have := there_outs O k.2 (.inl c)
    rw [Box.all]
    exact this
theorem there_outs (O : List (Int × Int)) {W : List (Int × D)} {row : Int} : ∀ {ps : List Box} {z f e : Int}, WinPsOk O W ps z f e → ¬ (f ≤ row ∧ row < e) ∨ (row < z ∧ ∀ p ∈ ps, 0 ≤ p.hgt) → thereL W row (alls ps) = []
  | [], _, _, _, _, _ => rfl
  | p :: r, z, f, e, k, c => by
    rw [WinPsOk] at k
    rw [alls, thereL_app, there_out O k.1 (by omega), there_outs O k.2 (c.imp id fun ⟨c1, c2⟩ => ⟨by have := c2 p (by simp); omega, fun q hq => c2 q (by simp [hq])⟩)]
    rfl
end
mutual
theorem there_in {O : List (Int × Int)} (hO : ∀ k, 0 ≤ gI O k) {W : List (Int × D)} {row : Int} : ∀ {b : Box} {t f e : Int} (path : List Int), WinOk O W b t f e → (∀ p ∈ b.all, 0 ≤ p.hgt) → t ≤ row → f ≤ row → row < e →
    thereL W row b.all = thereOf (undB O b (row - t) path).2
  | .block n h, t, f, e, path, k, _, _, c1, c2 => by
    rw [WinOk] at k
    simp [thereL, Box.all, Box.isS, Box.num, hasN_tri k, undB, thereOf, c1, c2]
  | .scroller n h ps, t, f, e, path, k, hh, ct, c1, c2 => by
    rw [WinOk] at k
    have hn := hO n
    rw [Box.all] at hh
    have := there_ins hO (n :: path) k.2 (fun p hp => hh p (List.mem_cons_of_mem _ hp)) (by omega) c1 c2
    rw [undB, show row - t + gI O n = row - (t - gI O n) by omega, ← this, Box.all]
    rfl
theorem there_ins {O : List (Int × Int)} (hO : ∀ k, 0 ≤ gI O k) {W : List (Int × D)} {row : Int} : ∀ {ps : List Box} {z f e : Int} (path : List Int), WinPsOk O W ps z f e → (∀ p ∈ alls ps, 0 ≤ p.hgt) → z ≤ row → f ≤ row → row < e →
    thereL W row (alls ps) = thereOf (undPs O ps (row - z) path).2
  | [], _, _, _, _, _, _, _, _, _ => rfl
  | p :: r, z, f, e, path, k, hh, cz, c1, c2 => by
    rw [WinPsOk] at k
    rw [alls] at hh
    have hp : 0 ≤ p.hgt := hh p (by rw [all_eq]; simp)
    have hr : ∀ q ∈ r, 0 ≤ q.hgt := fun q hq => hh q (List.mem_append_right _ (by rw [alls_flat]; exact List.mem_flatMap.mpr ⟨q, hq, by rw [all_eq]; simp⟩))
    rw [alls, thereL_app, undPs]
    by_cases c : row - z < p.hgt
    · rw [if_pos c, there_in hO path k.1 (fun q hq => hh q (List.mem_append_left _ hq)) cz (by omega) (by omega), there_outs O k.2 (.inr ⟨by omega, hr⟩), List.append_nil]
    · rw [if_neg c, there_out O k.1 (by omega), List.nil_append, there_ins hO path k.2 (fun q hq => hh q (List.mem_append_right _ hq)) (by omega) c1 c2]
      rw [show row - z - p.hgt = row - (z + p.hgt) by omega]
end
theorem there_root {O : List (Int × Int)} (hO : ∀ k, 0 ≤ gI O k) {b : Box} {row : Int} (hb : b.isS = true) (nd : (b.all.map Box.num).Nodup) (hh : ∀ p ∈ b.all, 0 ≤ p.hgt) (h0 : 0 ≤ row) (h1 : row < b.hgt) :
    thereL (winsOf O b) row b.all = thereOf (undB O b row []).2 := by
  have := there_in hO (row := row) [] (winB_ok O b 0 0 b.hgt [] nd) hh h0 h0 h1
  rw [show row - 0 = row by omega] at this
  exact this
theorem there_pict {W : List (Int × D)} {row : Int} : ∀ l : List Int, (∀ n ∈ l, IsTri W n) → (((((l.map D.int).filter (visN W)).map (entN W)).filter (hasD row)).map fstD) = (l.filter (hasN W row)).map D.int
  | [], _ => rfl
  | n :: r, h => by
    obtain ⟨t, f, e, ht⟩ := h n (by simp)
    have ih := there_pict (W := W) (row := row) r fun m hm => h m (by simp [hm])
    have hv : visN W (.int n) = decide (f < e) := by simp [visN, ht, tri]
    have he : entN W (.int n) = .tup [.int n, .int t, .int f, .int e] := by simp [entN, ht, tri]
    rw [List.map_cons, List.filter_cons, List.filter_cons, hv, hasN_tri ht]
    by_cases c : f < e
    · rw [if_pos (decide_eq_true c), List.map_cons, List.filter_cons, he]
      show List.map fstD (if decide (f ≤ row ∧ row < e) = true then _ else _) = _
      by_cases c2 : f ≤ row ∧ row < e
      · rw [if_pos (decide_eq_true c2), if_pos (decide_eq_true c2), List.map_cons, List.map_cons, ih]
        rfl
      · rw [if_neg (by simpa using c2), if_neg (by simpa using c2), ih]
    · rw [if_neg (by simpa using c), if_neg (by simp; omega), ih]
mutual
theorem und_kind (O : List (Int × Int)) : ∀ (b : Box) (r : Int) (path : List Int), (undB O b r path).2 = .non ∨ ∃ n, (undB O b r path).2 = .int n
  | .block n h, r, path => .inr ⟨n, rfl⟩
  | .scroller n h ps, r, path => by rw [undB]; exact unds_kind O ps _ _
theorem unds_kind (O : List (Int × Int)) : ∀ (ps : List Box) (r : Int) (path : List Int), (undPs O ps r path).2 = .non ∨ ∃ n, (undPs O ps r path).2 = .int n
  | [], _, _ => .inl rfl
  | p :: rest, r, path => by
    rw [undPs]
    split
    · exact und_kind O p r path
    · exact unds_kind O rest _ path
end
theorem putD_mem {l : List (Int × D)} {k : Int} {d : D} {p : Int × D} (h : p ∈ putD l k d) : p.2 = d ∨ p ∈ l := by
  unfold putD at h
  split at h
  · obtain ⟨q, hq, e⟩ := List.mem_map.mp h
    split at e
    · exact .inl (by rw [← e])
    · exact .inr (e ▸ hq)
  · rcases List.mem_append.mp h with h | h
    · exact .inr h
    · simp at h
      exact .inl (by rw [h])
def AllTri (l : List (Int × D)) : Prop := ∀ p ∈ l, ∃ t f e, p.2 = tri t f e
theorem putD_allTri {l : List (Int × D)} {k t f e : Int} (h : AllTri l) : AllTri (putD l k (tri t f e)) := fun p hp => (putD_mem hp).elim (fun z => ⟨t, f, e, z⟩) (h p)
mutual
theorem winB_all (O : List (Int × Int)) : ∀ (b : Box) (t f e : Int) (acc : List (Int × D)), AllTri acc → AllTri (winB O b t f e acc)
  | .block n h, t, f, e, acc, k => by rw [winB]; exact putD_allTri k
  | .scroller n h ps, t, f, e, acc, k => by rw [winB]; exact winPs_all O ps _ _ _ _ (putD_allTri k)
theorem winPs_all (O : List (Int × Int)) : ∀ (ps : List Box) (z f e : Int) (acc : List (Int × D)), AllTri acc → AllTri (winPs O ps z f e acc)
  | [], _, _, _, _, k => by rw [winPs]; exact k
  | p :: r, z, f, e, acc, k => by rw [winPs]; exact winPs_all O r _ _ _ _ (winB_all O p _ _ _ _ k)
end
theorem winsOf_all (O : List (Int × Int)) (b : Box) : AllTri (winsOf O b) := winB_all O b _ _ _ _ fun _ h => by cases h
theorem winsOf_len (O : List (Int × Int)) (b : Box) : (winsOf O b).length ≤ b.all.length := by
  have := winB_len O b 0 0 b.hgt []
  rw [List.length_nil, Nat.zero_add] at this
  exact this
theorem look_mem {l : List (Int × D)} {k : Int} (h : k ∈ l.map (·.1)) : ∃ p ∈ l, lookD l k = some p.2 := by
  unfold lookD
  obtain ⟨p, hp, e⟩ := List.mem_map.mp h
  cases z : l.find? (fun p => decide (p.1 = k)) with
  | none =>
    rw [List.find?_eq_none] at z
    exact absurd (by simpa using e) (z p hp)
  | some q => exact ⟨q, List.mem_of_find?_eq_some z, rfl⟩
theorem pictD_len (W : List (Int × D)) (b : Box) : (pictD W b).length ≤ b.all.length := by
  unfold pictD
  rw [List.length_map]
  refine Nat.le_trans (List.length_filter_le _ _) ?_
  rw [List.length_map]
  exact blocks_len b
theorem pictD_mem {O : List (Int × Int)} {b : Box} {x : D} (h : x ∈ pictD (winsOf O b) b) : ∃ n t f e : Int, x = .tup [.int n, .int t, .int f, .int e] := by
  unfold pictD at h
  obtain ⟨y, hy, rfl⟩ := List.mem_map.mp h
  obtain ⟨hy, _⟩ := List.mem_filter.mp hy
  obtain ⟨n, hn, rfl⟩ := List.mem_map.mp hy
  obtain ⟨p, hp, rfl⟩ := blocks_mem hn
  obtain ⟨t, f, e, ht⟩ := winsOf_tri O hp
  exact ⟨p.num, t, f, e, by simp [entN, ht, tri]⟩
/-! ### places and parts, two by two -/
theorem updC_self {C : CH} {a : Addr} {c : Cell} (h : C a = some c) : updC C a c = C := by
  funext z
  by_cases e : z = a
  · subst e; rw [updC_same, h]
  · rw [updC_ne e]
theorem zip_cons {z : Int} {post : List Box} {x : D} {xs : List D} (h : x :: xs = zipD ((placesL z post).map D.int) (encBs post)) : ∃ p r, post = p :: r ∧ x = .tup [.int z, encB p] ∧ xs = zipD ((placesL (z + p.hgt) r).map D.int) (encBs r) := by
  cases post with
  | nil => cases h
  | cons p r =>
    rw [placesL, encBs] at h
    injection h with h1 h2
    exact ⟨p, r, rfl, h1, h2⟩
theorem zip_nil {z : Int} {post : List Box} (h : [] = zipD ((placesL z post).map D.int) (encBs post)) : post = [] := by
  cases post with
  | nil => rfl
  | cons p r => rw [placesL, encBs] at h; cases h
def AllIn (O : List (Int × Int)) (b : Box) : Prop := ∀ s ∈ b.all, s.isS = true → s.num ∈ keysI O
end Dv

set_option maxRecDepth 100000
/-! Anchors, and what becomes of the offsets. -/
namespace Dv
open PySem L2
def anchorL (o : Int) : Int → List Box → Option Int
  | _, [] => none
  | z, p :: r => if o < z + p.hgt then some p.num else anchorL o (z + p.hgt) r
def anchorB (s : Box) (o : Int) : Option Int := if o = 0 then none else anchorL o 0 s.parts
def placeL (n : Int) : Int → List Box → Option Int
  | _, [] => none
  | z, p :: r => if p.num = n then some z else placeL n (z + p.hgt) r
def placeB (s : Box) (n : Int) : Option Int := placeL n 0 s.parts
theorem anchor_place {o n : Int} : ∀ {ps : List Box} {z : Int}, anchorL o z ps = some n → ∃ v, placeL n z ps = some v
  | [], _, h => by rw [anchorL] at h; cases h
  | p :: r, z, h => by
    rw [anchorL] at h
    rw [placeL]
    by_cases e : p.num = n
    · exact ⟨z, by rw [if_pos e]⟩
    · rw [if_neg e]
      split at h
      · exact absurd (Option.some.inj h) e
      · exact anchor_place h
theorem anchorB_place {s : Box} {o n : Int} (h : anchorB s o = some n) : ∃ v, placeB s n = some v := by
  unfold anchorB at h
  split at h
  · cases h
  · exact anchor_place h
def offAfter (before : Box) (o : Int) (s : Box) : Int := match anchorB before o with
  | none => o
  | some n => match placeB s n with
    | none => o
    | some z => o + z - (placeB before n).getD 0
/-- what an edit makes of the offset of a scroller -/
def after1 (doc : Box) (O : List (Int × Int)) (s : Box) : Option Int := match findB doc.all s.num with
  | some before => if before.isS then some (offAfter before (gI O s.num) s) else none
  | none => none
def afterL (doc : Box) (O : List (Int × Int)) (l : List Box) (acc : List (Int × Int)) : List (Int × Int) :=
  l.foldl (fun acc s => match after1 doc O s with
    | some v => putI acc s.num v
    | none => acc) acc
theorem afterL_snoc (doc : Box) (O : List (Int × Int)) (l : List Box) (s : Box) (acc : List (Int × Int)) : afterL doc O (l ++ [s]) acc = match after1 doc O s with
    | some v => putI (afterL doc O l acc) s.num v
    | none => afterL doc O l acc := by
  unfold afterL
  rw [List.foldl_append]
  rfl
theorem afterL_len (doc : Box) (O : List (Int × Int)) : ∀ (l : List Box) (acc : List (Int × Int)), (afterL doc O l acc).length ≤ acc.length + l.length
  | [], acc => Nat.le_refl _
  | p :: r, acc => by
    have e : afterL doc O (p :: r) acc = afterL doc O r (match after1 doc O p with
      | some v => putI acc p.num v
      | none => acc) := rfl
    rw [e, List.length_cons]
    cases after1 doc O p with
    | none => have := afterL_len doc O r acc; simp only; omega
    | some v =>
      have h := afterL_len doc O r (putI acc p.num v)
      have h2 := len_put acc p.num v
      simp only
      omega
theorem afterL_other (doc : Box) (O : List (Int × Int)) (k : Int) : ∀ (l : List Box) (acc : List (Int × Int)), k ∉ l.map Box.num → getI (afterL doc O l acc) k = getI acc k
  | [], acc, _ => rfl
  | p :: r, acc, h => by
    rw [List.map_cons, List.mem_cons, not_or] at h
    have e : afterL doc O (p :: r) acc = afterL doc O r (match after1 doc O p with
      | some v => putI acc p.num v
      | none => acc) := rfl
    rw [e, afterL_other doc O k r _ h.2]
    cases after1 doc O p with
    | none => rfl
    | some v =>
      show getI (putI acc p.num v) k = _
      rw [getI_put, if_neg h.1]
theorem afterL_at (doc : Box) (O : List (Int × Int)) : ∀ (l : List Box) (acc : List (Int × Int)), (l.map Box.num).Nodup → (∀ s ∈ l, getI acc s.num = none) → ∀ s ∈ l, getI (afterL doc O l acc) s.num = after1 doc O s
  | [], _, _, _, _, h => by cases h
  | p :: r, acc, hn, ha, s, hs => by
    rw [List.map_cons, List.nodup_cons] at hn
    have e : afterL doc O (p :: r) acc = afterL doc O r (match after1 doc O p with
      | some v => putI acc p.num v
      | none => acc) := rfl
    rw [e]
    rcases List.mem_cons.mp hs with rfl | hs
    · rw [afterL_other doc O _ r _ hn.1]
      cases h1 : after1 doc O s with
      | none => exact ha s (by simp)
      | some v =>
        show getI (putI acc s.num v) s.num = _
        rw [getI_put, if_pos rfl]
    · refine afterL_at doc O r _ hn.2 (fun t ht => ?_) s hs
      cases h1 : after1 doc O p with
      | none => exact ha t (by simp [ht])
      | some v =>
        show getI (putI acc p.num v) t.num = _
        rw [getI_put, if_neg]
        · exact ha t (by simp [ht])
        · intro z
          exact hn.1 (z ▸ List.mem_map.mpr ⟨t, ht, rfl⟩)
def afterB (doc : Box) (O : List (Int × Int)) (later : Box) : List (Int × Int) := fitB (afterL doc O (scrsB later) []) later
/-- as the law reckons it -/
def afterLaw (doc : Box) (O : List (Int × Int)) (later : Box) : List (Int × Int) := (scrsB later).map fun s => (s.num, max 0 (min ((after1 doc O s).getD 0) (rangeB s)))
theorem after_same {doc later : Box} {O : List (Int × Int)} (h : (later.all.map Box.num).Nodup) : afterB doc O later = afterLaw doc O later := by
  unfold afterB afterLaw
  rw [fitB_map _ h]
  apply List.map_congr_left
  intro s hs
  rw [afterL_at doc O _ [] (nodup_scrs h) (fun s _ => rfl) s hs]
  have := rangeB_nonneg s
  congr 1
  omega
theorem findB_is : ∀ {l : List Box} {i : Int} {p : Box}, findB l i = some p → p ∈ l ∧ p.num = i
  | q :: l, i, p, h => by
    rw [findB] at h
    split at h
    · rename_i e
      cases h
      exact ⟨by simp, e⟩
    · obtain ⟨a, b⟩ := findB_is h
      exact ⟨List.mem_cons_of_mem _ a, b⟩
/-! ### edits -/
inductive Edit where
  | ins (n i : Int) (b : Box)
  | rem (n : Int)
  | res (n h : Int)
def encE : Edit → D
  | .ins n i b => .tup [.str "insert", .int n, .int i, encB b]
  | .rem n => .tup [.str "remove", .int n]
  | .res n h => .tup [.str "resize", .int n, .int h]
def Edit.num : Edit → Int
  | .ins n _ _ => n
  | .rem n => n
  | .res n _ => n
def Edit.keep : Edit → Box → Bool
  | .rem n, p => decide (p.num ≠ n)
  | _, _ => true
def Edit.put : Edit → Int → List Box → List Box
  | .ins m i b, n, l => if n = m then l.take i.toNat ++ [b] ++ l.drop i.toNat else l
  | _, _, l => l
def Edit.newH : Edit → Int → Int → Int
  | .res m k, n, h => if n = m then k else h
  | _, _, h => h
mutual
/-- a box with the edit done, wherever its number stands -/
def withB (e : Edit) : Box → Box
  | .block n h => .block n (e.newH n h)
  | .scroller n h ps => .scroller n (e.newH n h) (e.put n (withs e ps))
def withs (e : Edit) : List Box → List Box
  | [] => []
  | p :: r => if e.keep p then withB e p :: withs e r else withs e r
end
theorem withs_snoc (e : Edit) (p : Box) : ∀ l : List Box, withs e (l ++ [p]) = withs e l ++ if e.keep p then [withB e p] else []
  | [] => by
    rw [List.nil_append, withs, withs]
    split <;> rfl
  | q :: l => by
    rw [List.cons_append, withs, withs, withs_snoc e p l]
    split <;> rfl
theorem withs_len (e : Edit) : ∀ l : List Box, (withs e l).length ≤ l.length
  | [] => Nat.le_refl _
  | p :: r => by
    have := withs_len e r
    rw [withs]
    split <;> simp <;> omega
def Edit.xlev : Edit → Nat
  | .ins _ _ b => b.lev
  | _ => 0
def Edit.xlen : Edit → Nat
  | .ins _ _ b => b.all.length
  | _ => 0
theorem levs_app : ∀ a b : List Box, levs (a ++ b) = max (levs a) (levs b)
  | [], b => by rw [List.nil_append, levs]; omega
  | p :: a, b => by rw [List.cons_append, levs, levs, levs_app a b]; omega
theorem put_lev (e : Edit) (n : Int) (l : List Box) : levs (e.put n l) ≤ max (levs l) e.xlev := by
  cases e with
  | ins m i b =>
    rw [Edit.put, Edit.xlev]
    split
    · have h := levs_app (l.take i.toNat) (l.drop i.toNat)
      rw [List.take_append_drop] at h
      rw [levs_app, levs_app, levs, levs]
      omega
    · omega
  | rem m => show levs l ≤ _; omega
  | res m h => show levs l ≤ _; omega
theorem put_len (e : Edit) (n : Int) (l : List Box) : (alls (e.put n l)).length ≤ (alls l).length + e.xlen := by
  cases e with
  | ins m i b =>
    rw [Edit.put, Edit.xlen]
    split
    · have h := alls_append (l.take i.toNat) (l.drop i.toNat)
      rw [List.take_append_drop] at h
      rw [alls_append, alls_append, alls, alls, h]
      simp
      omega
    · omega
  | rem m => exact Nat.le_add_right _ _
  | res m h => exact Nat.le_add_right _ _
mutual
theorem with_lev (e : Edit) : ∀ b : Box, (withB e b).lev ≤ b.lev + e.xlev
  | .block n h => by rw [withB, Box.lev, Box.lev]; omega
  | .scroller n h ps => by
    have h1 := withs_lev e ps
    have h2 := put_lev e n (withs e ps)
    rw [withB, Box.lev, Box.lev]
    omega
theorem withs_lev (e : Edit) : ∀ ps : List Box, levs (withs e ps) ≤ levs ps + e.xlev
  | [] => by rw [withs, levs]; omega
  | p :: r => by
    have h1 := with_lev e p
    have h2 := withs_lev e r
    rw [withs, levs]
    split
    · rw [levs]; omega
    · omega
end
mutual
theorem with_len (e : Edit) : ∀ b : Box, (withB e b).all.length ≤ b.all.length * (1 + e.xlen)
  | .block n h => by rw [withB, Box.all, Box.all]; simp
  | .scroller n h ps => by
    have h1 := withs_alen e ps
    have h2 := put_len e n (withs e ps)
    rw [withB, Box.all, Box.all, List.length_cons, List.length_cons, Nat.add_mul]
    omega
theorem withs_alen (e : Edit) : ∀ ps : List Box, (alls (withs e ps)).length ≤ (alls ps).length * (1 + e.xlen)
  | [] => by rw [withs, alls]; simp
  | p :: r => by
    have h1 := with_len e p
    have h2 := withs_alen e r
    rw [withs, alls, List.length_append, Nat.add_mul]
    split
    · rw [alls, List.length_append]; omega
    · omega
end
theorem with_num (e : Edit) (b : Box) : (withB e b).num = b.num := by cases b <;> rfl
theorem with_isS (e : Edit) (b : Box) : (withB e b).isS = b.isS := by cases b <;> rfl
def Edit.isIns : Edit → Bool
  | .ins _ _ _ => true
  | _ => false
/-- no document comes out whatever the boxes are -/
def Edit.bad (e : Edit) (b s : Box) : Bool := match e with
  | .ins _ i _ => !(decide (0 ≤ i) && decide (i ≤ s.parts.length))
  | .rem n => decide (n = b.num)
  | .res _ _ => false
def editR (b : Box) (e : Edit) : Str ⊕ Box := match findB b.all e.num with
  | none => .inl "none"
  | some s => if e.isIns && !s.isS then .inl "block" else if e.bad b s then .inl "refused" else if isDoc (withB e b) then .inr (withB e b) else .inl "refused"
def encR : Str ⊕ Box → D
  | .inl z => .str z
  | .inr b => encB b
theorem editR_doc {b l : Box} {e : Edit} (h : editR b e = .inr l) : l = withB e b ∧ isDoc l = true := by
  unfold editR at h
  split at h
  · cases h
  · split at h
    · cases h
    · split at h
      · cases h
      · split at h
        · rename_i hd
          cases h
          exact ⟨rfl, hd⟩
        · cases h
/-- what is drawn as an edit -/
def Edit.Ok : Edit → Prop
  | .ins _ i b => -1 ≤ i ∧ i ≤ 1000 ∧ b.lev ≤ 3 ∧ b.all.length ≤ 3
  | _ => True
theorem Edit.Ok.xlev {e : Edit} (h : e.Ok) : e.xlev ≤ 3 := by
  cases e with
  | ins n i b => exact h.2.2.1
  | rem n => exact Nat.zero_le _
  | res n k => exact Nat.zero_le _
theorem Edit.Ok.xlen {e : Edit} (h : e.Ok) : e.xlen ≤ 3 := by
  cases e with
  | ins n i b => exact h.2.2.2
  | rem n => exact Nat.zero_le _
  | res n k => exact Nat.zero_le _
/-- .. with greater boxes -/
def Edit.OkW : Edit → Prop
  | .ins _ i b => -1 ≤ i ∧ i ≤ 1000 ∧ b.lev ≤ 5 ∧ b.all.length ≤ 50
  | _ => True
theorem Edit.Ok.w {e : Edit} (h : e.Ok) : e.OkW := by
  cases e with
  | ins n i b => exact ⟨h.1, h.2.1, by have := h.2.2.1; omega, by have := h.2.2.2; omega⟩
  | rem n => trivial
  | res n k => trivial
theorem Edit.OkW.xlev {e : Edit} (h : e.OkW) : e.xlev ≤ 5 := by
  cases e with
  | ins n i b => exact h.2.2.1
  | rem n => exact Nat.zero_le _
  | res n k => exact Nat.zero_le _
theorem Edit.OkW.xlen {e : Edit} (h : e.OkW) : e.xlen ≤ 50 := by
  cases e with
  | ins n i b => exact h.2.2.2
  | rem n => exact Nat.zero_le _
  | res n k => exact Nat.zero_le _
theorem isDoc_facts {b : Box} (h : isDoc b = true) : b.isS = true ∧ b.all.length ≤ 40 ∧ b.deep ≤ 4 ∧ (b.all.map Box.num).Nodup ∧ (∀ p ∈ b.all, 1 ≤ p.num ∧ p.num ≤ 999) ∧ ∀ p ∈ b.all, 0 ≤ p.hgt ∧ p.hgt ≤ 1000 := of_decide_eq_true h
mutual
theorem lev_deep : ∀ b : Box, b.lev ≤ b.deep + 1
  | .block n h => by rw [Box.lev]; omega
  | .scroller n h ps => by
    have := levs_deeps ps
    rw [Box.lev, Box.deep]
    omega
theorem levs_deeps : ∀ ps : List Box, levs ps ≤ deeps ps + 1
  | [] => by rw [levs]; omega
  | p :: r => by
    have h1 := lev_deep p
    have h2 := levs_deeps r
    rw [levs, deeps]
    omega
end
/-! ### offsets of a document's scrollers -/
structure OffsG (b : Box) (O : List (Int × Int)) : Prop where
  keys : keysI O = (scrsB b).map Box.num
  pos : ∀ k, 0 ≤ gI O k
theorem OffsG.allIn {b : Box} {O : List (Int × Int)} (h : OffsG b O) : AllIn O b := fun s hs hss => by
  rw [h.keys]
  exact List.mem_map.mpr ⟨s, List.mem_filter.mpr ⟨hs, hss⟩, rfl⟩
theorem after1_in {b s : Box} {O : List (Int × Int)} (h : OffsG b O) (nd : (b.all.map Box.num).Nodup) (hs : s.num ∈ keysI O) :
    ∃ q, findB b.all s.num = some q ∧ q.isS = true ∧ q ∈ b.all ∧ after1 b O s = some (offAfter q (gI O s.num) s) := by
  rw [h.keys] at hs
  obtain ⟨q, hq, e⟩ := List.mem_map.mp hs
  obtain ⟨h1, h2⟩ := List.mem_filter.mp hq
  have hf := findB_of nd h1
  rw [e] at hf
  refine ⟨q, hf, h2, h1, ?_⟩
  unfold after1
  rw [hf]
  simp only [h2, if_true]
theorem after1_out {b s : Box} {O : List (Int × Int)} (h : OffsG b O) (hs : s.num ∉ keysI O) : after1 b O s = none := by
  unfold after1
  cases e : findB b.all s.num with
  | none => rfl
  | some q =>
    obtain ⟨h1, h2⟩ := findB_is e
    cases hq : q.isS with
    | false => simp [hq]
    | true =>
      refine absurd ?_ hs
      rw [h.keys, ← h2]
      exact List.mem_map.mpr ⟨q, List.mem_filter.mpr ⟨h1, hq⟩, rfl⟩
theorem gI_out {O : List (Int × Int)} {k : Int} (h : k ∉ keysI O) : (getI O k).getD 0 = 0 := by
  rw [getI_none.mpr h]
  rfl
end Dv

set_option maxRecDepth 100000
set_option maxHeartbeats 1000000
/-! Errors: defs that they may leave, raise, try. -/
namespace Dv
open PySem PySem.Spec L2
/-- an error: of an own class without fields; or with fields of its own -/
inductive Exn where
  | own (n : Str)
  | fld (n : Str) (fs : List (Str × D))
inductive ExnOk (mg : Str → Option Value) (B : Hp) : Exn → Value → Option Addr → Prop
  | own {n : Str} {c : Value} (h : mg n = some c) : ExnOk mg B (.own n) c none
  | fld {n : Str} {c : Value} {a : Addr} {vs : List (Str × V)} {fs : List (Str × D)} (h : mg n = some c) (ha : B a = some (.xd vs)) (r : RepF B vs fs) : ExnOk mg B (.fld n fs) c (some a)
abbrev SpX := List D → CH → (D → CH → Prop) → (Exn → CH → Prop) → Prop
def spX (mg : Str → Option Value) (f : SpX) : Sp := fun vs H Q E => ∃ (B F : Hp) (C : CH) (ds : List D) (P : D → CH → Prop) (PX : Exn → CH → Prop), Rel B C F H ∧ Reps B vs ds ∧ f ds C P PX ∧
  (∀ v d B' C' H', Same B B' → Rel B' C' F H' → Rep B' v d → P d C' → Q v H') ∧ ∀ x c d B' C' H', Same B B' → Rel B' C' F H' → ExnOk mg B' x c d → PX x C' → E c d H'
/-- what is wished of errors is so where PX is -/
def XOk (mg : Str → Option Value) (g : Gr) (E' : St → XK) (E : EnvD) (PX : Exn → CH → Prop) : Prop :=
  ∀ (B F : Hp) (σ : St) (H : Hp) (C : CH), Sb g B F → Rel B C F H → RelE B σ E → ∀ x c d, ExnOk mg B x c d → PX x C → E' σ c d H
/-- .. at any slots -/
def XOkF (mg : Str → Option Value) (g : Gr) (E' : XK) (PX : Exn → CH → Prop) : Prop :=
  ∀ (B F H : Hp) (C : CH), Sb g B F → Rel B C F H → ∀ x c d, ExnOk mg B x c d → PX x C → E' c d H
theorem XOkF.ok {mg : Str → Option Value} {g : Gr} {E' : XK} {E : EnvD} {PX : Exn → CH → Prop} (h : XOkF mg g E' PX) : XOk mg g (fun _ => E') E PX := fun B F _ H C sb rl _ x c d ok p => h B F H C sb rl x c d ok p
theorem w_callX {mg : Str → Option Value} {B0 : Gr} {f : SpX} {E' : St → XK} {tA : TA} {E : EnvD} {C : CH} {P : D → CH → Prop} {PX : Exn → CH → Prop} (hX : XOk mg B0 E' E PX) (h : WA B0 tA E C fun ds C1 => f ds C1 P PX) :
    W B0 (tCallS (spX mg f) E' tA) E C P := fun B F σ H sb rl re Q q =>
  h B F σ H sb rl re _ fun vs ds B1 C1 H1 e1 rl1 rp p => ⟨B1, F, C1, ds, P, PX, rl1, rp, p, fun v d B' C' H' e => q v d B' C' H' (e1.trans e),
    fun x c d B' C' H' e rl' ok px => hX B' F σ H' C' (sb.trans (e1.trans e)) rl' (re.mono (e1.trans e)) x c d ok px⟩
section
variable {P : Program} {w : World} {K : PySem.W.Frag} {mg : Str → Option Value} {base : Heap}
def HasX (P : Program) (w : World) (K : PySem.W.Frag) (mg : Str → Option Value) (base : Heap) (k : Nat) (x : Str) (ps : List Str) (sp : Sp) : Prop :=
  ∃ f fd, FnOk P w K mg base (L2.CX P w) k f fd ps sp ∧ mg x = some (.ref f) ∧ PySem.W.keepIn K (.ref f) = true ∧ Binds K fd ps []
theorem HasX.mono {j k : Nat} {x : Str} {ps : List Str} {sp : Sp} (h : HasX P w K mg base j x ps sp) (l : j ≤ k) : HasX P w K mg base k x ps sp := by
  obtain ⟨f, fd, a, b, c, d⟩ := h
  exact ⟨f, fd, a.mono l, b, c, d⟩
theorem has_ofX {x : Str} {st : Stmt} {N ps : List Str} {k : Nat} {g : SpX} (Df : DefAt K mg x st ps) (S : FnScope N ps (defScope st)) (len : ∀ ds C P PX, g ds C P PX → ds.length = ps.length)
    (hbody : ∀ (f : Addr) (cdv : Value) (A : Around) (outer : List PySem.Env) (s : Shared) (H : Hp) (E : XK), Room k (A.deeper (PyProof.Rows.envOfC x (defScope st) s.heap.objs.size f cdv)) →
      ∃ t, PSs (cxOf (L2.CX P w) P w K mg base N x (defScope st) f cdv A outer s H E) (defBody st) t ∧ ∀ (B : Gr) ds C PD PX, g ds C PD PX → XOkF mg B E PX → WS B t (startD N.length ds) C { nx := fun _ C' => PD .non C', rt := PD }) :
    HasX P w K mg base (k + 1) x ps (spX mg g) := by
  obtain ⟨f, fd, F, hm, hb⟩ := Df
  refine ⟨f, fd, F.okX S ?_ ?_, hm, F.kp, hb⟩
  · rintro vs H Q E ⟨B, F, C, ds, P, PX, _, rp, h, _⟩
    rw [rp.length]
    exact len _ _ _ _ h
  · intro cdv A outer s H vs Q E hr h
    obtain ⟨t, h1, h2⟩ := hbody f cdv A outer s H E hr
    obtain ⟨B, F, C, ds, P, PX, rl, rp, hg, q, qx⟩ := h
    refine ⟨t, h1, h2 ⟨B, F⟩ ds C P PX hg (fun B' F' H' C' sb rl' x c d ok p => qx x c d B' C' H' sb.1 (rl'.less sb.2) ok p) B F _ H (Sb.refl B F) rl (RelE.begin rp) _ ⟨?_, ?_, ?_, ?_⟩⟩
    · exact fun σ' E' B' C' H' e rl' _ p => q .non .non B' C' H' e rl' .non p
    · exact fun v d B' C' H' e rl' rp' p => q v d B' C' H' e rl' rp' p
    · exact fun _ _ _ _ _ _ _ _ z => z
    · exact fun _ _ _ _ _ _ _ _ z => z
end
section
variable {X : Cx} {x : Str} {ps : List Str} {sp : Sp} {k : Nat} {p pos : Pos} {e : Expr} {es : List Expr} {t : TA}
theorem pe_defX {W : WX} (h : HasX X.prog X.w X.K X.mg X.base k x ps sp) (hr : Room k X.A) (ha : PA X (e :: es) t) (tk : Takes X W) (hg : Gl X x := by rfl) (hdb : (x == ("__debug__" : Str)) = false := by decide)
    (he : starEach (e :: es) X.env = (false, eval e X.env) :: starEach es X.env := by rfl) (hpl : (backTo pos (starEach es X.env)).any (·.1) = false := by rfl) :
    PE X (.Call (.Name x p) (e :: es) [] pos) (tCallS sp (WE W) t) := by
  obtain ⟨f, fd, F, hm, hk, hb⟩ := h
  exact pe_callS F hr hg hm hk hb (fun σ => passAt tk σ) ha hdb he hpl
end
/-! ### raise -/
/-- an own class over ValueError, without a maker of its own -/
def ExcAt (K : PySem.W.Frag) (mg : Str → Option Value) (x : Str) : Prop := ∃ C, PySem.W.excIn K C [.type "ValueError", .type "Exception", .type "BaseException", .type "object"] "ValueError.__new__" = true ∧ mg x = some (.ref C) ∧ PySem.W.keepIn K (.ref C) = true ∧
  PySem.W.subIn K (.ref C) (.type "BaseException") = some true ∧ PySem.W.typeIn K (.ref C) = some (.type "type")
def clsOf (mg : Str → Option Value) (x : Str) : Value := (mg x).getD .none
theorem ExcAt.at {K : PySem.W.Frag} {mg : Str → Option Value} {x : Str} (h : ExcAt K mg x) : mg x = some (clsOf mg x) := by
  obtain ⟨C, _, h2, _⟩ := h
  unfold clsOf
  rw [h2]
  rfl
def tRaise (W : WX) (c : Value) : TS := fun _ σ H => W c none σ H
theorem ps_rs {X : Cx} {W : WX} {x m : Str} {j : Nat} {p p2 pos pos2 : Pos} (h : ExcAt X.K X.mg x) (tk : Takes X W) (hc : X.calm = true := by rfl) (hg : Gl X x := by rfl) (hdb : (x == ("__debug__" : Str)) = false := by decide) :
    PS X (.Raise (some (.Call (.Name x p) [.Constant (.str m) j p2] [] pos)) none pos2) (tRaise W (clsOf X.mg x)) := by
  have e := h.at
  obtain ⟨C, h1, h2, h3, h4, h5⟩ := h
  rw [h2] at e
  have r := ps_raise (W := W) (pos := pos2) hc tk (pmk_own (m := m) (j := j) (p := p) (p2 := p2) (pos := pos) PySem.F.excBase_ValueError h1 h2 h3 (raises_own h4 h5) hg hdb)
  rw [← Option.some.inj e]
  exact r
theorem ws_raise {K : PySem.W.Frag} {mg : Str → Option Value} {B0 : Gr} {W : WX} {x : Str} {E : EnvD} {C : CH} {D1 : EndD} {PX : Exn → CH → Prop} (hX : XOk mg B0 (WE W) E PX) (h : ExcAt K mg x) (k : PX (.own x) C) : WS B0 (tRaise W (clsOf mg x)) E C D1 :=
  fun B F σ H sb rl re Dn _ => hX B F σ H C sb rl re (.own x) _ none (.own h.at) k
/-! ### try -/
abbrev Hd := Value × (Addr → Value → Option Addr → TS)
def tTry (K : PySem.W.Frag) (tb : WX → TS) (Wout : WX) (l : List Hd) : TS := fun D σ H => tb (wMany K Wout D l) D σ H
/-- what the clauses do with an error -/
def HdD (K : PySem.W.Frag) (mg : Str → Option Value) (B0 : Gr) (E : EnvD) (D1 : EndD) (PXo : Exn → CH → Prop) : List Hd → Exn → CH → Prop
  | [], x, C => PXo x C
  | (c, ts) :: r, x, C => ∀ (B : Hp) (cls : Value) (d : Option Addr), ExnOk mg B x cls d → Same B0.b B → ∃ b, PySem.W.exmOne K cls c = some b ∧ (b = true → ∀ a, WS ⟨B, B0.f⟩ (ts a cls d) E C D1) ∧ (b = false → HdD K mg B0 E D1 PXo r x C)
theorem ws_try {K : PySem.W.Frag} {mg : Str → Option Value} {B0 : Gr} {tb : WX → TS} {Wout : WX} {l : List Hd} {E : EnvD} {C : CH} {D1 : EndD} {PXo : Exn → CH → Prop} (PX : Exn → CH → Prop) (ho : XOk mg B0 (WE Wout) E PXo)
    (hb : ∀ (B1 : Gr) (W : WX), XOk mg B1 (WE W) E PX → WS B1 (tb W) E C D1) (hl : ∀ x C1, PX x C1 → HdD K mg B0 E D1 PXo l x C1) : WS B0 (tTry K tb Wout l) E C D1 := fun B F σ H sb rl re Dn ok => by
  refine hb ⟨B, F⟩ _ (fun B2 F2 σ2 H2 C2 sb2 rl2 re2 x c d hx p => ?_) B F σ H (Sb.refl B F) rl re Dn ok
  have z := hl x C2 p
  clear hl hb
  induction l with
  | nil => exact ho B2 F2 σ2 H2 C2 ⟨sb.1.trans sb2.1, sb.2.trans sb2.2⟩ rl2 re2 x c d hx z
  | cons q r ih =>
    obtain ⟨c1, ts⟩ := q
    obtain ⟨b, h1, h2, h3⟩ := z B2 c d hx (sb.1.trans sb2.1)
    refine ⟨b, h1, fun hb a ha => ?_, fun hb => ih (h3 hb)⟩
    refine h2 hb a B2 F σ2 H2 ⟨Same.refl B2, sb.2⟩ (rl2.less sb2.2) re2 Dn ⟨?_, ?_, ?_, ?_⟩
    · exact fun σ' E1 B' C' H' s rl' re' k => ok.nx σ' E1 B' C' H' (sb2.1.trans s) rl' re' k
    · exact fun v d B' C' H' s rl' rp k => ok.rt v d B' C' H' (sb2.1.trans s) rl' rp k
    · exact fun σ' E1 B' C' H' s rl' re' k => ok.bk σ' E1 B' C' H' (sb2.1.trans s) rl' re' k
    · exact fun σ' E1 B' C' H' s rl' re' k => ok.ct σ' E1 B' C' H' (sb2.1.trans s) rl' re' k
end Dv

set_option maxRecDepth 100000
set_option maxHeartbeats 1000000
/-! Instances: fields, methods, makers. -/
namespace Dv
open PySem PySem.Spec L2
def clsA (mg : Str → Option Value) (x : Str) : Addr := match mg x with
  | some (.ref C) => C
  | _ => 0
structure ClsOk (K : PySem.W.Frag) (mg : Str → Option Value) (x : Str) (fs : List Str) : Prop where
  at_ : mg x = some (.ref (clsA mg x))
  cls : Cls K (clsA mg x)
  no : ∀ f ∈ fs, NoAttr K (clsA mg x) f
structure FldOk (K : PySem.W.Frag) (c : Addr) (f : Str) : Prop where
  cls : Cls K c
  no : NoAttr K c f
theorem ClsOk.fld {K : PySem.W.Frag} {mg : Str → Option Value} {x f : Str} {fs : List Str} (h : ClsOk K mg x fs) (hf : f ∈ fs) : FldOk K (clsA mg x) f := ⟨h.cls, h.no f hf⟩
def putFD (f : Str) (v : D) : List (Str × D) → List (Str × D)
  | [] => [(f, v)]
  | (g, x) :: r => if g = f then (g, v) :: r else (g, x) :: putFD f v r
theorem repF_look {B : Hp} {fs : List (Str × V)} {gs : List (Str × D)} (r : RepF B fs gs) {f : Str} {d : D} (h : gs.lookup f = some d) : ∃ v, fs.lookup f = some v ∧ Rep B v d := by
  induction r with
  | nil => cases h
  | @cons k v d' vs ds hv _ ih =>
    rw [List.lookup_cons] at h ⊢
    cases e : f == k with
    | true =>
      rw [e] at h
      cases h
      exact ⟨v, rfl, hv⟩
    | false =>
      rw [e] at h
      exact ih h
theorem repF_none {B : Hp} {fs : List (Str × V)} {gs : List (Str × D)} (r : RepF B fs gs) {f : Str} (h : gs.lookup f = none) : fs.lookup f = none := by
  induction r with
  | nil => rfl
  | @cons k v d' vs ds hv _ ih =>
    rw [List.lookup_cons] at h ⊢
    cases e : f == k with
    | true => rw [e] at h; cases h
    | false =>
      rw [e] at h
      exact ih h
theorem repF_put {B : Hp} {fs : List (Str × V)} {gs : List (Str × D)} (r : RepF B fs gs) {f : Str} {v : V} {d : D} (h : Rep B v d) : RepF B (putF f v fs) (putFD f d gs) := by
  induction r with
  | nil => exact .cons h .nil
  | @cons k v' d' vs ds hv r ih =>
    rw [putF, putFD]
    split
    · exact .cons h r
    · exact .cons hv ih
theorem repF_len {B : Hp} {fs : List (Str × V)} {gs : List (Str × D)} (r : RepF B fs gs) : fs.length = gs.length := by
  induction r with
  | nil => rfl
  | cons _ _ ih => rw [List.length_cons, List.length_cons, ih]
theorem rel_ins {B F H : Hp} {C : CH} {a c : Addr} {gs : List (Str × D)} (rl : Rel B C F H) (h : C a = some (.ins c gs)) : ∃ dx fs, H a = some (.ins c dx fs) ∧ RepF B fs gs := by
  obtain ⟨o, h1, h2⟩ := rl.own _ _ h
  cases h2 with
  | ins r => exact ⟨_, _, h1, r⟩
section
variable {B0 : Gr} {C : CH} {P : D → CH → Prop} {K : PySem.W.Frag} {E : EnvD} {ta tv te : TE} {t : TA} {f m : Str} {D1 : EndD} {c : Addr}
theorem w_fld (h : W B0 ta E C fun x C1 => ∃ a, x = .ref a ∧ ∃ c gs, C1 a = some (.ins c gs) ∧ FldOk K c f ∧ ∃ d, gs.lookup f = some d ∧ P d C1) : W B0 (tFld K ta f) E C P := fun B F σ H sb rl re Q q =>
  h B F σ H sb rl re _ fun v d B1 C1 H1 e1 rl1 rp ⟨a, hd, c, gs, hc, ok, d', hl, p⟩ => by
    subst hd
    cases rp
    obtain ⟨dx, fs, h1, r⟩ := rel_ins rl1 hc
    obtain ⟨v', hv, rv⟩ := repF_look r hl
    exact ⟨a, c, dx, fs, v', rfl, h1, ok.cls, ok.no, hv, q _ _ B1 C1 H1 e1 rl1 rv p⟩
theorem ws_fldS (h : W B0 tv E C fun y C1 => W B0 ta E C1 fun x C2 => ∃ a, x = .ref a ∧ ∃ c gs, C2 a = some (.ins c gs) ∧ FldOk K c f ∧ gs.length < 1000 ∧ D1.nx E (updC C2 a (.ins c (putFD f y gs)))) : WS B0 (sFld K ta tv f) E C D1 := fun B F σ H sb rl re Dn ok =>
  h B F σ H sb rl re _ fun v y B1 C1 H1 e1 rl1 rp1 h2 => h2 B1 F σ H1 (sb.trans e1) rl1 (re.mono e1) _ fun u x B2 C2 H2 e2 rl2 rp2 ⟨a, hx, c, gs, hc, fo, hl, k⟩ => by
    subst hx
    cases rp2
    obtain ⟨dx, fs, h1, r⟩ := rel_ins rl2 hc
    refine ⟨a, c, dx, fs, rfl, h1, fo.cls, fo.no, by rw [repF_len r]; exact hl, ?_⟩
    exact ok.nx σ E B2 _ _ (e1.trans e2) (rl2.write hc (.ins (repF_put r (rp1.mono e2)))) (re.mono (e1.trans e2)) k
theorem ws_fldAug {rd : R2} (h : W B0 ta E C fun x C1 => ∃ a, x = .ref a ∧ ∃ c gs, C1 a = some (.ins c gs) ∧ FldOk K c f ∧ ∃ d, gs.lookup f = some d ∧ W B0 tv E C1 fun y C2 => WR B0 rd d y C2 fun z C3 =>
    ∃ gs', C3 a = some (.ins c gs') ∧ gs'.length < 1000 ∧ D1.nx E (updC C3 a (.ins c (putFD f z gs')))) : WS B0 (sFldAug K ta tv rd f) E C D1 := fun B F σ H sb rl re Dn ok =>
  h B F σ H sb rl re _ fun v x B1 C1 H1 e1 rl1 rp1 ⟨a, hx, c, gs, hc, fo, d, hl, h2⟩ => by
    subst hx
    cases rp1
    obtain ⟨dx, fs, h1, r⟩ := rel_ins rl1 hc
    obtain ⟨v', hv, rv⟩ := repF_look r hl
    refine ⟨a, c, dx, fs, v', rfl, h1, fo.cls, fo.no, hv, h2 B1 F σ H1 (sb.trans e1) rl1 (re.mono e1) _ fun w y B2 C2 H2 e2 rl2 rp2 h3 => ?_⟩
    refine h3 B2 F H2 v' w (sb.trans (e1.trans e2)) rl2 (rv.mono e2) rp2 _ fun z dz B3 C3 H3 e3 rl3 rp3 ⟨gs', hc', hl', k⟩ => ?_
    obtain ⟨dx', fs', h1', r'⟩ := rel_ins rl3 hc'
    exact ⟨dx', fs', h1', by rw [repF_len r']; exact hl', ok.nx σ E B3 _ _ ((e1.trans e2).trans e3) (rl3.write hc' (.ins (repF_put r' rp3))) (re.mono ((e1.trans e2).trans e3)) k⟩
theorem w_meth {g : SpD} {E' : XK} (h : W B0 ta E C fun x C1 => ∃ a, x = .ref a ∧ ∃ gs, C1 a = some (.ins c gs) ∧ gs.lookup m = none ∧ WA B0 t E C1 fun ds C2 => g (.ref a :: ds) C2 P) : W B0 (tMeth c m (spD g) [] E' ta t) E C P := fun B F σ H sb rl re Q q =>
  h B F σ H sb rl re _ fun v x B1 C1 H1 e1 rl1 rp1 ⟨a, hx, gs, hc, hl, h2⟩ => by
    subst hx
    cases rp1
    obtain ⟨dx, fs, h1, r⟩ := rel_ins rl1 hc
    refine ⟨a, dx, fs, rfl, h1, repF_none r hl, h2 B1 F σ H1 (sb.trans e1) rl1 (re.mono e1) _ fun vs ds B2 C2 H2 e2 rl2 rp2 p => ?_⟩
    exact ⟨B2, F, C2, _, P, rl2, by rw [List.append_nil]; exact .cons .ref rp2, p, fun v d B' C' H' e => q v d B' C' H' ((e1.trans e2).trans e)⟩
theorem w_make {g : SpD} {E' : XK} (h : WA B0 t E C fun ds C1 => ∀ a, C1 a = none → g (.ref a :: ds) (updC C1 a (.ins c [])) fun d C2 => d = .non ∧ P (.ref a) C2) : W B0 (tMake c (spD g) [] E' t) E C P := fun B F σ H sb rl re Q q =>
  h B F σ H sb rl re _ fun vs ds B1 C1 H1 e1 rl1 rp1 p x dx nx nd ne => by
    have rl2 : Rel B1 C1 F (upd H1 dx (.own x)) := ⟨fun b o e => by rw [upd_ne (ne_of_none (rl1.ex b o e) nd)]; exact rl1.ex b o e, fun b o e => by rw [upd_ne (ne_of_none (rl1.fr b o e) nd)]; exact rl1.fr b o e, rl1.bf, rl1.cf, rl1.bc, fun b c e => by
      obtain ⟨o, g1, g2⟩ := rl1.own b c e
      exact ⟨o, by rw [upd_ne (ne_of_none g1 nd)]; exact g1, g2⟩⟩
    have hx : upd H1 dx (.own x) x = none := by rw [upd_ne (Ne.symm ne)]; exact nx
    refine ⟨B1, F, _, _, _, rl2.newC hx (c := .ins c []) (.ins .nil), by rw [List.append_nil]; exact .cons .ref rp1, p x (rl1.noC nx), fun v d B' C' H' e rl' rp ⟨hd, k⟩ => ?_⟩
    subst hd
    cases rp
    exact ⟨rfl, q _ _ B' C' H' (e1.trans e) rl' .ref k⟩
end
section
variable {P : Program} {w : World} {K : PySem.W.Frag} {mg : Str → Option Value} {base : Heap}
/-- a method, as it stands -/
def MetAt (K : PySem.W.Frag) (mg : Str → Option Value) (cn m qual : Str) (st : Stmt) (ps : List Str) : Prop :=
  ∃ f fd, Fun K m qual st f fd ∧ Meth K (clsA mg cn) m f ∧ Binds K fd ps []
def IniAt (K : PySem.W.Frag) (mg : Str → Option Value) (cn qual : Str) (st : Stmt) (ps : List Str) : Prop :=
  ∃ f fd, Fun K "__init__" qual st f fd ∧ Mk K (clsA mg cn) f ∧ Binds K fd ps []
def HasM (P : Program) (w : World) (K : PySem.W.Frag) (mg : Str → Option Value) (base : Heap) (k : Nat) (cn m : Str) (ps : List Str) (sp : Sp) : Prop :=
  ∃ f fd, FnOk P w K mg base CX0 k f fd ps sp ∧ Meth K (clsA mg cn) m f ∧ Binds K fd ps []
def HasI (P : Program) (w : World) (K : PySem.W.Frag) (mg : Str → Option Value) (base : Heap) (k : Nat) (cn : Str) (ps : List Str) (sp : Sp) : Prop :=
  ∃ f fd, FnOk P w K mg base CX0 k f fd ps sp ∧ Mk K (clsA mg cn) f ∧ Binds K fd ps []
theorem HasM.mono {j k : Nat} {x m : Str} {ps : List Str} {sp : Sp} (h : HasM P w K mg base j x m ps sp) (l : j ≤ k) : HasM P w K mg base k x m ps sp := by
  obtain ⟨f, fd, a, b, c⟩ := h
  exact ⟨f, fd, a.mono l, b, c⟩
theorem HasI.mono {j k : Nat} {x : Str} {ps : List Str} {sp : Sp} (h : HasI P w K mg base j x ps sp) (l : j ≤ k) : HasI P w K mg base k x ps sp := by
  obtain ⟨f, fd, a, b, c⟩ := h
  exact ⟨f, fd, a.mono l, b, c⟩
theorem fn_ofD {x qual : Str} {st : Stmt} {N ps : List Str} {k : Nat} {g : SpD} {f : Addr} {fd : FuncData} (F : Fun K x qual st f fd) (S : FnScope N ps (defScope st)) (len : ∀ ds C P, g ds C P → ds.length = ps.length)
    (hbody : ∀ (f : Addr) (cdv : Value) (A : Around) (outer : List PySem.Env) (s : Shared) (H : Hp) (E : XK), Room k (A.deeper (PyProof.Rows.envOfC qual (defScope st) s.heap.objs.size f cdv)) →
      ∃ t, PSs (cxOf CX0 P w K mg base N qual (defScope st) f cdv A outer s H E).nox (defBody st) t ∧ ∀ (B : Gr) ds C PD, g ds C PD → WS B t (startD N.length ds) C { nx := fun _ C' => PD .non C', rt := PD }) :
    FnOk P w K mg base CX0 (k + 1) f fd ps (spD g) := by
  refine F.ok S ?_ ?_
  · rintro vs H Q E ⟨B, F, C, ds, P, _, rp, h, _⟩
    rw [rp.length]
    exact len _ _ _ h
  · intro cdv A outer s H vs Q E hr h
    obtain ⟨t, h1, h2⟩ := hbody f cdv A outer s H E hr
    obtain ⟨B, F, C, ds, P, rl, rp, hg, q⟩ := h
    refine ⟨t, h1, h2 ⟨B, F⟩ ds C P hg B F _ H (Sb.refl B F) rl (RelE.begin rp) _ ⟨?_, ?_, ?_, ?_⟩⟩
    · exact fun σ' E' B' C' H' e rl' _ p => q .non .non B' C' H' e rl' .non p
    · exact fun v d B' C' H' e rl' rp' p => q v d B' C' H' e rl' rp' p
    · exact fun _ _ _ _ _ _ _ _ z => z
    · exact fun _ _ _ _ _ _ _ _ z => z
theorem has_ofM {cn m qual : Str} {st : Stmt} {N ps : List Str} {k : Nat} {g : SpD} (Df : MetAt K mg cn m qual st ps) (S : FnScope N ps (defScope st)) (len : ∀ ds C P, g ds C P → ds.length = ps.length)
    (hbody : ∀ (f : Addr) (cdv : Value) (A : Around) (outer : List PySem.Env) (s : Shared) (H : Hp) (E : XK), Room k (A.deeper (PyProof.Rows.envOfC qual (defScope st) s.heap.objs.size f cdv)) →
      ∃ t, PSs (cxOf CX0 P w K mg base N qual (defScope st) f cdv A outer s H E).nox (defBody st) t ∧ ∀ (B : Gr) ds C PD, g ds C PD → WS B t (startD N.length ds) C { nx := fun _ C' => PD .non C', rt := PD }) :
    HasM P w K mg base (k + 1) cn m ps (spD g) := by
  obtain ⟨f, fd, F, hm, hb⟩ := Df
  exact ⟨f, fd, fn_ofD F S len hbody, hm, hb⟩
theorem has_ofI {cn qual : Str} {st : Stmt} {N ps : List Str} {k : Nat} {g : SpD} (Df : IniAt K mg cn qual st ps) (S : FnScope N ps (defScope st)) (len : ∀ ds C P, g ds C P → ds.length = ps.length)
    (hbody : ∀ (f : Addr) (cdv : Value) (A : Around) (outer : List PySem.Env) (s : Shared) (H : Hp) (E : XK), Room k (A.deeper (PyProof.Rows.envOfC qual (defScope st) s.heap.objs.size f cdv)) →
      ∃ t, PSs (cxOf CX0 P w K mg base N qual (defScope st) f cdv A outer s H E).nox (defBody st) t ∧ ∀ (B : Gr) ds C PD, g ds C PD → WS B t (startD N.length ds) C { nx := fun _ C' => PD .non C', rt := PD }) :
    HasI P w K mg base (k + 1) cn ps (spD g) := by
  obtain ⟨f, fd, F, hm, hb⟩ := Df
  exact ⟨f, fd, fn_ofD F S len hbody, hm, hb⟩
end
section
variable {X : Cx} {x cn m : Str} {ps : List Str} {sp : Sp} {k j : Nat} {p pos apos : Pos} {o e : Expr} {es : List Expr} {t : TA} {ta : TE} {pl : Sem Bool}
theorem pe_mt (mg : Str → Option Value) (h : HasM X.prog X.w X.K X.mg X.base k cn m ps sp) (kc : Cls X.K (clsA X.mg cn)) (hr : Room k X.A) (he : PE X o ta) (ha : PA X (e :: es) t) (hx : ∀ CXX, CXX = CX0 → Passes CXX X E0 := by intro _ h; subst h; exact pass0)
    (hst : starEach (e :: es) X.env = (false, eval e X.env) :: starEach es X.env := by rfl) (hpl : (backTo pos (starEach es X.env)).any (·.1) = false := by rfl)
    (ht : eval (.Call (.Attribute o m apos) (e :: es) [] pos) X.env = (do
      let ov ← eval o X.env
      standAt apos.atName
      let (f, first) ← holding [ov] (getMethod ov m pl)
      callWith pos f first (backTo pos (starEach (e :: es) X.env)) (backToKw pos (keywordEach [] X.env))) := by rfl) (hmg : X.mg = mg := by rfl) :
    PE X (.Call (.Attribute o m apos) (e :: es) [] pos) (tMeth (clsA mg cn) m sp [] E0 ta t) := by
  subst hmg
  obtain ⟨f, fd, F, hm, hb⟩ := h
  exact pe_meth he kc hm F hr hb .nil (hx _ rfl) ha hst hpl ht
theorem pe_mt0 (mg : Str → Option Value) (h : HasM X.prog X.w X.K X.mg X.base k cn m ps sp) (kc : Cls X.K (clsA X.mg cn)) (hr : Room k X.A) (he : PE X o ta) (hx : ∀ CXX, CXX = CX0 → Passes CXX X E0 := by intro _ h; subst h; exact pass0)
    (ht : eval (.Call (.Attribute o m apos) [] [] pos) X.env = (do
      let ov ← eval o X.env
      standAt apos.atName
      let (f, first) ← holding [ov] (getMethod ov m pl)
      callWith pos f first (backTo pos (starEach [] X.env)) (backToKw pos (keywordEach [] X.env))) := by rfl) (hmg : X.mg = mg := by rfl) :
    PE X (.Call (.Attribute o m apos) [] [] pos) (tMeth (clsA mg cn) m sp [] E0 ta tNil) := by
  subst hmg
  obtain ⟨f, fd, F, hm, hb⟩ := h
  exact pe_meth0 he kc hm F hr hb .nil (hx _ rfl) ht
theorem pe_mkI (mg : Str → Option Value) (h : HasI X.prog X.w X.K X.mg X.base k x ps sp) (kc : X.mg x = some (.ref (clsA X.mg x))) (hr : Room (k + 1) X.A) (ha : PA X (e :: es) t) (hg : Gl X x := by rfl) (hx : ∀ CXX, CXX = CX0 → Passes CXX X E0 := by intro _ h; subst h; exact pass0)
    (hdb : (x == ("__debug__" : Str)) = false := by decide) (he : starEach (e :: es) X.env = (false, eval e X.env) :: starEach es X.env := by rfl) (hpl : (backTo pos (starEach es X.env)).any (·.1) = false := by rfl) (hmg : X.mg = mg := by rfl) :
    PE X (.Call (.Name x p) (e :: es) [] pos) (tMake (clsA mg x) sp [] E0 t) := by
  subst hmg
  obtain ⟨f, fd, F, hm, hb⟩ := h
  exact pe_make hm F hr hg kc hb .nil (hx _ rfl) ha hdb he hpl
end
section
variable {X : Cx} {o e value : Expr} {f : Str} {pos pos' tpos : Pos} {ta tv : TE}
theorem pe_fldK (K : PySem.W.Frag) (he : PE X e ta) (hb : attributeBase e f X.env (eval e X.env) = eval e X.env) (h : X.K = K := by rfl) : PE X (.Attribute e f pos) (tFld K ta f) := by
  subst h
  exact pe_fld he hb
theorem ps_fldK (K : PySem.W.Frag) (ha : PE X o ta) (hv : PE X value tv) (hs : swapsWith value (some (.Attribute o f pos')) pos.line X.env = pure false) (h : X.K = K := by rfl) : PS X (.Assign [.Attribute o f pos'] value pos) (sFld K ta tv f) := by
  subst h
  exact ps_fld ha hv hs
theorem ps_fldaugK (K : PySem.W.Frag) {op : Operator} {rd : V → V → Hp → VK → Prop} (ha : PE X o ta) (hv : PE X value tv) (hop : InOp X op rd) (h : X.K = K := by rfl) : PS X (.AugAssign (.Attribute o f tpos) op value pos) (sFldAug K ta tv rd f) := by
  subst h
  exact ps_fldaug ha hv hop
end
theorem wr_inAdd {B0 : Gr} {C : CH} {P : D → CH → Prop} {i j : Int} (k : P (.int (i + j)) C) : WR B0 L2.rAdd (.int i) (.int j) C P := fun B F H vx vy _ rl h1 h2 Q q => by
  cases h1
  cases h2
  exact ⟨i, j, rfl, rfl, q _ _ B C H (Same.refl B) rl .int k⟩
theorem insAny {C : CH} {a c : Addr} {gs : List (Str × D)} (h : C a = some (.ins c gs)) : C a = some (.ins c gs) := h
theorem lookN {gs : List (Str × D)} {m : Str} (h : gs.lookup m = none) : gs.lookup m = none := h
end Dv

set_option maxRecDepth 100000
set_option maxHeartbeats 1000000
/-! Texts. -/
namespace Dv
open PySem PySem.Spec L2
def numS (i : Int) : Str := Str.ofString (toString i)
theorem log_small {i : Int} (h : i.natAbs ≤ 1000000) : i.natAbs.log2 < 1920 := by
  by_cases z : i.natAbs = 0
  · rw [z]
    decide
  · rw [Nat.log2_lt z]
    exact Nat.lt_of_le_of_lt h (by decide +kernel)
def rStrN : List V → Hp → VK → Prop := fun xs H Q => ∃ i, xs = [.int i] ∧ i.natAbs.log2 < 1920 ∧ Q (.str (numS i)) H
theorem call_strN {X : Cx} : CallR X (.type "str") rStrN := call_str_int
def tJoined (ts : List TE) : TE := fun σ H Q => tJs ts Str.empty σ H fun out H1 => Q (.str out) H1
theorem pe_joinedN {X : Cx} {v1 v2 : Expr} {rest : List Expr} {ts : List TE} {pos : Pos} (h : PJ X (v1 :: v2 :: rest) ts) : PE X (.JoinedStr (v1 :: v2 :: rest) pos) (tJoined ts) := pe_joined h
def rJoin (K : PySem.W.Frag) : V → List V → Hp → VK → Prop := fun x xs H Q => ∃ a p, ∃ ys : List Str, x = .str a ∧ xs = [.ref p] ∧ (SqL K H p (ys.map V.str) ∨ SqT K H p (ys.map V.str)) ∧
      (ys.map (·.length)).sum + ys.length * a.length ≤ 16777216 ∧ Q (.str (Txt.join a ys)) H
theorem pe_joinK {X : Cx} (K : PySem.W.Frag) {o e : Expr} {to te : TE} {apos pos : Pos} (ho : PE X o to) (he : PE X e te) (h : X.K = K := by rfl) (hs : starEach [e] X.env = [(false, eval e X.env)] := by rfl) (hbase : attributeBase o "join" X.env (eval o X.env) = eval o X.env := by rfl) (hline : (apos.endLine == pos.line) = true := by rfl) :
    PE X (.Call (.Attribute o "join" apos) [e] [] pos) (tM1 (rJoin K) to te) := by
  subst h
  exact pe_join ho he hs hbase hline
/-- a sign times a small number -/
def rRepC : R2 := fun x y H Q => ∃ (c : Nat) (n : Nat), x = .str ⟨#[c]⟩ ∧ y = .int (n : Nat) ∧ n ≤ 4 ∧ Q (.str ⟨(List.replicate n c).toArray⟩) H
theorem op_repC {X : Cx} : OpR X (binaryOp .Mult) rRepC := by
  intro pins s σ H x y v u Q I rx ry h
  obtain ⟨c, n, rfl, rfl, hn, q⟩ := h
  obtain ⟨t, rfl⟩ := rx
  obtain ⟨t', rfl⟩ := ry
  have fin : ∀ (z : Str) (tk : Nat), z = ⟨(List.replicate n c).toArray⟩ → ∀ t2, EP X pins σ Q (.str z t2) { s with toks := tk } := fun z tk e t2 => by
    subst e
    exact ⟨.str _, H, I.tok _, ⟨_, rfl⟩, q⟩
  have : n = 0 ∨ n = 1 ∨ n = 2 ∨ n = 3 ∨ n = 4 := by omega
  rcases this with rfl | rfl | rfl | rfl | rfl
  · exact PySem.P.mul_str (by decide) (fun h => absurd (by decide) h) (fun h => absurd (by decide) h) ⟨by decide, fin _ _ rfl _⟩
  · refine PySem.P.mul_str (by decide) (fun _ h => by cases h) (fun _ h => by cases h) ?_
    have e : EP X pins σ Q (.str ⟨#[c]⟩ t) s := ⟨.str _, H, I, ⟨_, rfl⟩, q⟩
    exact e
  · exact PySem.P.mul_str (by decide) (fun _ _ => by show ¬ ((1 : Int) > _); decide) (fun _ _ => by show Builtin.Str.tooLong 2 = false; decide) ⟨by show 2 ≤ sizeLine; decide, fin _ _ rfl _⟩
  · exact PySem.P.mul_str (by decide) (fun _ _ => by show ¬ ((1 : Int) > _); decide) (fun _ _ => by show Builtin.Str.tooLong 3 = false; decide) ⟨by show 3 ≤ sizeLine; decide, fin _ _ rfl _⟩
  · exact PySem.P.mul_str (by decide) (fun _ _ => by show ¬ ((1 : Int) > _); decide) (fun _ _ => by show Builtin.Str.tooLong 4 = false; decide) ⟨by show 4 ≤ sizeLine; decide, fin _ _ rfl _⟩
section
variable {B0 : Gr} {C : CH} {P : D → CH → Prop} {K : PySem.W.Frag} {E : EnvD} {te to : TE} {ts : List TE} {acc : Str} {i : Int}
theorem wc_strN (h : i.natAbs ≤ 1000000) (k : P (.str (numS i)) C) : WC B0 rStrN [.int i] C P := fun B F H vs _ rl r Q q => by
  cases r with
  | cons r1 r =>
    cases r; cases r1
    exact ⟨i, rfl, log_small h, q _ _ B C H (Same.refl B) rl .str k⟩
theorem w_fmtI (h : W B0 te E C fun x C1 => ∃ i, x = .int i ∧ i.natAbs ≤ 1000000 ∧ P (.str (numS i)) C1) : W B0 (tFmt te) E C P := fun B F σ H sb rl re Q q =>
  h B F σ H sb rl re _ fun v d B1 C1 H1 e1 rl1 rp ⟨i, hd, hi, p⟩ => by
    subst hd
    cases rp
    exact .inr ⟨i, rfl, log_small hi, q _ _ B1 C1 H1 e1 rl1 .str p⟩
def WJ (B0 : Gr) (ts : List TE) (acc : Str) (E : EnvD) (C : CH) (P : D → CH → Prop) : Prop :=
  ∀ (B F : Hp) (σ : St) (H : Hp), Sb B0 B F → Rel B C F H → RelE B σ E → ∀ Q : Str → Hp → Prop, (∀ z B' C' H', Same B B' → Rel B' C' F H' → P (.str z) C' → Q z H') → tJs ts acc σ H Q
theorem wj_nil (k : P (.str acc) C) : WJ B0 [] acc E C P := fun B F σ H _ rl _ Q q => q acc B C H (Same.refl B) rl k
theorem wj_cons {t : TE} (h : W B0 t E C fun x C1 => ∃ y, x = .str y ∧ (acc ++ y).length ≤ 1000000 ∧ WJ B0 ts (acc ++ y) E C1 P) : WJ B0 (t :: ts) acc E C P := fun B F σ H sb rl re Q q =>
  h B F σ H sb rl re _ fun v d B1 C1 H1 e1 rl1 rp ⟨y, hd, hl, k⟩ => by
    subst hd
    cases rp
    exact ⟨y, rfl, Nat.le_trans hl (by decide), k B1 F σ H1 (sb.trans e1) rl1 (re.mono e1) Q fun z B' C' H' s => q z B' C' H' (e1.trans s)⟩
theorem w_joined (h : WJ B0 ts Str.empty E C P) : W B0 (tJoined ts) E C P := fun B F σ H sb rl re Q q =>
  h B F σ H sb rl re _ fun z B' C' H' s rl' p => q _ _ B' C' H' s rl' .str p
theorem reps_strs {B : Hp} {vs : List V} {ys : List Str} (r : Reps B vs (ys.map D.str)) : vs = ys.map V.str := r.strs
theorem w_joinK (h : W B0 to E C fun x C1 => ∃ a, x = .str a ∧ W B0 te E C1 fun y C2 => ∃ ys, SeqD C2 y (ys.map D.str) ∧ (ys.map (·.length)).sum + ys.length * a.length ≤ 1000000 ∧ P (.str (Txt.join a ys)) C2) : W B0 (tM1 (rJoin K) to te) E C P := fun B F σ H sb rl re Q q =>
  h B F σ H sb rl re _ fun v d B1 C1 H1 e1 rl1 rp ⟨a, hd, h2⟩ => by
    subst hd
    cases rp
    refine ⟨⟨a, rfl⟩, h2 B1 F σ H1 (sb.trans e1) rl1 (re.mono e1) _ fun u y B2 C2 H2 e2 rl2 rp2 ⟨ys, hy, hl, k⟩ => ?_⟩
    obtain ⟨p, vs, rfl, hs, r⟩ := seqD_rd (K := K) rl2 rp2 hy
    have e := reps_strs r
    subst e
    exact ⟨a, p, ys, rfl, rfl, hs, Nat.le_trans hl (by decide), q _ _ B2 C2 H2 (e1.trans e2) rl2 .str k⟩
theorem wr_repC {c n : Nat} (h : n ≤ 4) (k : P (.str ⟨(List.replicate n c).toArray⟩) C) : WR B0 rRepC (.str ⟨#[c]⟩) (.int (n : Nat)) C P := fun B F H vx vy _ rl h1 h2 Q q => by
  cases h1
  cases h2
  exact ⟨c, n, rfl, rfl, h, q _ _ B C H (Same.refl B) rl .str k⟩
theorem wr_ninS {z : Str} {c : Nat} (k : P (.bl (!decide (c ∈ z.cps.toList))) C) : WR B0 (rInU K true) (.str ⟨#[c]⟩) (.str z) C P := wr_ninC k
end
end Dv

set_option maxRecDepth 100000
/-! Texts of documents, as plain data. -/
namespace Dv
open PySem PySem.Spec L2 PySem.NumText
def mkS (l : List Nat) : Str := ⟨l.toArray⟩
theorem mkS_list (l : List Nat) : (mkS l).cps.toList = l := by simp [mkS]
theorem mkS_len (l : List Nat) : (mkS l).length = l.length := by simp [mkS, Str.length]
theorem mkS_of (z : Str) : mkS z.cps.toList = z := by cases z; simp [mkS]
theorem str_app (a b : Str) : a ++ b = mkS (a.cps.toList ++ b.cps.toList) := by
  show (⟨a.cps ++ b.cps⟩ : Str) = _
  simp [mkS]
theorem mkS_app (a b : List Nat) : mkS a ++ mkS b = mkS (a ++ b) := by rw [str_app, mkS_list, mkS_list]
theorem mkS_inj {a b : List Nat} (h : mkS a = mkS b) : a = b := by rw [← mkS_list a, h, mkS_list]
theorem str_len (z : Str) : z.length = z.cps.toList.length := by simp [Str.length]
/-- the figures of a number -/
def num (n : Int) : List Nat := (numS n).cps.toList
theorem numS_num (n : Int) : numS n = mkS (num n) := (mkS_of _).symm
structure Numl (n : Int) (l : List Nat) : Prop where
  dig : AllDigits l
  ne : l ≠ []
  len : l.length ≤ 100
  val : ((digitsVal l : Nat) : Int) = n
theorem Numl.reads {n : Int} {l : List Nat} (h : Numl n l) : PySem.intText? (mkS l) = some n := by
  have := intText_digits (x := mkS l) (by rw [mkS_list]; exact h.dig) (by rw [mkS_list]; exact h.ne) (by rw [mkS_len]; have := h.len; omega)
  rw [this, mkS_list, h.val]
theorem num_ok {n : Int} (h0 : 0 ≤ n) (h1 : n ≤ 100000) : Numl n (num n) := by
  obtain ⟨m, rfl⟩ := Int.eq_ofNat_of_zero_le h0
  have hd : AllDigits (num (m : Int)) := fun c hc => by
    have hf := PyProof.Rows.int_text_free' c
    by_cases z : 48 ≤ c ∧ c ≤ 57
    · exact z
    · by_cases e : c = 45
      · exfalso
        subst e
        have hs := PySem.W.KIN.signs_num m
        have hc2 : 45 ∈ (PySem.Str.ofString (toString ((m : Nat) : Int))).cps.toList := hc
        rw [hs] at hc2
        obtain ⟨ch, hch, e⟩ := List.mem_map.mp hc2
        have r := Nat.isDigit_of_mem_toDigits (by decide) (by decide) hch
        simp [Char.isDigit, UInt32.le_iff_toNat_le] at r
        have : ch.toNat = 45 := e
        unfold Char.toNat at this
        omega
      · exact absurd hc (hf ⟨e, by omega⟩ (m : Int))
  have hne : num (m : Int) ≠ [] := by
    have hs := PySem.W.KIN.signs_num m
    intro z
    have z2 : (PySem.Str.ofString (toString ((m : Nat) : Int))).cps.toList = [] := z
    rw [hs, List.map_eq_nil_iff] at z2
    exact Nat.toDigits_ne_nil z2
  have hl := PySem.W.KT.len_num (n := (m : Int)) h0 (by omega)
  have hlen : (num (m : Int)).length ≤ 100 := by
    have : (num (m : Int)).length = (numS (m : Int)).length := by rw [str_len]; rfl
    rw [this]
    exact Nat.le_trans hl (by decide)
  refine ⟨hd, hne, hlen, ?_⟩
  have r1 := PySem.W.KIN.num_reads (n := (m : Int)) h0 (by omega)
  have r2 := intText_digits (x := numS (m : Int)) hd hne (by rw [str_len]; exact Nat.le_trans hlen (by decide))
  exact Option.some.inj (r2.symm.trans r1)
theorem digits_zero (k : Nat) (l : List Nat) : digitsVal (List.replicate k 48 ++ l) = digitsVal l := by
  unfold digitsVal
  rw [List.foldl_append]
  congr 1
  induction k with
  | zero => rfl
  | succ k ih => rw [List.replicate_succ, List.foldl_cons]; exact ih
theorem Numl.zeros {n : Int} {l : List Nat} (h : Numl n l) {k : Nat} (hk : k + l.length ≤ 100) : Numl n (List.replicate k 48 ++ l) where
  dig := fun c hc => by
    rcases List.mem_append.mp hc with z | z
    · have := List.eq_of_mem_replicate z
      omega
    · exact h.dig c z
  ne := by simp [h.ne]
  len := by rw [List.length_append, List.length_replicate]; exact hk
  val := by rw [digits_zero]; exact h.val
/-! ### items of a text -/
inductive It where
  | gap (c : Nat) | sgn (c : Nat) | dig (l : List Nat)
def It.txt : It → List Nat
  | .gap c => [c]
  | .sgn c => [c]
  | .dig l => l
def It.Ok : It → Prop
  | .gap c => c = 32 ∨ c = 10
  | .sgn c => c = 98 ∨ c = 115 ∨ c = 58 ∨ c = 91 ∨ c = 93
  | .dig l => AllDigits l ∧ l ≠ []
def It.isDig : It → Bool
  | .dig _ => true
  | _ => false
/-- figures do not touch figures -/
def Sep : List It → Prop
  | [] => True
  | [_] => True
  | a :: b :: r => (a.isDig = true → b.isDig = false) ∧ Sep (b :: r)
def txts : List It → List Nat
  | [] => []
  | i :: r => i.txt ++ txts r
abbrev Tok' := Nat × List Nat
def toks : Nat → List It → List Tok'
  | _, [] => []
  | k, .gap _ :: r => toks (k + 1) r
  | k, .sgn c :: r => (k, [c]) :: toks (k + 1) r
  | k, .dig l :: r => (k, l) :: toks (k + l.length) r
def tokD (t : Tok') : D := .tup [.int (t.1 : Nat), .str (mkS t.2)]
theorem txts_app : ∀ a b : List It, txts (a ++ b) = txts a ++ txts b
  | [], _ => rfl
  | i :: a, b => by rw [List.cons_append, txts, txts, txts_app a b, List.append_assoc]
theorem toks_app : ∀ (a b : List It) (k : Nat), toks k (a ++ b) = toks k a ++ toks (k + (txts a).length) b
  | [], _, _ => rfl
  | .gap c :: a, b, k => by
    rw [List.cons_append, toks, toks, toks_app a b, txts, It.txt, List.length_append]
    simp [Nat.add_assoc]
  | .sgn c :: a, b, k => by
    rw [List.cons_append, toks, toks, toks_app a b, txts, It.txt, List.length_append]
    simp [Nat.add_assoc]
  | .dig l :: a, b, k => by
    rw [List.cons_append, toks, toks, toks_app a b, txts, It.txt, List.length_append]
    simp [Nat.add_assoc]
/-- the first sign of the rest is no figure -/
theorem sep_head {l : List Nat} {r : List It} (h : Sep (.dig l :: r)) (ok : ∀ i ∈ r, i.Ok) : r = [] ∨ ∃ c t, txts r = c :: t ∧ ¬ (48 ≤ c ∧ c ≤ 57) := by
  cases r with
  | nil => exact .inl rfl
  | cons i r =>
    rw [Sep] at h
    have hi := h.1 rfl
    have oki := ok i (by simp)
    cases i with
    | gap c => exact .inr ⟨c, txts r, rfl, by rcases oki with rfl | rfl <;> omega⟩
    | sgn c => exact .inr ⟨c, txts r, rfl, by rcases oki with rfl | rfl | rfl | rfl | rfl <;> omega⟩
    | dig l => cases hi
theorem sep_tail {i : It} {r : List It} (h : Sep (i :: r)) : Sep r := by
  cases r with
  | nil => trivial
  | cons j r => rw [Sep] at h; exact h.2
/-! ### the tokens of a box -/
mutual
inductive TokB : Box → List (List Nat) → Prop
  | block {n h : Int} {a b : List Nat} : Numl n a → Numl h b → TokB (.block n h) [[98], a, [58], b]
  | scroller {n h : Int} {a b : List Nat} {ps : List Box} {ts : List (List Nat)} : Numl n a → Numl h b → TokBs ps ts → TokB (.scroller n h ps) ([115] :: a :: [58] :: b :: [91] :: (ts ++ [[93]]))
inductive TokBs : List Box → List (List Nat) → Prop
  | nil : TokBs [] []
  | cons {p : Box} {r : List Box} {a b : List (List Nat)} : TokB p a → TokBs r b → TokBs (p :: r) (a ++ b)
end
theorem TokB.head {b : Box} {ts : List (List Nat)} (h : TokB b ts) : ∃ t, ts = (if b.isS then [115] else [98]) :: t := by
  cases h with
  | block _ _ => exact ⟨_, rfl⟩
  | scroller _ _ _ => exact ⟨_, rfl⟩
mutual
/-- the canonical tokens -/
def tkB : Box → List (List Nat)
  | .block n h => [[98], num n, [58], num h]
  | .scroller n h ps => [115] :: num n :: [58] :: num h :: [91] :: (tkBs ps ++ [[93]])
def tkBs : List Box → List (List Nat)
  | [] => []
  | p :: r => tkB p ++ tkBs r
end
mutual
/-- the canonical text -/
def prB : Box → List Nat
  | .block n h => 98 :: (num n ++ 58 :: num h)
  | .scroller n h ps => 115 :: (num n ++ 58 :: (num h ++ 91 :: (prBs ps ++ [93])))
def prBs : List Box → List Nat
  | [] => []
  | [p] => prB p
  | p :: q :: r => prB p ++ 32 :: prBs (q :: r)
end
mutual
/-- its items -/
def itB : Box → List It
  | .block n h => [.sgn 98, .dig (num n), .sgn 58, .dig (num h)]
  | .scroller n h ps => .sgn 115 :: .dig (num n) :: .sgn 58 :: .dig (num h) :: .sgn 91 :: (itBs ps ++ [.sgn 93])
def itBs : List Box → List It
  | [] => []
  | [p] => itB p
  | p :: q :: r => itB p ++ .gap 32 :: itBs (q :: r)
end
mutual
theorem txts_itB : ∀ b : Box, txts (itB b) = prB b
  | .block n h => by simp [itB, prB, txts, It.txt]
  | .scroller n h ps => by simp [itB, prB, txts, It.txt, txts_app, txts_itBs ps]
theorem txts_itBs : ∀ ps : List Box, txts (itBs ps) = prBs ps
  | [] => by simp [itBs, prBs, txts]
  | [p] => by rw [itBs, prBs, txts_itB p]
  | p :: q :: r => by rw [itBs, prBs, txts_app, txts, It.txt, txts_itB p, txts_itBs (q :: r)]; rfl
end
mutual
theorem toks_itB : ∀ (b : Box) (k : Nat), (toks k (itB b)).map (·.2) = tkB b
  | .block n h, k => by simp [itB, tkB, toks]
  | .scroller n h ps, k => by simp [itB, tkB, toks, toks_app, toks_itBs ps]
theorem toks_itBs : ∀ (ps : List Box) (k : Nat), (toks k (itBs ps)).map (·.2) = tkBs ps
  | [], k => by simp [itBs, tkBs, toks]
  | [p], k => by rw [itBs, tkBs, tkBs, toks_itB p, List.append_nil]
  | p :: q :: r, k => by rw [itBs, tkBs, toks_app, List.map_append, toks, toks_itB p, toks_itBs (q :: r)]
end
def Box.Num (b : Box) : Prop := ∀ p ∈ b.all, (0 ≤ p.num ∧ p.num ≤ 1000) ∧ 0 ≤ p.hgt ∧ p.hgt ≤ 1000
mutual
theorem tkB_ok : ∀ b : Box, (∀ p ∈ b.all, (0 ≤ p.num ∧ p.num ≤ 1000) ∧ 0 ≤ p.hgt ∧ p.hgt ≤ 1000) → TokB b (tkB b)
  | .block n h, k => by
    obtain ⟨⟨a, b⟩, c, d⟩ := k (.block n h) (by rw [Box.all]; simp)
    replace a : 0 ≤ n := a
    replace b : n ≤ 1000 := b
    replace c : 0 ≤ h := c
    replace d : h ≤ 1000 := d
    rw [tkB]
    exact .block (num_ok a (by omega)) (num_ok c (by omega))
  | .scroller n h ps, k => by
    obtain ⟨⟨a, b⟩, c, d⟩ := k (.scroller n h ps) (by rw [Box.all]; simp)
    replace a : 0 ≤ n := a
    replace b : n ≤ 1000 := b
    replace c : 0 ≤ h := c
    replace d : h ≤ 1000 := d
    rw [tkB]
    exact .scroller (num_ok a (by omega)) (num_ok c (by omega)) (tkBs_ok ps fun p hp => k p (by rw [Box.all]; simp [hp]))
theorem tkBs_ok : ∀ ps : List Box, (∀ p ∈ alls ps, (0 ≤ p.num ∧ p.num ≤ 1000) ∧ 0 ≤ p.hgt ∧ p.hgt ≤ 1000) → TokBs ps (tkBs ps)
  | [], _ => .nil
  | p :: r, k => by
    rw [alls] at k
    rw [tkBs]
    exact .cons (tkB_ok p fun q hq => k q (List.mem_append_left _ hq)) (tkBs_ok r fun q hq => k q (List.mem_append_right _ hq))
end
theorem digs_are : ("0123456789" : Str).cps.toList = [48, 49, 50, 51, 52, 53, 54, 55, 56, 57] := by decide +kernel
theorem dig_mem (c : Nat) : decide (c ∈ ("0123456789" : Str).cps.toList) = decide (48 ≤ c ∧ c ≤ 57) := by
  rw [digs_are]
  by_cases h : 48 ≤ c ∧ c ≤ 57
  · rw [decide_eq_true h]
    have : c = 48 ∨ c = 49 ∨ c = 50 ∨ c = 51 ∨ c = 52 ∨ c = 53 ∨ c = 54 ∨ c = 55 ∨ c = 56 ∨ c = 57 := by omega
    rcases this with rfl | rfl | rfl | rfl | rfl | rfl | rfl | rfl | rfl | rfl <;> decide
  · rw [decide_eq_false h, decide_eq_false]
    simp
    omega
theorem cutS_mid (u l r : List Nat) : cutS (mkS (u ++ l ++ r)) (some ((u.length : Nat) : Int)) (some (((u.length + l.length : Nat)) : Int)) = mkS l := by
  unfold cutS
  rw [HT.sIx_nat, HT.sIx_nat, mkS_list, mkS_len]
  have e1 : min u.length (u ++ l ++ r).length = u.length := by simp
  have e2 : min (u.length + l.length) (u ++ l ++ r).length = u.length + l.length := by simp
  rw [e1, e2]
  have e3 : u.length + l.length - u.length = l.length := by omega
  rw [e3, List.append_assoc, List.drop_left, List.take_left]
  rfl
theorem at_head (u : List Nat) (c : Nat) (t : List Nat) : atI (u ++ c :: t) ((u.length : Nat) : Int) = some c := by
  refine atI_nat ?_
  simp
theorem num_len {n : Int} (h0 : 0 ≤ n) (h1 : n ≤ 100000) : (num n).length ≤ 10 := by
  have hl := PySem.W.KT.len_num (n := n) h0 (by omega)
  have : (num n).length = (numS n).length := by rw [str_len]; rfl
  rw [this]
  exact hl
/-! ### texts printed -/
theorem join_mk : ∀ ps : List Box, Txt.join (mkS [32]) (ps.map fun p => mkS (prB p)) = mkS (prBs ps) := by
  intro ps
  have e : ∀ ys : List Str, Txt.join (mkS [32]) ys = Str.join (mkS [32]) ys := fun ys => PySem.StrLaws.glued_eq_join _ _
  rw [e]
  induction ps with
  | nil => rfl
  | cons p r ih =>
    cases r with
    | nil => rfl
    | cons q r =>
      rw [List.map_cons] at ih
      rw [List.map_cons, List.map_cons, Str.join, ih, prBs, mkS_app, mkS_app]
      · simp
      · intro z; cases z
theorem prBs_len : ∀ ps : List Box, (ps.map fun p => (prB p).length).sum + ps.length ≤ (prBs ps).length + 1
  | [] => by simp
  | [p] => by simp [prBs]
  | p :: q :: r => by
    have h := prBs_len (q :: r)
    have e : prBs (p :: q :: r) = prB p ++ 32 :: prBs (q :: r) := by rw [prBs]
    rw [e]
    simp only [List.map_cons, List.sum_cons, List.length_cons, List.length_append] at h ⊢
    omega
theorem prBs_mem {p : Box} : ∀ {ps : List Box}, p ∈ ps → (prB p).length ≤ (prBs ps).length
  | [q], h => by
    rw [List.mem_singleton] at h
    subst h
    rw [prBs]
    exact Nat.le_refl _
  | q :: q2 :: r, h => by
    rw [prBs, List.length_append, List.length_cons]
    rcases List.mem_cons.mp h with rfl | h
    · omega
    · have := prBs_mem h
      omega
def strD (l : List Nat) : D := .str (mkS l)
mutual
theorem prB_len : ∀ b : Box, (∀ p ∈ b.all, (0 ≤ p.num ∧ p.num ≤ 1000) ∧ 0 ≤ p.hgt ∧ p.hgt ≤ 1000) → (prB b).length + 1 ≤ 30 * b.all.length
  | .block n h, k => by
    obtain ⟨⟨a, b⟩, c, d⟩ := k (.block n h) (by rw [Box.all]; simp)
    replace a : 0 ≤ n := a
    replace b : n ≤ 1000 := b
    replace c : 0 ≤ h := c
    replace d : h ≤ 1000 := d
    have h1 := num_len a (by omega)
    have h2 := num_len c (by omega)
    rw [prB, Box.all]
    simp
    omega
  | .scroller n h ps, k => by
    obtain ⟨⟨a, b⟩, c, d⟩ := k (.scroller n h ps) (by rw [Box.all]; simp)
    replace a : 0 ≤ n := a
    replace b : n ≤ 1000 := b
    replace c : 0 ≤ h := c
    replace d : h ≤ 1000 := d
    have h1 := num_len a (by omega)
    have h2 := num_len c (by omega)
    have h3 := prBs_llen ps fun p hp => k p (by rw [Box.all]; simp [hp])
    rw [prB, Box.all]
    simp
    omega
theorem prBs_llen : ∀ ps : List Box, (∀ p ∈ alls ps, (0 ≤ p.num ∧ p.num ≤ 1000) ∧ 0 ≤ p.hgt ∧ p.hgt ≤ 1000) → (prBs ps).length ≤ 30 * (alls ps).length
  | [], _ => by simp [prBs]
  | [p], k => by
    have := prB_len p fun q hq => k q (by rw [alls]; exact List.mem_append_left _ hq)
    rw [prBs, alls, List.length_append]
    omega
  | p :: q :: r, k => by
    have h1 := prB_len p fun q hq => k q (by rw [alls]; exact List.mem_append_left _ hq)
    have h2 := prBs_llen (q :: r) fun s hs => k s (by rw [alls]; exact List.mem_append_right _ hs)
    rw [prBs, alls, List.length_append, List.length_append, List.length_cons]
    omega
end
/-! ### noise -/
inductive TokR : List Nat → List Nat → Prop
  | same (l : List Nat) : TokR l l
  | zeros {l : List Nat} (z : Nat) (h : z + l.length ≤ 100) (d : AllDigits l) (n : l ≠ []) : TokR l (List.replicate z 48 ++ l)
inductive F2 : List (List Nat) → List (List Nat) → Prop
  | nil : F2 [] []
  | cons {a b : List Nat} {r s : List (List Nat)} (h : TokR a b) (t : F2 r s) : F2 (a :: r) (b :: s)
theorem F2.split : ∀ {x y z : List (List Nat)}, F2 (x ++ y) z → ∃ u v, z = u ++ v ∧ F2 x u ∧ F2 y v
  | [], y, z, h => ⟨[], z, rfl, .nil, h⟩
  | a :: x, y, _, .cons h t => by
    obtain ⟨u, v, rfl, h1, h2⟩ := F2.split t
    exact ⟨_ :: u, v, rfl, .cons h h1, h2⟩
theorem TokR.numl {n : Int} {a b : List Nat} (h : TokR a b) (k : Numl n a) : Numl n b := by
  cases h with
  | same => exact k
  | zeros z hz d _ => exact k.zeros hz
theorem TokR.sign {c : Nat} {b : List Nat} (h : TokR [c] b) (k : ¬ (48 ≤ c ∧ c ≤ 57)) : b = [c] := by
  cases h with
  | same => rfl
  | zeros z hz d _ => exact absurd (d c (by simp)) k
mutual
theorem TokB.noise : ∀ {b : Box} {ts us : List (List Nat)}, TokB b ts → F2 ts us → TokB b us
  | .block n h, _, _, .block ha hb, .cons h1 (.cons h2 (.cons h3 (.cons h4 .nil))) => by
    rw [h1.sign (by omega), h3.sign (by omega)]
    exact .block (h2.numl ha) (h4.numl hb)
  | .scroller n h ps, _, _, .scroller ha hb hs, .cons h1 (.cons h2 (.cons h3 (.cons h4 (.cons h5 hr)))) => by
    obtain ⟨u, v, rfl, k1, k2⟩ := hr.split
    cases k2 with
    | cons k3 k4 =>
    cases k4
    rw [h1.sign (by omega), h3.sign (by omega), h5.sign (by omega), k3.sign (by omega)]
    exact .scroller (h2.numl ha) (h4.numl hb) (TokBs.noise hs k1)
theorem TokBs.noise : ∀ {ps : List Box} {ts us : List (List Nat)}, TokBs ps ts → F2 ts us → TokBs ps us
  | [], _, _, .nil, .nil => .nil
  | p :: r, _, _, .cons ha hb, h => by
    obtain ⟨u, v, rfl, k1, k2⟩ := h.split
    exact .cons (TokB.noise ha k1) (TokBs.noise hb k2)
end
/-- what may stand as a token -/
def TkOk (t : List Nat) : Prop := (∃ c, t = [c] ∧ (It.sgn c).Ok) ∨ (AllDigits t ∧ t ≠ [] ∧ t.length ≤ 10)
def isDg (t : List Nat) : Bool := match t with
  | [] => false
  | c :: _ => decide (48 ≤ c ∧ c ≤ 57)
def SepT : List (List Nat) → Prop
  | [] => True
  | [_] => True
  | a :: b :: r => (isDg a = true → isDg b = false) ∧ SepT (b :: r)
/-- items of a token: gaps ahead of it, zeros -/
def itT (g : List Nat) (z : Nat) (t : List Nat) : List It := g.map It.gap ++ [if isDg t then .dig (List.replicate z 48 ++ t) else .sgn (t.headD 0)]
def itN : List (List Nat × Nat) → List (List Nat) → List It
  | (g, z) :: ds, t :: ts => itT g z t ++ itN ds ts
  | _, _ => []
theorem itN_snoc (d : List Nat × Nat) (t : List Nat) : ∀ (ds : List (List Nat × Nat)) (ts : List (List Nat)), ds.length = ts.length → itN (ds ++ [d]) (ts ++ [t]) = itN ds ts ++ itT d.1 d.2 t
  | [], [], _ => by simp [itN]
  | (g, z) :: ds, s :: ts, h => by
    rw [List.cons_append, List.cons_append, itN, itN, itN_snoc d t ds ts (by simpa using h), List.append_assoc]
def GapOk (g : List Nat) : Prop := ∀ c ∈ g, c = 32 ∨ c = 10
theorem tkOk_dg {t : List Nat} (h : TkOk t) : (isDg t = true → AllDigits t ∧ t ≠ [] ∧ t.length ≤ 10) ∧ (isDg t = false → ∃ c, t = [c] ∧ (It.sgn c).Ok) := by
  rcases h with ⟨c, rfl, hc⟩ | ⟨h1, h2, h3⟩
  · refine ⟨fun z => ?_, fun _ => ⟨c, rfl, hc⟩⟩
    have z2 := of_decide_eq_true z
    rcases hc with rfl | rfl | rfl | rfl | rfl <;> omega
  · refine ⟨fun _ => ⟨h1, h2, h3⟩, fun z => ?_⟩
    cases t with
    | nil => exact absurd rfl h2
    | cons c t => exact absurd (h1 c (by simp)) (of_decide_eq_false z)
theorem itT_ok {g : List Nat} {z : Nat} {t : List Nat} (hg : GapOk g) (h : TkOk t) : ∀ i ∈ itT g z t, i.Ok := by
  intro i hi
  unfold itT at hi
  rcases List.mem_append.mp hi with hi | hi
  · obtain ⟨c, hc, rfl⟩ := List.mem_map.mp hi
    exact hg c hc
  · rw [List.mem_singleton] at hi
    subst hi
    obtain ⟨k1, k2⟩ := tkOk_dg h
    cases e : isDg t with
    | true =>
      obtain ⟨d1, d2, _⟩ := k1 e
      refine ⟨fun c hc => ?_, by simp [d2]⟩
      rcases List.mem_append.mp hc with y | y
      · have := List.eq_of_mem_replicate y
        omega
      · exact d1 c y
    | false =>
      obtain ⟨c, rfl, hc⟩ := k2 e
      exact hc
theorem gaps_sep {r : List It} (h : Sep r) : ∀ g : List Nat, Sep (g.map It.gap ++ r)
  | [] => h
  | c :: g => by
    have ih := gaps_sep h g
    rw [List.map_cons, List.cons_append]
    cases e : g.map It.gap ++ r with
    | nil => trivial
    | cons i r' =>
      rw [e] at ih
      exact ⟨fun z => by (exact absurd z (by simp [It.isDig])), ih⟩
def firstDg : List It → Bool
  | i :: _ => i.isDig
  | [] => false
theorem sep_cons {i : It} {r : List It} (h : Sep r) (k : i.isDig = true → firstDg r = false) : Sep (i :: r) := by
  cases r with
  | nil => trivial
  | cons j r => exact ⟨k, h⟩
theorem first_gaps {g : List Nat} : firstDg (g.map It.gap) = false := by cases g <;> rfl
theorem itN_sep {ge : List Nat} (hge : GapOk ge) : ∀ {ds : List (List Nat × Nat)} {ts : List (List Nat)}, ds.length = ts.length → SepT ts → Sep (itN ds ts ++ ge.map It.gap) ∧ (isDg (ts.headD []) = false → firstDg (itN ds ts ++ ge.map It.gap) = false)
  | [], [], _, _ => ⟨by
      have := gaps_sep (r := []) trivial ge
      rw [List.append_nil] at this
      exact this, fun _ => first_gaps⟩
  | (g, z) :: ds, t :: ts, hl, hs => by
    have hs2 : SepT ts := by
      cases ts with
      | nil => trivial
      | cons s ts => exact hs.2
    obtain ⟨ih1, ih2⟩ := itN_sep hge (ds := ds) (ts := ts) (by simpa using hl) hs2
    have hk : isDg t = true → firstDg (itN ds ts ++ ge.map It.gap) = false := fun ht => ih2 (by
      cases ts with
      | nil => rfl
      | cons s ts => exact hs.1 ht)
    rw [itN, itT, List.append_assoc, List.append_assoc]
    constructor
    · refine gaps_sep ?_ g
      refine sep_cons ih1 fun z => hk ?_
      cases e : isDg t with
      | true => rfl
      | false => rw [e] at z; cases z
    · intro ht
      cases g with
      | nil =>
        show It.isDig _ = false
        have ht : isDg t = false := ht
        rw [ht]
        rfl
      | cons c g => rfl
theorem toks_gaps (r : List It) : ∀ (g : List Nat) (k : Nat), toks k (g.map It.gap ++ r) = toks (k + g.length) r
  | [], k => rfl
  | c :: g, k => by
    rw [List.map_cons, List.cons_append, toks, toks_gaps r g]
    congr 1
    simp
    omega
theorem itN_toks {ge : List Nat} : ∀ {ds : List (List Nat × Nat)} {ts : List (List Nat)} (k : Nat), ds.length = ts.length → (∀ d ∈ ds, d.2 ≤ 4) → (∀ t ∈ ts, TkOk t) → F2 ts ((toks k (itN ds ts ++ ge.map It.gap)).map (·.2))
  | [], [], k, _, _, _ => by
    have := toks_gaps [] ge k
    rw [List.append_nil] at this
    rw [itN, List.nil_append, this]
    · exact .nil
    · intro _ _ _ _ _ _ z; cases z
  | (g, z) :: ds, t :: ts, k, hl, hd, ht => by
    obtain ⟨k1, k2⟩ := tkOk_dg (ht t (by simp))
    have hz := hd (g, z) (by simp)
    have ih := fun j => itN_toks (ge := ge) (ds := ds) (ts := ts) j (by simpa using hl) (fun d h => hd d (by simp [h])) (fun s h => ht s (by simp [h]))
    rw [itN, itT, List.append_assoc, List.append_assoc, toks_gaps]
    cases e : isDg t with
    | true =>
      obtain ⟨d1, d2, d3⟩ := k1 e
      refine .cons (.zeros z (by have : z ≤ 4 := hz; omega) d1 d2) (ih _)
    | false =>
      obtain ⟨c, rfl, hc⟩ := k2 e
      exact .cons (.same _) (ih _)
mutual
theorem tkB_tk : ∀ b : Box, (∀ p ∈ b.all, (0 ≤ p.num ∧ p.num ≤ 1000) ∧ 0 ≤ p.hgt ∧ p.hgt ≤ 1000) → ∀ t ∈ tkB b, TkOk t
  | .block n h, k => by
    obtain ⟨⟨a, b⟩, c, d⟩ := k (.block n h) (by rw [Box.all]; simp)
    replace a : 0 ≤ n := a
    replace b : n ≤ 1000 := b
    replace c : 0 ≤ h := c
    replace d : h ≤ 1000 := d
    have h1 := num_ok a (by omega)
    have h2 := num_ok c (by omega)
    have h3 := num_len a (by omega)
    have h4 := num_len c (by omega)
    intro t ht
    rw [tkB] at ht
    simp only [List.mem_cons, List.not_mem_nil, or_false] at ht
    rcases ht with rfl | rfl | rfl | rfl
    · exact .inl ⟨98, rfl, by simp [It.Ok]⟩
    · exact .inr ⟨h1.dig, h1.ne, h3⟩
    · exact .inl ⟨58, rfl, by simp [It.Ok]⟩
    · exact .inr ⟨h2.dig, h2.ne, h4⟩
  | .scroller n h ps, k => by
    obtain ⟨⟨a, b⟩, c, d⟩ := k (.scroller n h ps) (by rw [Box.all]; simp)
    replace a : 0 ≤ n := a
    replace b : n ≤ 1000 := b
    replace c : 0 ≤ h := c
    replace d : h ≤ 1000 := d
    have h1 := num_ok a (by omega)
    have h2 := num_ok c (by omega)
    have h3 := num_len a (by omega)
    have h4 := num_len c (by omega)
    have h5 := tkBs_tk ps fun p hp => k p (by rw [Box.all]; simp [hp])
    intro t ht
    rw [tkB] at ht
    simp only [List.mem_cons, List.mem_append, List.not_mem_nil, or_false] at ht
    rcases ht with rfl | rfl | rfl | rfl | rfl | ht | rfl
    · exact .inl ⟨115, rfl, by simp [It.Ok]⟩
    · exact .inr ⟨h1.dig, h1.ne, h3⟩
    · exact .inl ⟨58, rfl, by simp [It.Ok]⟩
    · exact .inr ⟨h2.dig, h2.ne, h4⟩
    · exact .inl ⟨91, rfl, by simp [It.Ok]⟩
    · exact h5 t ht
    · exact .inl ⟨93, rfl, by simp [It.Ok]⟩
theorem tkBs_tk : ∀ ps : List Box, (∀ p ∈ alls ps, (0 ≤ p.num ∧ p.num ≤ 1000) ∧ 0 ≤ p.hgt ∧ p.hgt ≤ 1000) → ∀ t ∈ tkBs ps, TkOk t
  | [], _, t, h => by rw [tkBs] at h; cases h
  | p :: r, k, t, h => by
    rw [alls] at k
    rw [tkBs] at h
    rcases List.mem_append.mp h with h | h
    · exact tkB_tk p (fun q hq => k q (List.mem_append_left _ hq)) t h
    · exact tkBs_tk r (fun q hq => k q (List.mem_append_right _ hq)) t h
end
/-- tokens that begin with no figure, ahead of a sign -/
theorem sepT_cons {a : List Nat} {r : List (List Nat)} (h : SepT r) (k : isDg a = true → isDg (r.headD []) = false) : SepT (a :: r) := by
  cases r with
  | nil => trivial
  | cons b r => exact ⟨k, h⟩
mutual
theorem tkB_sep : ∀ (b : Box) (r : List (List Nat)), SepT r → isDg (r.headD []) = false → SepT (tkB b ++ r) ∧ isDg ((tkB b ++ r).headD []) = false
  | .block n h, r, h1, h2 => by
    rw [tkB]
    refine ⟨sepT_cons (sepT_cons (sepT_cons (sepT_cons h1 fun _ => h2) fun z => ?_) fun _ => rfl) fun z => ?_, rfl⟩
    · exact absurd z (by decide)
    · exact absurd z (by decide)
  | .scroller n h ps, r, h1, h2 => by
    rw [tkB]
    obtain ⟨k1, k2⟩ := tkBs_sep ps ([93] :: r) (sepT_cons h1 fun z => absurd z (by decide)) (by show isDg [93] = false; decide)
    show SepT ([115] :: num n :: [58] :: num h :: [91] :: ((tkBs ps ++ [[93]]) ++ r)) ∧ _
    rw [List.append_assoc]
    refine ⟨sepT_cons (sepT_cons (sepT_cons (sepT_cons (sepT_cons k1 fun z => ?_) fun _ => rfl) fun z => ?_) fun _ => rfl) fun z => ?_, rfl⟩
    · exact absurd z (by decide)
    · exact absurd z (by decide)
    · exact absurd z (by decide)
theorem tkBs_sep : ∀ (ps : List Box) (r : List (List Nat)), SepT r → isDg (r.headD []) = false → SepT (tkBs ps ++ r) ∧ isDg ((tkBs ps ++ r).headD []) = false
  | [], r, h1, h2 => by rw [tkBs]; exact ⟨h1, h2⟩
  | p :: q, r, h1, h2 => by
    rw [tkBs, List.append_assoc]
    obtain ⟨k1, k2⟩ := tkBs_sep q r h1 h2
    exact tkB_sep p _ k1 k2
end
/-! ### the canonical items -/
mutual
theorem itB_ok : ∀ b : Box, (∀ p ∈ b.all, (0 ≤ p.num ∧ p.num ≤ 1000) ∧ 0 ≤ p.hgt ∧ p.hgt ≤ 1000) → ∀ i ∈ itB b, i.Ok
  | .block n h, k => by
    obtain ⟨⟨a, b⟩, c, d⟩ := k (.block n h) (by rw [Box.all]; simp)
    replace a : 0 ≤ n := a
    replace b : n ≤ 1000 := b
    replace c : 0 ≤ h := c
    replace d : h ≤ 1000 := d
    have h1 := num_ok a (by omega)
    have h2 := num_ok c (by omega)
    intro i hi
    rw [itB] at hi
    simp only [List.mem_cons, List.not_mem_nil, or_false] at hi
    rcases hi with rfl | rfl | rfl | rfl
    · simp [It.Ok]
    · exact ⟨h1.dig, h1.ne⟩
    · simp [It.Ok]
    · exact ⟨h2.dig, h2.ne⟩
  | .scroller n h ps, k => by
    obtain ⟨⟨a, b⟩, c, d⟩ := k (.scroller n h ps) (by rw [Box.all]; simp)
    replace a : 0 ≤ n := a
    replace b : n ≤ 1000 := b
    replace c : 0 ≤ h := c
    replace d : h ≤ 1000 := d
    have h1 := num_ok a (by omega)
    have h2 := num_ok c (by omega)
    have h5 := itBs_ok ps fun p hp => k p (by rw [Box.all]; simp [hp])
    intro i hi
    rw [itB] at hi
    simp only [List.mem_cons, List.mem_append, List.not_mem_nil, or_false] at hi
    rcases hi with rfl | rfl | rfl | rfl | rfl | hi | rfl
    · simp [It.Ok]
    · exact ⟨h1.dig, h1.ne⟩
    · simp [It.Ok]
    · exact ⟨h2.dig, h2.ne⟩
    · simp [It.Ok]
    · exact h5 i hi
    · simp [It.Ok]
theorem itBs_ok : ∀ ps : List Box, (∀ p ∈ alls ps, (0 ≤ p.num ∧ p.num ≤ 1000) ∧ 0 ≤ p.hgt ∧ p.hgt ≤ 1000) → ∀ i ∈ itBs ps, i.Ok
  | [], _, i, h => by rw [itBs] at h; cases h
  | [p], k, i, h => by
    rw [itBs] at h
    exact itB_ok p (fun q hq => k q (by rw [alls]; exact List.mem_append_left _ hq)) i h
  | p :: q :: r, k, i, h => by
    rw [itBs] at h
    rcases List.mem_append.mp h with h | h
    · exact itB_ok p (fun s hs => k s (by rw [alls]; exact List.mem_append_left _ hs)) i h
    · rcases List.mem_cons.mp h with rfl | h
      · exact .inl rfl
      · exact itBs_ok (q :: r) (fun s hs => k s (by rw [alls]; exact List.mem_append_right _ hs)) i h
end
mutual
theorem itB_sep : ∀ (b : Box) (r : List It), Sep r → firstDg r = false → Sep (itB b ++ r) ∧ firstDg (itB b ++ r) = false
  | .block n h, r, h1, h2 => by
    rw [itB]
    exact ⟨sep_cons (sep_cons (sep_cons (sep_cons h1 fun _ => h2) (fun z => by cases z)) fun _ => rfl) (fun z => by cases z), rfl⟩
  | .scroller n h ps, r, h1, h2 => by
    rw [itB]
    obtain ⟨k1, k2⟩ := itBs_sep ps (.sgn 93 :: r) (sep_cons h1 (fun z => by cases z)) rfl
    show Sep (.sgn 115 :: .dig (num n) :: .sgn 58 :: .dig (num h) :: .sgn 91 :: ((itBs ps ++ [.sgn 93]) ++ r)) ∧ _
    rw [List.append_assoc]
    exact ⟨sep_cons (sep_cons (sep_cons (sep_cons (sep_cons k1 (fun z => by cases z)) fun _ => rfl) (fun z => by cases z)) fun _ => rfl) (fun z => by cases z), rfl⟩
theorem itBs_sep : ∀ (ps : List Box) (r : List It), Sep r → firstDg r = false → Sep (itBs ps ++ r) ∧ firstDg (itBs ps ++ r) = false
  | [], r, h1, h2 => by rw [itBs]; exact ⟨h1, h2⟩
  | [p], r, h1, h2 => by rw [itBs]; exact itB_sep p r h1 h2
  | p :: q :: s, r, h1, h2 => by
    rw [itBs, List.append_assoc]
    obtain ⟨k1, k2⟩ := itBs_sep (q :: s) r h1 h2
    exact itB_sep p _ (sep_cons k1 (fun z => by cases z)) rfl
end
theorem tkBs_app : ∀ a b : List Box, tkBs (a ++ b) = tkBs a ++ tkBs b
  | [], _ => rfl
  | p :: a, b => by rw [List.cons_append, tkBs, tkBs, tkBs_app a b, List.append_assoc]
mutual
theorem tkB_len : ∀ b : Box, (tkB b).length ≤ 6 * b.all.length
  | .block n h => by rw [tkB, Box.all]; simp
  | .scroller n h ps => by
    have := tkBs_len ps
    rw [tkB, Box.all]
    simp
    omega
theorem tkBs_len : ∀ ps : List Box, (tkBs ps).length ≤ 6 * (alls ps).length
  | [] => by rw [tkBs]; simp
  | p :: r => by
    have h1 := tkB_len p
    have h2 := tkBs_len r
    rw [tkBs, alls, List.length_append, List.length_append]
    omega
end
theorem itT_txts {g : List Nat} {z : Nat} {t : List Nat} (h : TkOk t) : txts (itT g z t) = g ++ (if isDg t then List.replicate z 48 ++ t else t) := by
  have e : ∀ g : List Nat, txts (g.map It.gap) = g := by
    intro g
    induction g with
    | nil => rfl
    | cons c g ih => rw [List.map_cons, txts, ih]; rfl
  rw [itT, txts_app, e, txts, txts, List.append_nil]
  congr 1
  obtain ⟨k1, k2⟩ := tkOk_dg h
  cases hd : isDg t with
  | true => rfl
  | false =>
    obtain ⟨c, rfl, _⟩ := k2 hd
    rfl
theorem gaps_txts (g : List Nat) : txts (g.map It.gap) = g := by
  induction g with
  | nil => rfl
  | cons c g ih => rw [List.map_cons, txts, ih]; rfl
theorem tk_len {t : List Nat} (h : TkOk t) : 1 ≤ t.length ∧ t.length ≤ 10 := by
  rcases h with ⟨c, rfl, _⟩ | ⟨_, h2, h3⟩
  · simp
  · exact ⟨by cases t with | nil => exact absurd rfl h2 | cons _ _ => simp, h3⟩
theorem itN_ok {ge : List Nat} (hge : GapOk ge) : ∀ {ds : List (List Nat × Nat)} {ts : List (List Nat)}, (∀ d ∈ ds, GapOk d.1) → (∀ t ∈ ts, TkOk t) → ∀ i ∈ itN ds ts ++ ge.map It.gap, i.Ok
  | [], ts, _, _, i, h => by
    rw [itN, List.nil_append] at h
    · obtain ⟨c, hc, rfl⟩ := List.mem_map.mp h
      exact hge c hc
    · intro _ _ _ _ _ z; cases z
  | d :: ds, [], _, _, i, h => by
    rw [itN, List.nil_append] at h
    · obtain ⟨c, hc, rfl⟩ := List.mem_map.mp h
      exact hge c hc
    · intro _ _ _ _ _ _ z; cases z
  | (g, z) :: ds, t :: ts, hd, ht, i, h => by
    rw [itN, List.append_assoc] at h
    rcases List.mem_append.mp h with h | h
    · exact itT_ok (hd (g, z) (by simp)) (ht t (by simp)) i h
    · exact itN_ok hge (fun d hd' => hd d (by simp [hd'])) (fun s hs => ht s (by simp [hs])) i h
end Dv

set_option maxRecDepth 100000
set_option maxHeartbeats 1000000
/-! Lambdas that capture names, handed to defs. -/
namespace Dv
open PySem PySem.Spec PyProof.Rows L2
/-! ### objects that are told to stay as they are, for the time of a call -/
def withP (S : Addr → Option Obj) (H : Hp) : Hp := fun b => match S b with
  | some o => some (PinO b o)
  | none => H b
def lessP (S : Addr → Option Obj) (H : Hp) : Hp := fun b => match S b with
  | some _ => none
  | none => H b
theorem withP_some {S : Addr → Option Obj} {H : Hp} {b : Addr} {o : Obj} (h : S b = some o) : withP S H b = some (PinO b o) := by unfold withP; rw [h]
theorem withP_none {S : Addr → Option Obj} {H : Hp} {b : Addr} (h : S b = none) : withP S H b = H b := by unfold withP; rw [h]
theorem lessP_some {S : Addr → Option Obj} {H : Hp} {b : Addr} {o : Obj} (h : S b = some o) : lessP S H b = none := by unfold lessP; rw [h]
theorem lessP_none {S : Addr → Option Obj} {H : Hp} {b : Addr} (h : S b = none) : lessP S H b = H b := by unfold lessP; rw [h]
theorem pin_own {b a : Addr} {o : Obj} : PinO b o ≠ .own a := fun z => by unfold PinO at z; cases z
theorem pin_tup {b : Addr} {o : Obj} {xs : List V} : PinO b o ≠ .tup xs := fun z => by unfold PinO at z; cases z
theorem pin_lst {b : Addr} {o : Obj} {xs : List V} : PinO b o ≠ .lst xs := fun z => by unfold PinO at z; cases z
theorem pin_dK {b : Addr} {o : Obj} {xs : List (Key × V)} : PinO b o ≠ .dK xs := fun z => by unfold PinO at z; cases z
theorem pin_frz {b : Addr} {o o' : Obj} {u : HO} : PinO b o ≠ .frz o' u := fun z => by unfold PinO at z; cases z
theorem pin_tbl {b : Addr} {o : Obj} {ps : Array Value} : PinO b o ≠ .tbl ps := fun z => by unfold PinO at z; cases z
theorem pin_ok {P : Program} {w : World} {H : Hp} {h : Heap} {b : Addr} {o : Obj} (e : h.get? b = some o) : ObjOk P w H h b (PinO b o) := ⟨e, ⟨o, e⟩, fun _ _ p st => st o p⟩
theorem pin_at {P : Program} {w : World} {H : Hp} {h : Heap} {b : Addr} {o : Obj} (x : HOk P w H h) (e : H b = some (PinO b o)) : h.get? b = some o := (x b _ e).1
section
variable {P : Program} {w : World} {K : PySem.W.Frag} {mg : Str → Option Value} {base : Heap} {A : Around} {outer : List PySem.Env} {s s' : Shared} {H H' : Hp} {h h' : Heap} {S : Addr → Option Obj} {Q : VK} {u : Value}
/-- S can be told of -/
structure CanP (S : Addr → Option Obj) (base : Heap) (outer : List PySem.Env) (H : Hp) (h : Heap) : Prop where
  at_ : ∀ b o, S b = some o → h.get? b = some o
  no : ∀ b o, S b = some o → H b = none
  fr : ∀ b o, S b = some o → b ∉ frs outer
  bs : ∀ b o, S b = some o → base.get? b = none
theorem hok_with (x : HOk P w H h) (c1 : ∀ b o, S b = some o → h.get? b = some o) (c2 : ∀ b o, S b = some o → H b = none) : HOk P w (withP S H) h := fun b u e => by
  cases hs : S b with
  | some o =>
    rw [withP_some hs] at e
    cases e
    exact pin_ok (c1 b o hs)
  | none =>
    rw [withP_none hs] at e
    have keep : ∀ c v, H c = some v → withP S H c = some v := fun c v q => by
      cases hc : S c with
      | some o => rw [c2 c o hc] at q; cases q
      | none => rw [withP_none hc]; exact q
    exact (x b u e).stay (fun _ _ _ q => q) (fun c q => keep c _ q) fun c xs q => keep c _ q
theorem hok_less (x : HOk P w H h) (c : ∀ b o, S b = some o → H b = some (PinO b o)) : HOk P w (lessP S H) h := fun b u e => by
  cases hs : S b with
  | some o => rw [lessP_some hs] at e; cases e
  | none =>
    rw [lessP_none hs] at e
    refine (x b u e).stay (fun _ _ _ q => q) (fun d q => ?_) fun d xs q => ?_
    · cases hd : S d with
      | some o => rw [c d o hd] at q; exact absurd (Option.some.inj q) pin_own
      | none => rw [lessP_none hd]; exact q
    · cases hd : S d with
      | some o => rw [c d o hd] at q; exact absurd (Option.some.inj q) pin_tup
      | none => rw [lessP_none hd]; exact q
theorem env0_with (e : Env0 P w K mg base A outer s H) (c : CanP S base outer H s.heap) : Env0 P w K mg base A outer s (withP S H) where
  frames := e.frames
  mod := e.mod
  bs := fun b o q => by
    refine ⟨(e.bs b o q).1, ?_⟩
    cases hs : S b with
    | some o' => rw [c.bs b o' hs] at q; cases q
    | none => rw [withP_none hs]; exact (e.bs b o q).2
  bsz := e.bsz
  funs := e.funs
  frf := fun b hb => by
    cases hs : S b with
    | some o' => exact absurd hb (c.fr b o' hs)
    | none => rw [withP_none hs]; exact e.frf b hb
  hok := hok_with e.hok c.at_ c.no
  bare := e.bare
theorem env0_less (e : Env0 P w K mg base A outer s H) (c : ∀ b o, S b = some o → H b = some (PinO b o)) : Env0 P w K mg base A outer s (lessP S H) where
  frames := e.frames
  mod := e.mod
  bs := fun b o q => by
    refine ⟨(e.bs b o q).1, ?_⟩
    cases hs : S b with
    | some o' => exact lessP_some hs
    | none => rw [lessP_none hs]; exact (e.bs b o q).2
  bsz := e.bsz
  funs := e.funs
  frf := fun b hb => by
    cases hs : S b with
    | some o' => exact lessP_some hs
    | none => rw [lessP_none hs]; exact e.frf b hb
  hok := hok_less e.hok c
  bare := e.bare
/-- behind a call for which S was told of -/
theorem ce_less (c : CanP S base outer H s.heap) (x : CE outer P w (withP S H) s (fun v H' => (∀ b o, S b = some o → H' b = some (PinO b o)) ∧ Q v (lessP S H')) u s') : CE outer P w H s Q u s' := by
  obtain ⟨v, H', h1, h2, un, ok, rv, hp, q⟩ := x
  refine ⟨v, lessP S H', h1, h2, ⟨fun b o e n hf hx => ?_, fun b o e n hf hx => ?_, fun b o e n hx => ?_, fun b o e hx => un.there b o e hx, fun b xs e => ?_, fun b o u e => ?_, fun b ps e => ?_⟩, hok_less ok hp, rv, q⟩
  · cases hs : S b with
    | some o' =>
      have e2 := c.at_ b o' hs
      rw [e] at e2
      cases e2
      exact pin_at ok (hp b o hs)
    | none => exact un.keep b o e (by rw [withP_none hs]; exact n) hf hx
  · cases hs : S b with
    | some o' => exact absurd hf (c.fr b o' hs)
    | none => exact un.slot b o e (by rw [withP_none hs]; exact n) hf hx
  · cases hs : S b with
    | some o' => exact lessP_some hs
    | none => rw [lessP_none hs]; exact un.free b o e (by rw [withP_none hs]; exact n) hx
  · cases hs : S b with
    | some o' => rw [c.no b o' hs] at e; cases e
    | none => rw [lessP_none hs]; exact un.tups b xs (by rw [withP_none hs]; exact e)
  · cases hs : S b with
    | some o' => rw [c.no b o' hs] at e; cases e
    | none => rw [lessP_none hs]; exact un.frzs b o u (by rw [withP_none hs]; exact e)
  · cases hs : S b with
    | some o' => rw [c.no b o' hs] at e; cases e
    | none => rw [lessP_none hs]; exact un.tbls b ps (by rw [withP_none hs]; exact e)
/-- behind a call for which S was not told of -/
theorem ce_with (e0 : Env0 P w K mg base A outer s H) (c : ∀ b o, S b = some o → H b = some (PinO b o)) (x : CE outer P w (lessP S H) s (fun v H' => (∀ b o, S b = some o → H' b = none) → Q v (withP S H')) u s') : CE outer P w H s Q u s' := by
  obtain ⟨v, H', h1, h2, un, ok, rv, q⟩ := x
  have hat : ∀ b o, S b = some o → s.heap.get? b = some o := fun b o hs => pin_at e0.hok (c b o hs)
  have nfr : ∀ b o, S b = some o → b ∉ frs outer := fun b o hs hf => by
    have z := c b o hs
    rw [e0.frf b hf] at z
    cases z
  have hat' : ∀ b o, S b = some o → s'.heap.get? b = some o := fun b o hs => un.keep b o (hat b o hs) (lessP_some hs) (nfr b o hs) (by simp)
  have hno' : ∀ b o, S b = some o → H' b = none := fun b o hs => un.free b o (hat b o hs) (lessP_some hs) (by simp)
  refine ⟨v, withP S H', h1, h2, ⟨fun b o e n hf hx => ?_, fun b o e n hf hx => ?_, fun b o e n hx => ?_, fun b o e hx => un.there b o e hx, fun b xs e => ?_, fun b o u e => ?_, fun b ps e => ?_⟩, hok_with ok hat' hno', rv, q hno'⟩
  · cases hs : S b with
    | some o' => rw [c b o' hs] at n; cases n
    | none => exact un.keep b o e (by rw [lessP_none hs]; exact n) hf hx
  · cases hs : S b with
    | some o' => rw [c b o' hs] at n; cases n
    | none => exact un.slot b o e (by rw [lessP_none hs]; exact n) hf hx
  · cases hs : S b with
    | some o' => rw [c b o' hs] at n; cases n
    | none => rw [withP_none hs]; exact un.free b o e (by rw [lessP_none hs]; exact n) hx
  · cases hs : S b with
    | some o' => rw [c b o' hs] at e; exact absurd (Option.some.inj e) pin_tup
    | none => rw [withP_none hs]; exact un.tups b xs (by rw [lessP_none hs]; exact e)
  · cases hs : S b with
    | some o' => rw [c b o' hs] at e; exact absurd (Option.some.inj e) pin_frz
    | none => rw [withP_none hs]; exact un.frzs b o u (by rw [lessP_none hs]; exact e)
  · cases hs : S b with
    | some o' => rw [c b o' hs] at e; exact absurd (Option.some.inj e) pin_tbl
    | none => rw [withP_none hs]; exact un.tbls b ps (by rw [lessP_none hs]; exact e)
end
/-! ### the making of a lambda -/
def TabOk (H : Hp) (ps : Array Value) (q : Str) : Prop := TriplesOk ps.toList ∧ ∀ (pos : Pos) (cv : Value), codeAmong pos ps.toList = some cv → ∃ c, cv = .ref c ∧ H c = some (LamX.CodeO c q)
theorem TabOk.grown {H H1 : Hp} {ps : Array Value} {q : Str} {c : Addr} {pos : Pos} (h : TabOk H ps q) (k : ∀ b o, H b = some (LamX.CodeO b o) → H1 b = some (LamX.CodeO b o)) (hc : H1 c = some (LamX.CodeO c q)) : TabOk H1 (ps ++ #[rawInt pos.line, rawInt pos.col, .ref c]) q := by
  have e : (ps ++ #[rawInt pos.line, rawInt pos.col, .ref c]).toList = ps.toList ++ [rawInt pos.line, rawInt pos.col, .ref c] := by simp
  refine ⟨by rw [e]; exact PySem.TriplesOk_snoc _ _ _ _ h.1, fun p cv hcv => ?_⟩
  rw [e] at hcv
  rcases LamX.among_app _ h.1 hcv with z | z
  · obtain ⟨c0, e1, e2⟩ := h.2 p cv z
    exact ⟨c0, e1, k _ _ e2⟩
  · exact ⟨c, z, hc⟩
section
variable {X : Cx} {pins : List (Addr × Obj)} {σ : L2.St} {H : Hp} {s : Shared}
theorem lam_mk {cd Pt : Addr} {ps : Array Value} {q : Str} {params : Arguments} {body : Expr} {scope : Scope} {pos : Pos} {E : Value → Shared → Prop} {Q : Value → Shared → Prop} (I : Inv X pins σ H s) (TB : LamX.TabB X.base X.mg cd Pt) (hcode : X.env.code = .ref cd)
    (hq : X.env.qual ++ "<lambda>" = q) (hP : H Pt = some (.tbl ps)) (hT : TabOk H ps q) (hdef : defaultsOf params X.env = ([], [])) (hfree : ∀ y ∈ scope.names, y.2 = .free → ∃ c, X.env.cells.lookup y.1 = some c)
    (h : ∀ (f c : Addr) (pm ctv : Value) (ps' : Array Value) (H1 : Hp) (s' : Shared), Inv X pins σ H1 s' → (∀ b u, H b = some u → b ≠ Pt → H1 b = some u) → H1 Pt = some (.tbl ps') → TriplesOk ps'.toList → (∀ (p : Pos) (cv : Value), codeAmong p ps'.toList = some cv → codeAmong p ps.toList = some cv ∨ cv = .ref c) → (H c = none ∨ ∃ p, codeAmong p ps.toList = some (.ref c)) → H1 c = some (LamX.CodeO c q) → c ≠ Pt →
      s'.heap.get? f = some (PySem.W.kla_obj "<lambda>" q params body scope (cloFrom X.env.cells scope.names []) pm c ctv) → H1 f = none → f ∉ frs X.stack → X.base.get? f = none → Q (.ref f) s') :
    wpAny (model X.prog X.w) X.A (eval (.Lambda params body scope pos) X.env) Q E s := by
  subst hq
  have hb := TB.bm.keeps I.bk
  have hPh : s.heap.get? Pt = some { cls := .none, data := .fields ps } := I.hok Pt _ hP
  have hout : ∀ f, s.heap.objs.size ≤ f → f ∉ frs X.stack ∧ X.base.get? f = none := fun f hf => by
    refine ⟨fun z => ?_, ?_⟩
    · rcases List.mem_cons.mp (I.stkSub _ z) with e | e
      · have h1 := I.lt
        rw [← e] at h1
        exact absurd (Nat.lt_of_lt_of_le h1 hf) (Nat.lt_irrefl _)
      · exact I.nofs hf e
    · cases e : X.base.get? f with
      | none => rfl
      | some o =>
        exact absurd (Nat.lt_of_lt_of_le (Heap.lt_size (I.bk f o e)) hf) (Nat.lt_irrefl _)
  refine PySem.W.kla_eval hdef ?_
  cases hc : codeAmong pos ps.toList with
  | some cv =>
    obtain ⟨c, e, hco⟩ := hT.2 pos cv hc
    subst e
    refine PySem.W.kla_makeFunctionHit (mg := X.mg) (c := cd) (P := Pt) (ps := ps) (closure_ok hfree) I.ok.glob (I.mod.glob.keeps I.bk) hcode (TB.code.keeps I.bk) hPh hT.1 hc hb fun ctv h' tk hx hsz => ?_
    obtain ⟨o1, o2⟩ := hout _ hsz
    have ncP : c ≠ Pt := fun z => by
      rw [z, hP] at hco
      unfold LamX.CodeO at hco
      cases hco
    exact h h'.objs.size c ((X.mg "__name__").getD .none) ctv ps H _ (I.kept fun b o e => Heap.get?_push_of_some _ (hx b o e)) (fun b u e _ => e) hP hT.1 (fun _ _ z => .inl z) (.inr ⟨pos, hc⟩) hco ncP (Heap.get?_push_size _ rfl) (I.hok.fresh hsz) o1 o2
  | none =>
    refine PySem.W.kla_makeFunction (mg := X.mg) (c := cd) (P := Pt) (ps := ps) (closure_ok hfree) I.ok.glob (I.mod.glob.keeps I.bk) hcode (TB.code.keeps I.bk) hPh hT.1 hc TB.gP hb fun c ctv h' tk hx hge hlt hrec htb => ?_
    obtain ⟨c2, oc, vs, t, e2, hoc, hd, hv⟩ := hrec
    cases e2
    have hsz : s.heap.objs.size ≤ h'.objs.size := Nat.le_trans hge (Nat.le_of_lt hlt)
    have nC : H c = none := I.hok.fresh hge
    have ncP : c ≠ Pt := fun z => by rw [z, hP] at nC; cases nC
    obtain ⟨o1, o2⟩ := hout _ hsz
    have I1 := LamX.inv_table (t' := tk) (more := #[rawInt pos.line, rawInt pos.col, .ref c]) (h' := h'.push (PySem.W.kla_obj "<lambda>" (X.env.qual ++ "<lambda>") params body scope (cloFrom X.env.cells scope.names []) ((X.mg "__name__").getD .none) c ctv)) I hP
      (fun b o hb e => Heap.get?_push_of_some _ (hx b o hb e)) (Heap.get?_push_of_some _ htb) hge ⟨oc, vs, t, Heap.get?_push_of_some _ hoc, hd, hv⟩
    have hPlt := Nat.lt_of_lt_of_le (Heap.lt_size hPh) hsz
    have nf : h'.objs.size ≠ c ∧ h'.objs.size ≠ Pt := ⟨Nat.ne_of_gt hlt, Nat.ne_of_gt hPlt⟩
    have eL : (ps ++ #[rawInt pos.line, rawInt pos.col, .ref c]).toList = ps.toList ++ [rawInt pos.line, rawInt pos.col, .ref c] := by simp
    refine h h'.objs.size c ((X.mg "__name__").getD .none) ctv _ _ _ I1 (fun b u e n => ?_) (by rw [upd_ne (Ne.symm ncP), upd_same]) (by rw [eL]; exact PySem.TriplesOk_snoc _ _ _ _ hT.1) (fun p cv hcv => by rw [eL] at hcv; exact LamX.among_app _ hT.1 hcv) (.inl nC) upd_same ncP (Heap.get?_push_size _ rfl) (by rw [upd_ne nf.1, upd_ne nf.2]; exact I.hok.fresh hsz) o1 o2
    rw [upd_ne (ne_of_none e nC), upd_ne n]
    exact e
end
/-! ### f(e1, e2, lambda ..: ..): the def f is called with a new function -/
def tCallLam (Pt : Addr) (L : LamT) (js : List Nat) (sp : Sp) (t1 t2 : TE) : TE := fun σ H Q => t1 σ H fun v1 H1 => t2 σ H1 fun v2 H2 => ∃ ps, H2 Pt = some (.tbl ps) ∧ TabOk H2 ps L.qual ∧
  ∃ caps : List V, caps.length = L.fr.length ∧ js.length = L.fr.length ∧ (∀ (i j : Nat) (v : V), js[i]? = some j → caps[i]? = some v → σ[j]? = some (some v)) ∧
    ∀ (f c : Addr) (S : Addr → Option Obj) (ps' : Array Value) (H3 : Hp), (∀ b u, H2 b = some u → b ≠ Pt → H3 b = some u) → H3 Pt = some (.tbl ps') → TriplesOk ps'.toList → (∀ (p : Pos) (cv : Value), codeAmong p ps'.toList = some cv → codeAmong p ps.toList = some cv ∨ cv = .ref c) →
      (H2 c = none ∨ ∃ p, codeAmong p ps.toList = some (.ref c)) → H3 c = some (LamX.CodeO c L.qual) → c ≠ Pt → (∀ b o, S b = some o → H3 b = none) → (∀ Bx : Hp, Bx c = some (LamX.CodeO c L.qual) → FnAt (withP S Bx) f L caps) →
      sp [v1, v2, .ref f] (withP S H3) (fun v H4 => (∀ b o, S b = some o → H4 b = some (PinO b o)) ∧ Q v (lessP S H4)) E0
section
variable {X : Cx} {x : Str} {ps : List Str} {sp : Sp} {k : Nat} {p pos lpos : Pos} {e1 e2 : Expr} {t1 t2 : TE} {params : Arguments} {body : Expr} {scope : Scope} {fr : List Str} {js : List Nat} {cd Pt : Addr} {L : LamT}
theorem pe_callLam (h : Has X.prog X.w X.K X.mg X.base k x ps sp) (hr : Room k X.A) (h1 : PE X e1 t1) (h2 : PE X e2 t2) (TB : LamX.TabB X.base X.mg cd Pt) (hcode : X.env.code = .ref cd)
    (hL : L = ⟨X.env.qual ++ "<lambda>", params, body, scope, fr⟩) (hdef : defaultsOf params X.env = ([], [])) (hfr : ∀ y ∈ scope.names, y.2 = .free → X.env.scope.names.lookup y.1 = some .cell)
    (hcap : ∀ (i : Nat) (y : Str), fr[i]? = some y → (y, NameKind.free) ∈ scope.names ∧ ∃ j, js[i]? = some j ∧ X.N[j]? = some y) (hfn : ∀ y, X.fn y = true) (hex : X.ex = []) (hg : Gl X x := by rfl) (hdb : (x == ("__debug__" : Str)) = false := by decide)
    (hx : ∀ CXX, CXX = CX0 → Passes CXX X E0 := by intro _ h; subst h; exact pass0)
    (hs : starEach [e1, e2, .Lambda params body scope lpos] X.env = (false, eval e1 X.env) :: starEach [e2, .Lambda params body scope lpos] X.env := by rfl)
    (hs2 : starEach [e2, .Lambda params body scope lpos] X.env = [(false, eval e2 X.env), (false, eval (.Lambda params body scope lpos) X.env)] := by rfl) :
    PE X (.Call (.Name x p) [e1, e2, .Lambda params body scope lpos] [] pos) (tCallLam Pt L js sp t1 t2) := by
  obtain ⟨g, fd, F, hm, hk, hb⟩ := h
  refine ⟨fun pins s σ H Q I ht => ?_⟩
  refine wpAny_Call_Name_kw (ld_glob I hg hm ?_ hdb)
  refine PySem.W.callWith_K (h₀ := X.base) I.ok.mod.kin hk ?_ hs (by rw [hs2]; rfl)
  rw [hs, hs2]
  show wpAny _ _ (spliced [(false, eval e1 X.env), (false, eval e2 X.env), (false, eval (.Lambda params body scope lpos) X.env)]) _ _ s
  refine Calls.spliced_cons (thn (h1.run pins s σ H _ I ht) fun u1 s1 ⟨v1, H1, I1, r1, ht1⟩ => ?_)
  refine Calls.spliced_cons (thn (h2.run pins s1 σ H1 _ I1 ht1) fun u2 s2 ⟨v2, H2, I2, r2, tab, hP, hT, caps, hcl, hjl, hcv, hsp⟩ => ?_)
  have hfree : ∀ y ∈ scope.names, y.2 = .free → ∃ c, X.env.cells.lookup y.1 = some c := fun y hy e => I2.ok.has _ (.inl (hfr y hy e))
  have hq : X.env.qual ++ "<lambda>" = L.qual := by rw [hL]
  refine Calls.spliced_cons (lam_mk I2 TB hcode hq hP hT hdef hfree fun f c pm ctv tab' H3 s3 I3 k3 hP3 hT3 hU3 hC3 hc3 ncP hf nf nfr nb => ?_)
  refine Calls.spliced_nil ⟨I3.kIn, ?_⟩
  show wpAny _ _ (call (.ref g) [u1, u2, .ref f]) _ _ _
  classical
  let S : Addr → Option Obj := fun b => if b = f ∨ ∃ y, (cloFrom X.env.cells scope.names []).lookup y = some b then s3.heap.get? b else none
  have Sf : S f = s3.heap.get? f := if_pos (.inl rfl)
  have Sc : ∀ y d, (cloFrom X.env.cells scope.names []).lookup y = some d → S d = s3.heap.get? d := fun y d hd => if_pos (.inr ⟨y, hd⟩)
  have Sin : ∀ b o, S b = some o → (b = f ∨ ∃ y, (cloFrom X.env.cells scope.names []).lookup y = some b) ∧ s3.heap.get? b = some o := fun b o hs => by
    by_cases z : b = f ∨ ∃ y, (cloFrom X.env.cells scope.names []).lookup y = some b
    · exact ⟨z, by rw [← hs]; exact (if_pos z).symm⟩
    · have e : S b = none := if_neg z
      rw [e] at hs
      cases hs
  have cm : ∀ {y d}, (cloFrom X.env.cells scope.names []).lookup y = some d → X.env.cells.lookup y = some d := fun {y d} e => NdefX.clo_cm hfree e
  have no : ∀ b o, S b = some o → H3 b = none := fun b o hs => by
    obtain ⟨z | ⟨y, z⟩, _⟩ := Sin b o hs
    · rw [z]; exact nf
    · exact I3.freeC y b (cm z)
  have dcell : ∀ {y d}, (cloFrom X.env.cells scope.names []).lookup y = some d → X.s_0.heap.objs.size ≤ d := fun {y d} e => I3.ok.cab y d (hfn y) (cm e)
  have can : CanP S X.base X.stack H3 s3.heap := by
    refine ⟨fun b o hs => (Sin b o hs).2, no, fun b o hs => ?_, fun b o hs => ?_⟩
    · obtain ⟨z | ⟨y, z⟩, hg⟩ := Sin b o hs
      · rw [z]; exact nfr
      · intro hm
        rcases List.mem_cons.mp (I3.stkSub _ hm) with e | e
        · obtain ⟨v, oc, hoc, hd⟩ := I3.cell y b (cm z)
          obtain ⟨m, hns, _⟩ := I3.loc
          obtain ⟨on, es, ep, hon, hdn, _⟩ := hns
          rw [e, hon] at hoc
          cases hoc
          rw [hdn] at hd
          cases hd
        · obtain ⟨_, o', ho', _⟩ := I3.ok.funs.mem e
          exact absurd (Nat.lt_of_lt_of_le (Heap.lt_size ho') (dcell z)) (Nat.lt_irrefl _)
    · obtain ⟨z | ⟨y, z⟩, hg⟩ := Sin b o hs
      · rw [z]; exact nb
      · cases e : X.base.get? b with
        | none => rfl
        | some o' => exact absurd (Nat.lt_of_lt_of_le (Heap.lt_size (I3.ok.bs b o' e).1) (dcell z)) (Nat.lt_irrefl _)
  have fat : ∀ Bx : Hp, Bx c = some (LamX.CodeO c L.qual) → FnAt (withP S Bx) f L caps := fun Bx hBx => by
    have Sn : S c = none := by
      cases e : S c with
      | none => rfl
      | some o => rw [no c o e] at hc3; cases hc3
    subst hL
    refine ⟨cloFrom X.env.cells scope.names [], pm, ctv, c, withP_some (by rw [Sf]; exact hf), by rw [withP_none Sn]; exact hBx, hcl, fun y d hd => ?_, fun y z d e1 e2 => I3.ok.inj y z d (cm e1) (cm e2), fun i y hy => ?_⟩
    · obtain ⟨v, oc, hoc, hdat⟩ := I3.cell y d (cm hd)
      exact ⟨oc, v, withP_some (by rw [Sc y d hd]; exact hoc), hdat⟩
    · obtain ⟨hy1, j, hj, hN⟩ := hcap i y hy
      have hkind := hfr _ hy1 rfl
      obtain ⟨d, hd⟩ := hfree _ hy1 rfl
      have hd : X.env.cells.lookup y = some d := hd
      have hi : i < caps.length := by
        have hlt := (List.getElem?_eq_some_iff.mp hy).1
        exact Nat.lt_of_lt_of_le hlt (Nat.le_of_eq hcl.symm)
      have hv := hcv i j caps[i] hj (List.getElem?_eq_getElem hi)
      obtain ⟨m, _, hl⟩ := I3.loc
      obtain ⟨u, ru, look⟩ := hl j y caps[i] hN hv (.inr (.inl hkind))
      have hcl2 := NdefX.clo_has hfree hy1 hd
      rcases look with ⟨hloc, _⟩ | ⟨_, d2, hd2, oc, hoc, hdat⟩
      · have hloc : X.env.scope.names.lookup y = some .local := hloc
        rw [hkind] at hloc
        cases hloc
      · rw [hd] at hd2
        cases hd2
        exact ⟨d, oc, caps[i], u, hcl2, withP_some (by rw [Sc y d hcl2]; exact hoc), hdat, List.getElem?_eq_getElem hi, ru⟩
  have q := hsp f c S tab' H3 k3 hP3 hT3 hU3 hC3 hc3 ncP no fat
  have r : Vals [v1, v2, V.ref f] [u1, u2, Value.ref f] := .cons r1 (.cons r2 (.cons rfl .nil))
  have hl : ([u1, u2, Value.ref f] : List Value).length = ps.length := by rw [← r.length]; exact F.len _ _ _ _ q
  have bnd := hb s3 [u1, u2, .ref f] I3.kIn (by rw [List.append_nil]; exact hl)
  rw [List.append_nil] at bnd
  refine wpAny_call (codeAny_mono (F.run X.A X.stack s3 (withP S H3) ⟨[u1, u2, .ref f], []⟩ [u1, u2, .ref f] _ _ E0 hr (env0_with I3.env0 can) bnd r q) fun r' s' hq' => ?_)
  cases r' with
  | error e => exact False.elim hq'
  | ok fl =>
    cases fl with
    | ret u => exact I3.after (ce_less can hq')
    | next => exact False.elim hq'
    | brk => exact False.elim hq'
    | cont => exact False.elim hq'
end
/-! ### g(e), g a name that holds such a function -/
def tCallFn (L : LamT) (N : List Str) (i : Nat) (tb t1 : TE) : TE := fun σ H Q => ∃ f, σ[i]? = some (some (.ref f)) ∧ (∃ caps, FnAt H f L caps) ∧ t1 σ H fun v H1 => ∃ caps, FnAt H1 f L caps ∧
  ∀ S : Addr → Option Obj, (∀ b o, S b = some o → H1 b = some (PinO b o)) → tb (NdefX.startF N [v] (caps.map some)) (lessP S H1) fun u H2 => (∀ b o, S b = some o → H2 b = none) → Q u (withP S H2)
theorem fn_heap {P : Program} {w : World} {H : Hp} {h : Heap} {f : Addr} {L : LamT} {caps : List V} (ok : HOk P w H h) (x : FnAt H f L caps) : PySem.W.FnAt f h := by
  obtain ⟨cl, pm, ctv, c, h1, _⟩ := x.ex
  have ho := pin_at ok h1
  exact ⟨_, _, _, _, ho⟩
section
variable {X : Cx} {x p : Str} {k i : Nat} {p1 pos : Pos} {e : Expr} {t1 tb : TE} {L : LamT} {N : List Str}
theorem pe_callFn (hN : X.N[i]? = some x) (hv : Vis X.env.scope x) (he : PE X e t1) (hr : Room (k + 1) X.A) (S : NdefX.NScope N [p] L.fr L.scope)
    (hbind : ∀ (cl : List (Str × Addr)) (pm cv ctv u : Value), bindArgs (PySem.W.kla_fn "<lambda>" L.qual L.params L.body L.scope cl pm cv ctv) ⟨[u], []⟩ = pure [(p, u)])
    (hbody : ∀ (A : Around) (outer : List PySem.Env) (s : Shared) (H : Hp) (f : Addr) (F : NdefX.NF), F.qual = L.qual → F.scope = L.scope → Room k (A.deeper (NdefX.envF F f s.heap.objs.size)) → PE (NdefX.ncx CX0 X.prog X.w X.K X.mg X.base N F f A outer s H E0) L.body tb)
    (hd : (x == ("__debug__" : Str)) = false := by decide) (hcd : (x == ("__classdict__" : Str)) = false := by decide)
    (hs : starEach [e] X.env = (false, eval e X.env) :: starEach [] X.env := by rfl) (hpl : (backTo pos (starEach [] X.env)).any (·.1) = false := by rfl) :
    PE X (.Call (.Name x p1) [e] [] pos) (tCallFn L N i tb t1) := by
  refine ⟨fun pins s σ H Q I ht => ?_⟩
  obtain ⟨f, hsl, ⟨caps0, hf0⟩, ht⟩ := ht
  refine wpAny_Call_Name_kw (thn ((pe_var (pos := p1) hN hv hd hcd).run pins s σ H (fun v H1 => v = .ref f ∧ H1 = H) I ⟨.ref f, hsl, rfl, rfl⟩) fun u s1 ⟨v, H1, I1, r1, q1⟩ => ?_)
  obtain ⟨ev, eH⟩ := q1
  subst ev
  rw [eH] at I1
  obtain rfl : u = Value.ref f := r1
  have ha : PA X [e] (tCons t1 tNil) := pa_cons he pa_nil hs
  refine PySem.W.callWith_F (first := []) (fn_heap I1.hok hf0) (thn (ha.run pos pins s1 σ H (fun vs H2 => match vs with
    | [v] => ∃ caps, FnAt H2 f L caps ∧ ∀ S : Addr → Option Obj, (∀ b o, S b = some o → H2 b = some (PinO b o)) → tb (NdefX.startF N [v] (caps.map some)) (lessP S H2) fun u H3 => (∀ b o, S b = some o → H3 b = none) → Q u (withP S H3)
    | _ => False) I1 ht) fun us s2 ⟨vs, H2, I2, r, hv2⟩ => ?_) hs hpl
  obtain ⟨v, rfl, caps, hf, hq⟩ : ∃ v, vs = [v] ∧ ∃ caps, FnAt H2 f L caps ∧ ∀ S : Addr → Option Obj, (∀ b o, S b = some o → H2 b = some (PinO b o)) → tb (NdefX.startF N [v] (caps.map some)) (lessP S H2) fun u H3 => (∀ b o, S b = some o → H3 b = none) → Q u (withP S H3) := by
    match vs, hv2 with
    | [v], z => exact ⟨v, rfl, z⟩
  refine ⟨fn_heap I2.hok hf, ?_⟩
  obtain ⟨u, hu, rv⟩ : ∃ u, us = [u] ∧ RelV v u := by
    cases r with
    | cons rv rn =>
      cases rn
      exact ⟨_, rfl, rv⟩
  subst hu
  clear r
  have z : True := trivial
  cases z with
  | intro =>
    show wpAny _ _ (call (.ref f) [u]) _ _ _
    obtain ⟨cl, pm, ctv, c, g1, g2, g3, g4, g5, g6⟩ := hf.ex
    have ho := pin_at I2.hok g1
    classical
    let S' : Addr → Option Obj := fun b => if ∃ y, cl.lookup y = some b then s2.heap.get? b else none
    have Sc : ∀ y d, cl.lookup y = some d → S' d = s2.heap.get? d := fun y d hd => if_pos ⟨y, hd⟩
    have Sp : ∀ b o, S' b = some o → H2 b = some (PinO b o) := fun b o hs => by
      by_cases z : ∃ y, cl.lookup y = some b
      · obtain ⟨y, hy⟩ := z
        rw [Sc y b hy] at hs
        obtain ⟨o', _, h1, _⟩ := g4 y b hy
        have := pin_at I2.hok h1
        rw [hs] at this
        cases this
        exact h1
      · have e : S' b = none := if_neg z
        rw [e] at hs
        cases hs
    have e0 := env0_less I2.env0 Sp
    let F : NdefX.NF := ⟨"<lambda>", L.qual, L.params, [], L.scope, cl, c⟩
    have hcode : s2.heap.CodeRec (.ref c) L.qual := by
      obtain ⟨⟨oc, vs, t, a1, a2, a3⟩, _, _⟩ := I2.hok c _ g2
      exact ⟨c, oc, vs, t, rfl, a1, a2, a3⟩
    have C : NdefX.CellsAt F.cl L.fr (caps.map some) s2.heap (lessP S' H2) := by
      refine ⟨by rw [List.length_map]; exact g3, fun y d hd => ?_, g5, fun j y hy => ?_⟩
      · obtain ⟨o', vv, h1, h2⟩ := g4 y d hd
        have hh := pin_at I2.hok h1
        exact ⟨lessP_some (by rw [Sc y d hd]; exact hh), vv, o', hh, h2⟩
      · obtain ⟨d, o', vv, uu, h1, h2, h3, h4, h5⟩ := g6 j y hy
        refine ⟨d, h1, fun v2 hv2 => ?_⟩
        rw [List.getElem?_map, h4] at hv2
        cases hv2
        exact ⟨uu, h5, o', pin_at I2.hok h2, h3⟩
    have ht2 := hq S' Sp
    have rc : codeAny (model X.prog X.w) X.A (.call (.ref f) ⟨[u], []⟩) (CR CX0 X.stack X.prog X.w (lessP S' H2) s2 (fun v H3 => (∀ b o, S' b = some o → H3 b = none) → Q v (withP S' H3)) E0) s2 := by
      refine PySem.W.kla_callFunE hr.depth ho rfl S.co S.gen rfl hcode ?_
      show wpAny _ _ (bindArgs (PySem.W.kla_fn "<lambda>" L.qual L.params L.body L.scope cl pm (.ref c) ctv) ⟨[u], []⟩) _ _ _
      rw [hbind]
      refine wpAny_pure (wpAny_newFunctionEnv S.nocell (fun ⟨n, _⟩ hy => S.par n ?_) (fun h₁ hns hsb => ⟨I2.nolimit.fresh _ hsb, ?_⟩) S.kind)
      · rw [List.mem_singleton] at hy
        cases hy
        exact List.mem_singleton.mpr rfl
      show codeAny _ _ (.expr L.body (NdefX.envF F f s2.heap.objs.size)) _ _
      have kp : ∀ b o, s2.heap.get? b = some o → h₁.get? b = some o := fun b o e => hsb.extBut b o (Nat.ne_of_lt (Heap.lt_size e)) (Heap.get?_push_of_some _ e)
      have J : Inv (NdefX.ncx CX0 X.prog X.w X.K X.mg X.base N F f X.A X.stack s2 (lessP S' H2) E0) [] (NdefX.startF N [v] (caps.map some)) (lessP S' H2) { s2 with heap := h₁, toks := s2.toks + [(p, u)].length } :=
        NdefX.inv_startN (F := F) (ps := [p]) (us := [u]) S hr.hd e0 rfl (.cons rv .nil) C hns kp
      refine PySem.W.kla_codeExpr (wpAny_mono ((hbody X.A X.stack s2 (lessP S' H2) f F rfl rfl (hr.deeper _)).run [] _ _ _ _ J ht2) (fun v' s' hq' => ?_) fun e s' hq' => hq')
      obtain ⟨w', H', J', rv', q'⟩ := hq'
      exact ⟨w', H', J'.os, J'.bare, J'.base, J'.hok, rv', q'⟩
    refine wpAny_call (codeAny_mono rc fun r s' hq' => ?_)
    cases r with
    | error e => exact False.elim hq'
    | ok fl =>
      cases fl with
      | ret u' => exact I2.after (ce_with I2.env0 Sp hq')
      | next => exact False.elim hq'
      | brk => exact False.elim hq'
      | cont => exact False.elim hq'
end
end Dv

set_option maxRecDepth 100000
set_option maxHeartbeats 1000000
/-! Deep rules of lambdas. -/
namespace Dv
open PySem PySem.Spec PyProof.Rows L2
mutual
theorem rep_keep {B B' : Hp} (e1 : ∀ b vs, B b = some (.tup vs) → B' b = some (.tup vs)) (e2 : ∀ b vs, B b = some (.lst vs) → B' b = some (.lst vs)) : ∀ {v : V} {d : D}, Rep B v d → NoDic d → Rep B' v d
  | _, _, .non, _ => .non
  | _, _, .bl, _ => .bl
  | _, _, .int, _ => .int
  | _, _, .str, _ => .str
  | _, _, .ref, _ => .ref
  | _, _, .ty, _ => .ty
  | _, .tup l, .tup (a := b) (vs := vs) h r, n => .tup (e1 b _ h) (reps_keep e1 e2 r (by cases n with | tup k => exact k))
  | _, .lst l, .lst (a := b) (vs := vs) h r, n => .lst (e2 b _ h) (reps_keep e1 e2 r (by cases n with | lst k => exact k))
  | _, _, .dic _ _, n => by cases n
  | _, _, .dicR _ _, n => by cases n
  | _, _, .dicL _ _, n => by cases n
  | _, _, .fn _ _, n => by cases n
theorem reps_keep {B B' : Hp} (e1 : ∀ b vs, B b = some (.tup vs) → B' b = some (.tup vs)) (e2 : ∀ b vs, B b = some (.lst vs) → B' b = some (.lst vs)) : ∀ {vs : List V} {ds : List D}, Reps B vs ds → (∀ x ∈ ds, NoDic x) → Reps B' vs ds
  | _, _, .nil, _ => .nil
  | _, d :: ds, .cons h r, n => .cons (rep_keep e1 e2 h (n d (by simp))) (reps_keep e1 e2 r fun x hx => n x (by simp [hx]))
end
/-- the slots js hold cap -/
inductive CapsD (E : EnvD) : List Nat → List D → Prop
  | nil : CapsD E [] []
  | cons {j : Nat} {d : D} {js : List Nat} {ds : List D} : E[j]? = some (some d) → CapsD E js ds → CapsD E (j :: js) (d :: ds)
theorem capsD_rd {B : Hp} {σ : L2.St} {E : EnvD} (re : RelE B σ E) {js : List Nat} {ds : List D} (h : CapsD E js ds) : ∃ vs, Reps B vs ds ∧ vs.length = js.length ∧ ∀ (i j : Nat) (v : V), js[i]? = some j → vs[i]? = some v → σ[j]? = some (some v) := by
  induction h with
  | nil => exact ⟨[], .nil, rfl, fun i j v h => by simp at h⟩
  | @cons j d js ds h _ ih =>
    obtain ⟨vs, h1, h2, h3⟩ := ih
    obtain ⟨v, g1, g2⟩ := re.get j d h
    refine ⟨v :: vs, .cons g2 h1, by simp [h2], fun i k u e1 e2 => ?_⟩
    cases i with
    | zero =>
      simp at e1 e2
      subst e1 e2
      exact g1
    | succ i => exact h3 i k u (by simpa using e1) (by simpa using e2)
theorem w_callLam {B0 : Gr} {Pt : Addr} {L : LamT} {js : List Nat} {g : SpP} {t1 t2 : TE} {E : EnvD} {C : CH} {P : D → CH → Prop}
    (h : W B0 t1 E C fun d1 C1 => W B0 t2 E C1 fun d2 C2 => C2 Pt = some (.tab L.qual) ∧ js.length = L.fr.length ∧ ∃ cap, CapsD E js cap ∧ g [d1, d2, .fn L cap] fun d => NoDic d ∧ P d C2) :
    W B0 (tCallLam Pt L js (spD (pureD g)) t1 t2) E C P := fun B F σ H sb rl re Q q => by
  refine h B F σ H sb rl re _ fun v1 d1 B1 C1 H1 e1 rl1 rp1 h1 => h1 B1 F σ H1 (sb.trans e1) rl1 (re.mono e1) _ fun v2 d2 B2 C2 H2 e2 rl2 rp2 ⟨hPt, hjl, cap, hcap, hg⟩ => ?_
  obtain ⟨o, hP, ro⟩ := rl2.own _ _ hPt
  cases ro with
  | @tab ps q tok hcodes =>
  obtain ⟨caps, rc, hcl, hcv⟩ := capsD_rd (re.mono (e1.trans e2)) hcap
  refine ⟨ps, hP, ⟨tok, fun pos cv hc => ?_⟩, caps, by rw [hcl, hjl], hjl, hcv, ?_⟩
  · obtain ⟨c, g1, g2⟩ := hcodes pos cv hc
    exact ⟨c, g1, rl2.ex _ _ g2⟩
  intro f c S ps' H3 k3 hP3 tok3 hU hC hc3 ncP no fat
  have BP : B2 Pt = none := rl2.bc _ _ hPt
  have hcB : B2 c = none ∨ B2 c = some (LamX.CodeO c L.qual) := by
    rcases hC with z | ⟨p, z⟩
    · exact .inl (rl2.noB z)
    · obtain ⟨c', g1, g2⟩ := hcodes p _ z
      cases g1
      exact .inr g2
  have hcC : C2 c = none := by
    rcases hC with z | ⟨p, z⟩
    · exact rl2.noC z
    · obtain ⟨c', g1, g2⟩ := hcodes p _ z
      cases g1
      cases e : C2 c with
      | none => rfl
      | some x => rw [rl2.bc _ _ e] at g2; cases g2
  have hcF : F c = none := by
    rcases hC with z | ⟨p, z⟩
    · exact rl2.noF z
    · obtain ⟨c', g1, g2⟩ := hcodes p _ z
      cases g1
      cases e : F c with
      | none => rfl
      | some x => rw [rl2.bf _ _ e] at g2; cases g2
  let B3 : Hp := upd B2 c (LamX.CodeO c L.qual)
  have B3c : B3 c = some (LamX.CodeO c L.qual) := upd_same
  have s23 : Same B2 B3 := fun b u z => by
    by_cases e : b = c
    · subst e
      rcases hcB with y | y
      · rw [y] at z; cases z
      · rw [y] at z; cases z; exact B3c
    · show upd B2 c _ b = _
      rw [upd_ne e]
      exact z
  have up3 : ∀ b u, B2 b = some u → H3 b = some u := fun b u z => k3 b u (rl2.ex b u z) (fun e => by rw [e, BP] at z; cases z)
  have Sno : ∀ b u, H3 b = some u → S b = none := fun b u z => by
    cases e : S b with
    | none => rfl
    | some o => rw [no b o e] at z; cases z
  have s3p : Same B2 (withP S B3) := fun b u z => by rw [withP_none (Sno b u (up3 b u z))]; exact s23 b u z
  have frH : ∀ b u, F b = some u → H3 b = some u := fun b u z => k3 b u (rl2.fr b u z) (fun e => by
    have y := rl2.cf b u z
    rw [e, hPt] at y
    cases y)
  have cel : ∀ b k, C2 b = some k → ∃ o, H3 b = some o ∧ S b = none ∧ RepO (lessP S B3) o k := fun b k z => by
    obtain ⟨o, g1, g2⟩ := rl2.own b k z
    have sl : Same B2 (lessP S B3) := fun b u z => by rw [lessP_none (Sno b u (up3 b u z))]; exact s23 b u z
    by_cases e : b = Pt
    · subst e
      rw [hPt] at z
      cases z
      refine ⟨_, hP3, Sno _ _ hP3, .tab tok3 fun pos cv hcd => ?_⟩
      rcases hU pos cv hcd with y | y
      · obtain ⟨c', g1, g2⟩ := hcodes pos cv y
        exact ⟨c', g1, sl _ _ g2⟩
      · exact ⟨c, y, by rw [lessP_none (Sno _ _ hc3)]; exact B3c⟩
    · exact ⟨o, k3 b o g1 e, Sno _ _ (k3 b o g1 e), g2.mono sl⟩
  let F2 : Hp := fun b => if (C2 b).isSome then H3 b else F b
  have F2F : ∀ b u, F b = some u → F2 b = some u := fun b u z => by
    show (if (C2 b).isSome then H3 b else F b) = some u
    rw [rl2.cf b u z]
    simpa using z
  have F2C : ∀ b k, C2 b = some k → F2 b = H3 b := fun b k z => by
    show (if (C2 b).isSome then H3 b else F b) = H3 b
    rw [z]
    rfl
  have F2i : ∀ b u, F2 b = some u → H3 b = some u ∧ B2 b = none ∧ b ≠ c := fun b u z => by
    have z : (if (C2 b).isSome then H3 b else F b) = some u := z
    cases e : C2 b with
    | some k =>
      rw [e] at z
      exact ⟨z, rl2.bc _ _ e, fun y => by rw [y, hcC] at e; cases e⟩
    | none =>
      rw [e] at z
      have z : F b = some u := z
      exact ⟨frH b u z, rl2.bf _ _ z, fun y => by rw [y, hcF] at z; cases z⟩
  have rl3 : Rel (withP S B3) (fun _ => none) F2 (withP S H3) := by
    refine ⟨fun b u z => ?_, fun b u z => ?_, fun b u z => ?_, fun _ _ _ => rfl, (fun b k e => by cases e), (fun b k e => by cases e)⟩
    · cases e : S b with
      | some o => rw [withP_some e] at z ⊢; exact z
      | none =>
        rw [withP_none e] at z ⊢
        by_cases y : b = c
        · subst y
          rw [B3c] at z
          cases z
          exact hc3
        · have z : upd B2 c _ b = some u := z
          rw [upd_ne y] at z
          exact up3 b u z
    · obtain ⟨g1, _, _⟩ := F2i b u z
      rw [withP_none (Sno _ _ g1)]
      exact g1
    · obtain ⟨g1, g2, g3⟩ := F2i b u z
      rw [withP_none (Sno _ _ g1)]
      show upd B2 c _ b = none
      rw [upd_ne g3]
      exact g2
  refine ⟨withP S B3, F2, fun _ => none, [d1, d2, .fn L cap], fun d _ => NoDic d ∧ P d C2, rl3, .cons ((rp1.mono e2).mono s3p) (.cons (rp2.mono s3p) (.cons (.fn (fat B3 B3c) (rc.mono s3p)) .nil)), hg, fun v d B' C' H' s' rl' rp' ⟨hn, hp⟩ => ⟨fun b o e => rl'.ex _ _ (s' _ _ (withP_some e)), ?_⟩⟩
  have sl : Same B3 (lessP S B') → Same B (lessP S B') := fun z => ((e1.trans e2).trans s23).trans z
  have s3l : Same (lessP S B3) (lessP S B') := fun b u z => by
    cases e : S b with
    | some o => rw [lessP_some e] at z; cases z
    | none =>
      rw [lessP_none e] at z ⊢
      exact s' b u (by rw [withP_none e]; exact z)
  have B3S : ∀ b u, B3 b = some u → S b = none := fun b u z => by
    by_cases y : b = c
    · subst y; exact Sno _ _ hc3
    · have z : upd B2 c _ b = some u := z
      rw [upd_ne y] at z
      exact Sno _ _ (up3 b u z)
  refine q v d (lessP S B') C2 (lessP S H') (sl fun b u z => s3l b u (by rw [lessP_none (B3S b u z)]; exact z)) ?_ ?_ hp
  · refine ⟨fun b u z => ?_, fun b u z => ?_, fun b u z => ?_, rl2.cf, fun b k z => ?_, fun b k z => ?_⟩
    · cases e : S b with
      | some o => rw [lessP_some e] at z; cases z
      | none => rw [lessP_none e] at z ⊢; exact rl'.ex b u z
    · rw [lessP_none (Sno _ _ (frH b u z))]
      exact rl'.fr b u (F2F b u z)
    · rw [lessP_none (Sno _ _ (frH b u z))]
      exact rl'.bf b u (F2F b u z)
    · obtain ⟨o, g1, g2, _⟩ := cel b k z
      rw [lessP_none g2]
      exact rl'.bf b o (by rw [F2C b k z]; exact g1)
    · obtain ⟨o, g1, g2, g3⟩ := cel b k z
      exact ⟨o, by rw [lessP_none g2]; exact rl'.fr b o (by rw [F2C b k z]; exact g1), g3.mono s3l⟩
  · refine rep_keep (fun b vs z => ?_) (fun b vs z => ?_) rp' hn
    · rw [lessP_none ?_]
      · exact z
      · cases e : S b with
        | none => rfl
        | some o => rw [s' _ _ (withP_some e)] at z; exact absurd (Option.some.inj z) pin_tup
    · rw [lessP_none ?_]
      · exact z
      · cases e : S b with
        | none => rfl
        | some o => rw [s' _ _ (withP_some e)] at z; exact absurd (Option.some.inj z) pin_lst
/-- the slots at the entry of a lambda's body -/
def startL (n : Nat) (ds cap : List D) : EnvD := ds.map some ++ (cap.map some ++ List.replicate (n - ds.length - cap.length) none)
theorem relE_startL {B : Hp} {N : List Str} {vs caps : List V} {ds cap : List D} (h : Reps B vs ds) (hc : Reps B caps cap) : RelE B (NdefX.startF N vs (caps.map some)) (startL N.length ds cap) := by
  have hl := h.length
  have hl2 := hc.length
  refine ⟨by simp [NdefX.startF, startL, hl, hl2], fun i d e => ?_⟩
  unfold startL at e
  unfold NdefX.startF
  by_cases hi : i < ds.length
  · rw [List.getElem?_append_left (by simpa using hi), List.getElem?_map] at e
    cases q : ds[i]? with
    | none => rw [q] at e; cases e
    | some x =>
      rw [q] at e
      have ex : x = d := by simpa using e
      subst ex
      obtain ⟨v, h1, h2⟩ := h.get q
      exact ⟨v, by rw [List.getElem?_append_left (by simpa [hl] using hi), List.getElem?_map, h1]; rfl, h2⟩
  · rw [List.getElem?_append_right (by simp; omega)] at e
    rw [List.getElem?_append_right (by simp [hl]; omega)]
    simp only [List.length_map] at e ⊢
    rw [hl]
    by_cases hj : i - ds.length < cap.length
    · rw [List.getElem?_append_left (by simpa using hj), List.getElem?_map] at e
      cases q : cap[i - ds.length]? with
      | none => rw [q] at e; cases e
      | some x =>
        rw [q] at e
        have ex : x = d := by simpa using e
        subst ex
        obtain ⟨v, h1, h2⟩ := hc.get q
        exact ⟨v, by rw [List.getElem?_append_left (by simpa [hl2] using hj), List.getElem?_map, h1]; rfl, h2⟩
    · rw [List.getElem?_append_right (by simp; omega), List.getElem?_replicate] at e
      split at e <;> cases e
theorem w_callFn {B0 : Gr} {L : LamT} {N : List Str} {i : Nat} {tb t1 : TE} {E : EnvD} {C : CH} {P : D → CH → Prop} {cap : List D} (he : E[i]? = some (some (.fn L cap))) (hn : ∀ x ∈ cap, NoDic x)
    (h : W B0 t1 E C fun d C1 => NoDic d ∧ C1 = (fun _ => none) ∧ ∀ B1 : Gr, W B1 tb (startL N.length [d] cap) (fun _ => none) fun d' C2 => C2 = (fun _ => none) ∧ P d' C2) : W B0 (tCallFn L N i tb t1) E C P := fun B F σ H sb rl re Q q => by
  obtain ⟨v, hv, rf⟩ := re.get i _ he
  cases rf with
  | @fn f _ caps0 _ hf rc0 =>
  refine ⟨f, hv, ⟨caps0, hf.mono rl.ex⟩, h B F σ H sb rl re _ fun v d B1 C1 H1 e1 rl1 rp ⟨hd, hC, hb⟩ => ?_⟩
  subst hC
  have hf1 := hf.mono e1
  have rc1 := rc0.mono e1
  refine ⟨caps0, hf1.mono rl1.ex, fun S hS => ?_⟩
  have BS : ∀ b o u, S b = some o → B1 b = some u → u = PinO b o := fun b o u z y => by
    have x := rl1.ex b u y
    rw [hS b o z] at x
    exact (Option.some.inj x).symm
  have kt : ∀ b vs, B1 b = some (.tup vs) → lessP S B1 b = some (.tup vs) := fun b vs z => by
    cases e : S b with
    | none => rw [lessP_none e]; exact z
    | some o => exact absurd (BS b o _ e z).symm pin_tup
  have kl : ∀ b vs, B1 b = some (.lst vs) → lessP S B1 b = some (.lst vs) := fun b vs z => by
    cases e : S b with
    | none => rw [lessP_none e]; exact z
    | some o => exact absurd (BS b o _ e z).symm pin_lst
  have lsome : ∀ {G : Hp} {b u}, lessP S G b = some u → S b = none ∧ G b = some u := fun {G b u} z => by
    cases e : S b with
    | none => rw [lessP_none e] at z; exact ⟨rfl, z⟩
    | some o => rw [lessP_some e] at z; cases z
  have rl2 : Rel (lessP S B1) (fun _ => none) (lessP S F) (lessP S H1) := by
    refine ⟨fun b u z => ?_, fun b u z => ?_, fun b u z => ?_, fun _ _ _ => rfl, (fun b k e => by cases e), (fun b k e => by cases e)⟩
    · obtain ⟨h1, h2⟩ := lsome z
      rw [lessP_none h1]
      exact rl1.ex b u h2
    · obtain ⟨h1, h2⟩ := lsome z
      rw [lessP_none h1]
      exact rl1.fr b u h2
    · obtain ⟨h1, h2⟩ := lsome z
      rw [lessP_none h1]
      exact rl1.bf b u h2
  refine hb ⟨lessP S B1, lessP S F⟩ _ _ _ _ (Sb.refl _ _) rl2 (relE_startL (.cons (rep_keep kt kl rp hd) .nil) (reps_keep kt kl rc1 hn)) _ fun u d' B' C' H' s' rl' rp' ⟨hC', hp⟩ hH' => ?_
  subst hC'
  let B2 : Hp := fun b => if (S b).isSome then B1 b else B' b
  have B2s : ∀ {b o}, S b = some o → B2 b = B1 b := fun {b o} z => by
    show (if (S b).isSome then B1 b else B' b) = B1 b
    rw [z]
    rfl
  have B2n : ∀ {b}, S b = none → B2 b = B' b := fun {b} z => by
    show (if (S b).isSome then B1 b else B' b) = B' b
    rw [z]
    rfl
  have sb2 : Same B' B2 := fun b u z => by
    cases e : S b with
    | none => rw [B2n e]; exact z
    | some o => rw [rl'.noB (hH' b o e)] at z; cases z
  refine q u d' B2 _ (withP S H') (e1.trans fun b u z => ?_) ⟨fun b u z => ?_, fun b u z => ?_, fun b u z => ?_, fun _ _ _ => rfl, (fun b k e => by cases e), (fun b k e => by cases e)⟩ (rp'.mono sb2) hp
  · cases e : S b with
    | some o => rw [B2s e]; exact z
    | none => rw [B2n e]; exact s' b u (by rw [lessP_none e]; exact z)
  · cases e : S b with
    | some o =>
      rw [B2s e] at z
      rw [withP_some e, BS b o u e z]
    | none =>
      rw [B2n e] at z
      rw [withP_none e]
      exact rl'.ex b u z
  · cases e : S b with
    | some o =>
      have y := rl1.fr b u z
      rw [hS b o e] at y
      rw [withP_some e]
      exact y
    | none =>
      rw [withP_none e]
      exact rl'.fr b u (by rw [lessP_none e]; exact z)
  · cases e : S b with
    | some o => rw [B2s e]; exact rl1.bf b u z
    | none => rw [B2n e]; exact rl'.bf b u (by rw [lessP_none e]; exact z)
/-! ### a lambda as the last argument of a returned call -/
def lamOf (st : Stmt) : Expr := match (defBody st).getLast? with
  | some (.Return (some (.Call _ as _ _)) _) => (as.getLast?).getD (.Constant .none 0 ⟨0, 0, 0, 0⟩)
  | _ => .Constant .none 0 ⟨0, 0, 0, 0⟩
def lamArgs : Expr → Arguments
  | .Lambda a _ _ _ => a
  | _ => default
def lamBody : Expr → Expr
  | .Lambda _ b _ _ => b
  | e => e
def lamScope : Expr → Scope
  | .Lambda _ _ sc _ => sc
  | _ => default
def capB (sc lsc : Scope) (N fr : List Str) (js : List Nat) : Bool :=
  lsc.names.all (fun y => !decide (y.2 = .free) || decide (sc.names.lookup y.1 = some .cell)) && (List.range fr.length).all fun i => match fr[i]?, js[i]? with
    | some y, some j => decide ((y, NameKind.free) ∈ lsc.names) && decide (N[j]? = some y)
    | _, _ => false
theorem cap_fr {sc lsc : Scope} {N fr : List Str} {js : List Nat} (h : capB sc lsc N fr js = true) : ∀ y ∈ lsc.names, y.2 = .free → sc.names.lookup y.1 = some .cell := fun y hy e => by
  have h1 := (Bool.and_eq_true_iff.mp h).1
  have := List.all_eq_true.mp h1 y hy
  simpa [e] using this
theorem cap_at {sc lsc : Scope} {N fr : List Str} {js : List Nat} (h : capB sc lsc N fr js = true) : ∀ (i : Nat) (y : Str), fr[i]? = some y → (y, NameKind.free) ∈ lsc.names ∧ ∃ j, js[i]? = some j ∧ N[j]? = some y := fun i y hy => by
  have h2 := (Bool.and_eq_true_iff.mp h).2
  have hi : i < fr.length := (List.getElem?_eq_some_iff.mp hy).1
  have z := List.all_eq_true.mp h2 i (List.mem_range.mpr hi)
  rw [hy] at z
  cases e : js[i]? with
  | none => rw [e] at z; cases z
  | some j =>
    rw [e] at z
    simp only [Bool.and_eq_true, decide_eq_true_eq] at z
    exact ⟨z.1, j, rfl, z.2⟩
/-- what is known of a lambda's body -/
structure LamOk (P : Program) (w : World) (K : PySem.W.Frag) (mg : Str → Option Value) (base : Heap) (k : Nat) (L : LamT) (N : List Str) (p : Str) (tb : TE) : Prop where
  sc : NdefX.NScope N [p] L.fr L.scope
  bind : ∀ (cl : List (Str × Addr)) (pm cv ctv u : Value), bindArgs (PySem.W.kla_fn "<lambda>" L.qual L.params L.body L.scope cl pm cv ctv) ⟨[u], []⟩ = pure [(p, u)]
  body : ∀ (A : Around) (outer : List PySem.Env) (s : Shared) (H : Hp) (f : Addr) (nm : Str) (pa : Arguments) (bd : List Stmt) (cl : List (Str × Addr)) (c : Addr), Room k (A.deeper (NdefX.envF ⟨nm, L.qual, pa, bd, L.scope, cl, c⟩ f s.heap.objs.size)) →
    PE (NdefX.ncx CX0 P w K mg base N ⟨nm, L.qual, pa, bd, L.scope, cl, c⟩ f A outer s H E0) L.body tb
theorem pe_callL {X : Cx} {x p : Str} {k i : Nat} {p1 pos : Pos} {e : Expr} {t1 tb : TE} {L : LamT} {N : List Str} (LO : LamOk X.prog X.w X.K X.mg X.base k L N p tb) (hr : Room (k + 1) X.A) (he : PE X e t1) (hN : X.N[i]? = some x := by rfl) (hv : Vis X.env.scope x := by first | exact Or.inl rfl | exact Or.inr (Or.inl rfl) | exact Or.inr (Or.inr rfl))
    (hd : (x == ("__debug__" : Str)) = false := by decide) (hcd : (x == ("__classdict__" : Str)) = false := by decide)
    (hs : starEach [e] X.env = (false, eval e X.env) :: starEach [] X.env := by rfl) (hpl : (backTo pos (starEach [] X.env)).any (·.1) = false := by rfl) : PE X (.Call (.Name x p1) [e] [] pos) (tCallFn L N i tb t1) :=
  pe_callFn hN hv he hr LO.sc LO.bind (fun A outer s H f F e1 e2 hr2 => by
    obtain ⟨nm, q, pa, bd, sc, cl, c⟩ := F
    have e1 : q = L.qual := e1
    have e2 : sc = L.scope := e2
    subst e1 e2
    exact LO.body A outer s H f nm pa bd cl c hr2) hd hcd hs hpl
end Dv

set_option maxRecDepth 100000
set_option maxHeartbeats 1000000
/-! Try with several clauses that name the error; defs whose code object is known; the end with tables. -/
namespace Dv
open PySem PySem.Spec PyProof.Rows L2
abbrev HdA := Value × Option Nat × (Addr → Value → Option Addr → TS)
def endO (o : Option Nat) (Dn : Ends) : Ends := match o with
  | none => Dn
  | some i => { nx := fun τ G => Dn.nx (τ.set i none) G, rt := Dn.rt, bk := fun τ G => Dn.bk (τ.set i none) G, ct := fun τ G => Dn.ct (τ.set i none) G }
def stO (o : Option Nat) (a : Addr) (τ : L2.St) : L2.St := match o with
  | none => τ
  | some i => τ.set i (some (.ref a))
def wishA (K : PySem.W.Frag) (Wo : WX) (Dn : Ends) : List HdA → WX
  | [] => Wo
  | (c, o, ts) :: r => fun cls d τ G => ∃ b, PySem.W.exmOne K cls c = some b ∧ (b = true → ∀ a, G a = none → ts a cls d (endO o Dn) (stO o a τ) G) ∧ (b = false → wishA K Wo Dn r cls d τ G)
/-- an error at a is in the air, caught -/
structure Air (X : Cx) (pn : List (Addr × Obj)) (τ : L2.St) (G : Hp) (a : Addr) (cls : Value) (d : Option Addr) (B : Heap) (q s : Shared) : Prop where
  inv : Inv X pn τ G q
  low : ∀ b o, q.heap.get? b = some o → b ∉ frs X.stack → B.get? b = some o
  up : q.heap.UpToSlots s.heap
  fly : HandSPX.FlyingZ B (X.env :: X.outer) a (Zc cls d) s.heap
  na : G a = none
  os : s.os = q.os
  ag : AllBare s.gens
section
variable {X : Cx} {pn : List (Addr × Obj)} {τ : L2.St} {G : Hp} {a : Addr} {cls : Value} {d : Option Addr} {B : Heap} {q s : Shared}
theorem Air.now (x : Air X pn τ G a cls d B q s) : Inv X pn τ G s := x.inv.landed x.low x.fly.1 x.up x.os x.ag
theorem Air.moved (x : Air X pn τ G a cls d B q s) {h : Heap} (f : HandSPX.FlyingZ B (X.env :: X.outer) a (Zc cls d) h) (u : s.heap.UpToSlots h) : Air X pn τ G a cls d B q { s with heap := h } :=
  ⟨x.inv, x.low, x.up.trans u, f, x.na, x.os, x.ag⟩
theorem Air.apart (x : Air X pn τ G a cls d B q s) (hf : X.env.frame = some X.env.locals) : a ≠ X.env.locals ∧ a ∉ X.fs := by
  obtain ⟨ob, vs, at_, _, dat⟩ := x.fly.there
  have out : a ∉ frs (X.env :: X.outer) := fun hm => by
    obtain ⟨_, o2, at2, no⟩ := x.fly.2.2.1.mem hm
    rw [at_] at at2
    cases at2
    exact no _ dat
  refine ⟨fun z => out ?_, fun hm => out ?_⟩
  · exact List.mem_filterMap.mpr ⟨X.env, by simp, by rw [hf, z]⟩
  · obtain ⟨e, he, w⟩ := List.mem_filterMap.mp hm
    exact List.mem_filterMap.mpr ⟨e, by simp [he], w⟩
theorem Air.inSuite (x : Air X pn τ G a cls d B q s) (hf : X.env.frame = some X.env.locals) : ∃ ob, Zc cls d ob ∧ (∃ vs, ob.data = .fields vs) ∧ s.heap.get? a = some ob ∧ Inv (X.suite a ((a, ob) :: (X.pn ++ pn))) [] τ G s := by
  obtain ⟨ob, vs, at_, z, dat⟩ := x.fly.there
  obtain ⟨n1, n2⟩ := x.apart hf
  exact ⟨ob, z, ⟨vs, dat⟩, at_, x.now.suite at_ dat x.na n1 n2⟩
/-- a clause's class is asked -/
theorem Air.asked (x : Air X pn τ G a cls d B q s) (hf : X.env.frame = some X.env.locals) {y : Str} {c : Value} {np : Pos} {b : Bool} (hc : Names X y c) (hb : PySem.W.exmOne X.K cls c = some b) {Q : Bool → Shared → Prop} {Ex : Value → Shared → Prop} (k : Q b s) :
    wpAny (model X.prog X.w) (X.A.mark (some (.ref a))) (eval (.Name y np) X.env) (fun v s1 => wpAny (model X.prog X.w) (X.A.mark (some (.ref a))) (excMatches (.ref a) v) Q Ex s1) Ex s := by
  obtain ⟨ob, z, _, at_, S⟩ := x.inSuite hf
  have look : PySem.W.Looks (model X.prog X.w) s.heap (typeOf (.ref a)) cls := fun _ _ _ _ kk w => wpAny_typeOf_ref (kk _ _ at_) (by rw [z.1]; exact w)
  have says := PySem.W.exm_one (M := model X.prog X.w) x.now.kIn look hb
  obtain ⟨g1, g2, g3 | ⟨g3, g4, g5⟩⟩ := hc
  · exact ld_glob S g1 g3 (says.here k) g2
  · exact ld_blt S g1 g3 g4 (says.here k) g5 g2
/-- a suite's end, seen from behind the clause -/
theorem endO_none {ob : Obj} {Dn : Ends} (ok : X.Ok) {f : Flow} {s1 : Shared} (h : SP (X.suite a ((a, ob) :: (X.pn ++ pn))) [] Dn f s1) : SP X pn Dn f s1 := by
  cases f with
  | next => obtain ⟨t1, G1, S1, w⟩ := h; exact ⟨t1, G1, S1.unsuite ok, w⟩
  | brk => obtain ⟨t1, G1, S1, w⟩ := h; exact ⟨t1, G1, S1.unsuite ok, w⟩
  | cont => obtain ⟨t1, G1, S1, w⟩ := h; exact ⟨t1, G1, S1.unsuite ok, w⟩
  | ret u => obtain ⟨v, t1, G1, S1, r, w⟩ := h; exact ⟨v, t1, G1, S1.unsuite ok, r, w⟩
theorem endO_some {ob : Obj} {Dn : Ends} {i : Nat} {n : Str} {pos : Pos} (ok : X.Ok) (hN : X.N.Nodup) (hi : X.N[i]? = some n) (hl : X.env.kindOf n = some .local) {f : Flow} {s1 : Shared} (h : SP (X.suite a ((a, ob) :: (X.pn ++ pn))) [] (endO (some i) Dn) f s1) :
    wpAny (model X.prog X.w) X.A (do bindName X.env n .none; unbindBehindTheSuite X.env n pos) (fun _ s2 => SP X pn Dn f s2) X.xe s1 := by
  cases f with
  | next => obtain ⟨t1, G1, S1, w⟩ := h; exact gone_ok (S1.unsuite ok) hN hi hl fun _ I => ⟨_, _, I, w⟩
  | brk => obtain ⟨t1, G1, S1, w⟩ := h; exact gone_ok (S1.unsuite ok) hN hi hl fun _ I => ⟨_, _, I, w⟩
  | cont => obtain ⟨t1, G1, S1, w⟩ := h; exact gone_ok (S1.unsuite ok) hN hi hl fun _ I => ⟨_, _, I, w⟩
  | ret u => obtain ⟨v, t1, G1, S1, r, w⟩ := h; exact gone_ok (S1.unsuite ok) hN hi hl fun _ I => ⟨_, _, _, I, r, w⟩
/-- no clause is right: it goes on its way -/
theorem Air.on (x : Air X pn τ G a cls d B q s) (hs : X.stack = X.env :: X.outer) (hf : X.env.frame = some X.env.locals) {Wo : WX} (tk : Takes X Wo) (w : Wo cls d τ G) {Q : Flow → Shared → Prop} : wpAny (model X.prog X.w) X.A (handleBy (.ref a) X.env []) Q X.xe s := by
  refine wpAny_handleBy_nil ?_
  obtain ⟨_, _, _, ob, vs, T, _, _, g1, _, g3, g4, _⟩ := x.fly
  unfold PySem.passOn
  refine wpAny_bind (wpAny_field g1 g3 g4 ?_)
  have ne : ¬ ((Value.ref T == Value.none) = true) := by simp
  rw [if_neg ne]
  have out : wpAny (model X.prog X.w) X.A (setFlight (.ref a) X.env.frame) (fun _ s2 => wpAny (model X.prog X.w) X.A (throw (.ref a) : Sem Flow) Q X.xe s2) X.xe s := by
    rw [hf]
    exact HandSPX.setFlight_upZ x.fly fun h hh u => wpAny_throw (tk _ _ ⟨a, B, q, pn, τ, G, cls, d, rfl, x.inv, x.low, x.up.trans u, .inr (.inr (by rw [hs]; exact hh)), x.na, x.os, x.ag, w⟩)
  first
    | exact wpAny_bind out
    | exact wpAny_bind (wpAny_pure (wpAny_bind out))
end
inductive HdsA (X : Cx) : List ExceptHandler → List HdA → Prop
  | nil : HdsA X [] []
  | plain {x : Str} {c : Value} {ts : Addr → Value → Option Addr → TS} {b1 : Stmt} {su : List Stmt} {np p1 : Pos} {hds : List ExceptHandler} {l : List HdA} (hc : Names X x c)
      (hsu : ∀ (a : Addr) (ob : Obj) (cls : Value) (d : Option Addr) (pn : List (Addr × Obj)), Zc cls d ob → (∃ vs, ob.data = .fields vs) → PSs (X.suite a ((a, ob) :: pn)) (b1 :: su) (ts a cls d)) (r : HdsA X hds l) :
      HdsA X (.ExceptHandler (some (.Name x np)) none (b1 :: su) p1 :: hds) ((c, none, ts) :: l)
  | named {x n : Str} {c : Value} {i : Nat} {ts : Addr → Value → Option Addr → TS} {b1 : Stmt} {su : List Stmt} {np p1 : Pos} {hds : List ExceptHandler} {l : List HdA} (hi : X.N[i]? = some n) (hl : X.env.kindOf n = some .local) (hc : Names X x c)
      (hsu : ∀ (a : Addr) (ob : Obj) (cls : Value) (d : Option Addr) (pn : List (Addr × Obj)), Zc cls d ob → (∃ vs, ob.data = .fields vs) → PSs (X.suite a ((a, ob) :: pn)) (b1 :: su) (ts a cls d)) (r : HdsA X hds l) :
      HdsA X (.ExceptHandler (some (.Name x np)) (some n) (b1 :: su) p1 :: hds) ((c, some i, ts) :: l)
section
variable {X : Cx} {body : List Stmt} {hd : ExceptHandler} {hds : List ExceptHandler} {l : List HdA} {pos : Pos} {tb : WX → TS} {Wo : WX}
theorem hds_run (hs : X.stack = X.env :: X.outer) (hf : X.env.frame = some X.env.locals) (hN : X.N.Nodup) (tk : Takes X Wo) (ok : X.Ok) {Dn : Ends} {pn : List (Addr × Obj)} {τ : L2.St} {G : Hp} {a : Addr} {cls : Value} {d : Option Addr} {B : Heap} {q s : Shared} (x : Air X pn τ G a cls d B q s)
    (hh : HdsA X hds l) (w : wishA X.K Wo Dn l cls d τ G) : wpAny (model X.prog X.w) X.A (handleBy (.ref a) X.env hds) (SP X pn Dn) X.xe s := by
  induction hh with
  | nil => exact x.on hs hf tk w
  | plain hc hsu r ih =>
    obtain ⟨b, hb, yes, no⟩ := w
    refine wpAny_handleBy_cons (codeAny_handlers_test (x.asked hf hc hb ?_)) (fun z => by cases z)
    cases b with
    | false => exact ih (no rfl)
    | true =>
      refine codeAny_handlers_suite (HandSPX.lands_againZ x.fly fun h f u => ?_)
      have y := x.moved f u
      obtain ⟨ob, z, hv, _, S⟩ := y.inSuite hf
      exact wpAny_mono ((hsu a ob cls d (X.pn ++ pn) z hv).run [] _ _ G _ S (yes rfl a x.na)) (fun f s1 e => endO_none ok e) fun _ _ z => z.elim
  | @named _ n _ _ _ _ _ _ _ _ _ hi hl hc hsu r ih =>
    obtain ⟨b, hb, yes, no⟩ := w
    refine wpAny_handleBy_cons (codeAny_handlers_test (x.asked hf hc hb ?_)) (fun z => by cases z)
    cases b with
    | false => exact ih (no rfl)
    | true =>
      refine codeAny_handlers_suite_as (HandSPX.lands_againZ x.fly fun h f u => ?_)
      have y := x.moved f u
      obtain ⟨ob, z, hv, _, S⟩ := y.inSuite hf
      have lc : Loc X.env.scope n := .inl hl
      refine store_ok (X := X.suite a ((a, ob) :: (X.pn ++ pn))) (v := .ref a) S hN hi lc rfl (fun s5 S5 => ?_) (.inr hl)
      exact wpAny_mono ((hsu a ob cls d (X.pn ++ pn) z hv).run [] s5 _ G _ S5 (yes rfl a x.na)) (fun f s1 e => endO_some ok hN hi hl e) fun _ _ z => z.elim
theorem ps_tryA (hs : X.stack = X.env :: X.outer) (hf : X.env.frame = some X.env.locals) (hN : X.N.Nodup) (tk : Takes X Wo)
    (hb : ∀ (W : WX) (pn : List (Addr × Obj)) (xe : Value → Shared → Prop), Takes (X.tr pn xe) W → PassesOwn (model X.prog X.w) X.A X.env xe → PSs (X.tr pn xe) body (tb W))
    (hh : HdsA X (hd :: hds) l) : PS X (.Try body (hd :: hds) [] [] pos) (fun Dn τ G => tb (wishA X.K Wo Dn l) Dn τ G) := by
  refine ⟨fun pn s τ G Dn I h => wpAny_Try_except ?_⟩
  have ok := I.ok
  have fr : X.A.frames = some (X.env :: X.outer) := by rw [ok.frames, hs]
  refine wpAny_mono ((hb (wishA X.K Wo Dn l) (X.pn ++ pn) (fun e s1 => wpAny (model X.prog X.w) X.A (noteFrame e X.env) (fun _ s2 => wpAny (model X.prog X.w) X.A (setFlight e none) (fun _ s3 =>
    wpAny (model X.prog X.w) X.A (handleBy e X.env (hd :: hds)) (SP X pn Dn) X.xe s3) X.xe s2) X.xe s1) (fun u s1 z => ?_) PassesOwn.looking).run [] s τ G Dn (I.toTry _) h) (fun f s1 z => ?_) fun _ _ z => z
  · obtain ⟨a, B, q, pn2, t2, G2, cls, d, rfl, I2, low, up, sky, na, os, ag, w⟩ := z
    have sky : Sky B (X.env :: X.outer) a (Zc cls d) X.env.locals s1.heap := by rw [← hs]; exact sky
    exact Sky.land Zc.steady fr hf sky fun h fl u => hds_run (s := { s1 with heap := h }) hs hf hN tk ok ⟨I2.ofTry ok, low, up.trans u, fl, na, os, ag⟩ hh w
  · cases f with
    | next => obtain ⟨t1, G1, J, k⟩ := z; exact wpAny_execs_nil ⟨t1, G1, J.ofTry ok, k⟩
    | brk => obtain ⟨t1, G1, J, k⟩ := z; exact ⟨t1, G1, J.ofTry ok, k⟩
    | cont => obtain ⟨t1, G1, J, k⟩ := z; exact ⟨t1, G1, J.ofTry ok, k⟩
    | ret u => obtain ⟨v, t1, G1, J, r, k⟩ := z; exact ⟨v, t1, G1, J.ofTry ok, r, k⟩
end
/-! ### the deep rule -/
def tTryA (K : PySem.W.Frag) (tb : WX → TS) (Wo : WX) (l : List HdA) : TS := fun Dn τ G => tb (wishA K Wo Dn l) Dn τ G
def endD (o : Option Nat) (D1 : EndD) : EndD := match o with
  | none => D1
  | some i => { nx := fun E C => D1.nx (E.set i none) C, rt := D1.rt, bk := fun E C => D1.bk (E.set i none) C, ct := fun E C => D1.ct (E.set i none) C }
def envO (o : Option Nat) (a : Addr) (E : EnvD) : EnvD := match o with
  | none => E
  | some i => E.set i (some (.ref a))
/-- what the clauses do with an error -/
def HdDA (K : PySem.W.Frag) (mg : Str → Option Value) (B0 : Gr) (E : EnvD) (D1 : EndD) (PXo : Exn → CH → Prop) : List HdA → Exn → CH → Prop
  | [], x, C => PXo x C
  | (c, o, ts) :: r, x, C => ∀ (B : Hp) (cls : Value) (d : Option Addr), ExnOk mg B x cls d → Same B0.b B → ∃ b, PySem.W.exmOne K cls c = some b ∧ (b = true → ∀ a, WS ⟨B, B0.f⟩ (ts a cls d) (envO o a E) C (endD o D1)) ∧ (b = false → HdDA K mg B0 E D1 PXo r x C)
theorem ws_tryA {K : PySem.W.Frag} {mg : Str → Option Value} {B0 : Gr} {tb : WX → TS} {Wo : WX} {l : List HdA} {E : EnvD} {C : CH} {D1 : EndD} {PXo : Exn → CH → Prop} (PX : Exn → CH → Prop) (ho : XOk mg B0 (WE Wo) E PXo)
    (hb : ∀ (B1 : Gr) (W : WX), XOk mg B1 (WE W) E PX → WS B1 (tb W) E C D1) (hl : ∀ x C1, PX x C1 → HdDA K mg B0 E D1 PXo l x C1) : WS B0 (tTryA K tb Wo l) E C D1 := fun B F σ H sb rl re Dn ok => by
  refine hb ⟨B, F⟩ _ (fun B2 F2 σ2 H2 C2 sb2 rl2 re2 x c d hx p => ?_) B F σ H (Sb.refl B F) rl re Dn ok
  have z := hl x C2 p
  clear hl hb
  induction l with
  | nil => exact ho B2 F2 σ2 H2 C2 ⟨sb.1.trans sb2.1, sb.2.trans sb2.2⟩ rl2 re2 x c d hx z
  | cons q r ih =>
    obtain ⟨c1, o, ts⟩ := q
    obtain ⟨b, h1, h2, h3⟩ := z B2 c d hx (sb.1.trans sb2.1)
    refine ⟨b, h1, fun hb a ha => ?_, fun hb => ih (h3 hb)⟩
    cases o with
    | none =>
      exact h2 hb a B2 F σ2 H2 ⟨Same.refl B2, sb.2⟩ (rl2.less sb2.2) re2 Dn ⟨fun σ' E1 B' C' H' s rl' re' k => ok.nx σ' E1 B' C' H' (sb2.1.trans s) rl' re' k, fun v d B' C' H' s rl' rp k => ok.rt v d B' C' H' (sb2.1.trans s) rl' rp k,
        fun σ' E1 B' C' H' s rl' re' k => ok.bk σ' E1 B' C' H' (sb2.1.trans s) rl' re' k, fun σ' E1 B' C' H' s rl' re' k => ok.ct σ' E1 B' C' H' (sb2.1.trans s) rl' re' k⟩
    | some i =>
      exact h2 hb a B2 F _ H2 ⟨Same.refl B2, sb.2⟩ (rl2.less sb2.2) (re2.set i .ref) _ ⟨fun σ' E1 B' C' H' s rl' re' k => ok.nx _ _ B' C' H' (sb2.1.trans s) rl' (re'.unset i) k, fun v d B' C' H' s rl' rp k => ok.rt v d B' C' H' (sb2.1.trans s) rl' rp k,
        fun σ' E1 B' C' H' s rl' re' k => ok.bk _ _ B' C' H' (sb2.1.trans s) rl' (re'.unset i) k, fun σ' E1 B' C' H' s rl' re' k => ok.ct _ _ B' C' H' (sb2.1.trans s) rl' (re'.unset i) k⟩
/-! ### isinstance(e, an own class) -/
def rIsX (K : PySem.W.Frag) (a : Addr) (cls : Value) (d : Option Addr) : List V → Hp → VK → Prop := fun xs G Q => ∃ De, cls = .ref De ∧ d = none ∧ ExcC K De ∧ rIsE K De a xs G Q
theorem call_isX {X : Cx} {a : Addr} {cls : Value} {d : Option Addr} {ob : Obj} {pn : List (Addr × Obj)} (hz : Zc cls d ob) (hf : ∃ vs, ob.data = .fields vs) : CallR (X.suite a ((a, ob) :: pn)) (.builtin "isinstance") (rIsX X.K a cls d) := by
  rintro pins s σ H xs us Q I r ⟨De, rfl, rfl, C, h⟩
  exact call_isE C hz hf pins s σ H xs us Q I r h
theorem call_isXK (K : PySem.W.Frag) {X : Cx} {a : Addr} {cls : Value} {d : Option Addr} {ob : Obj} {pn : List (Addr × Obj)} (hz : Zc cls d ob) (hf : ∃ vs, ob.data = .fields vs) (hK : X.K = K := by rfl) : CallR (X.suite a ((a, ob) :: pn)) (.builtin "isinstance") (rIsX K a cls d) := by
  subst hK
  exact call_isX hz hf
/-- a class of the text, by its name -/
def ClsG (mg : Str → Option Value) (x : Str) : Prop := ∃ a : Addr, mg x = some (.ref a)
def clsAd (mg : Str → Option Value) (x : Str) : Addr := match mg x with
  | some (.ref a) => a
  | _ => 0
theorem ClsG.at {mg : Str → Option Value} {x : Str} (h : ClsG mg x) : mg x = some (.ref (clsAd mg x)) := by
  obtain ⟨a, h⟩ := h
  unfold clsAd
  rw [h]
theorem pe_clsG {mg : Str → Option Value} {X : Cx} {x : Str} {pos : Pos} (h : ClsG mg x) (hm : X.mg = mg := by rfl) (hg : Gl X x := by rfl) (hd : (x == ("__debug__" : Str)) = false := by decide) : PE X (.Name x pos) (tC (.ref (clsAd mg x))) := by
  subst hm
  exact pe_glob hg h.at rfl hd
theorem nm_cls {X : Cx} {x : Str} (h : ClsG X.mg x) (hg : Gl X x := by rfl) (hd : (x == ("__debug__" : Str)) = false := by decide) : Names X x (.ref (clsAd X.mg x)) := ⟨hg, hd, .inl h.at⟩
theorem ps_tryK (K : PySem.W.Frag) {X : Cx} {body : List Stmt} {hd : ExceptHandler} {hds : List ExceptHandler} {l : List HdA} {pos : Pos} {tb : WX → TS} {Wo : WX} (hs : X.stack = X.env :: X.outer) (hf : X.env.frame = some X.env.locals) (hN : X.N.Nodup) (tk : Takes X Wo)
    (hb : ∀ (W : WX) (pn : List (Addr × Obj)) (xe : Value → Shared → Prop), Takes (X.tr pn xe) W → PassesOwn (model X.prog X.w) X.A X.env xe → PSs (X.tr pn xe) body (tb W))
    (hh : HdsA X (hd :: hds) l) (hK : X.K = K := by rfl) : PS X (.Try body (hd :: hds) [] [] pos) (tTryA K tb Wo l) := by
  subst hK
  exact ps_tryA hs hf hN tk hb hh
theorem wc_isX {K : PySem.W.Frag} {B0 : Gr} {C : CH} {P : D → CH → Prop} {a De FE : Addr} {b : Bool} (hc : ExcC K De) (hk : PySem.W.kitOne K (.ref De) (.ref FE) = some b) (k : P (.bl b) C) : WC B0 (rIsX K a (.ref De) none) [.ref a, .ref FE] C P := fun B F H vs sb rl rs Q q => by
  cases rs with
  | cons r1 rs =>
    cases rs with
    | cons r2 rs =>
      cases rs
      cases r1
      cases r2
      exact ⟨De, rfl, rfl, hc, .ref FE, .ref FE, b, rfl, fun u z => z, hk, q _ _ B C H (Same.refl B) rl .bl k⟩
/-! ### defs whose code object is known -/
structure FunL (K : PySem.W.Frag) (x qual : Str) (st : Stmt) (f : Addr) (fd : FuncData) (cd : Addr) : Prop where
  ex : ∃ (oc : Value) (od : Option Addr) (kV doc pm : Value) (an : Option Addr) (ct : Value) (osl : Array (Option Value)),
    fd = PySem.W.fnOf x qual (defArgs st) (defBody st) (defScope st) .none kV doc pm an (.ref cd) ct ∧ K.lookup f = some ⟨oc, od, .func fd, osl⟩ ∧ PySem.W.codeIn K (.ref cd) qual = true
  kp : PySem.W.keepIn K (.ref f) = true
def DefAtL (K : PySem.W.Frag) (mg : Str → Option Value) (x : Str) (st : Stmt) (ps : List Str) (cd : Addr) : Prop :=
  ∃ f fd, FunL K x x st f fd cd ∧ mg x = some (.ref f) ∧ Binds K fd ps []
section
variable {P : Program} {w : World} {K : PySem.W.Frag} {mg : Str → Option Value} {base : Heap}
theorem funL_mk {x qual : Str} {st : Stmt} {f : Addr} {oc kV doc pm ct : Value} {od an : Option Addr} {cd : Addr} {sl : Array (Option Value)} (h : K.lookup f = some ⟨oc, od, .func (PySem.W.fnOf x qual (defArgs st) (defBody st) (defScope st) .none kV doc pm an (.ref cd) ct), sl⟩)
    (hc : PySem.W.codeIn K (.ref cd) qual = true) (hk : PySem.W.keepIn K (.ref f) = true) : FunL K x qual st f (PySem.W.fnOf x qual (defArgs st) (defBody st) (defScope st) .none kV doc pm an (.ref cd) ct) cd := ⟨⟨oc, od, kV, doc, pm, an, ct, sl, rfl, h, hc⟩, hk⟩
theorem has_ofXL {x : Str} {st : Stmt} {N ps : List Str} {k : Nat} {g : SpX} {cd : Addr} (Df : DefAtL K mg x st ps cd) (S : FnScope N ps (defScope st)) (len : ∀ ds C P PX, g ds C P PX → ds.length = ps.length)
    (hbody : ∀ (f : Addr) (A : Around) (outer : List PySem.Env) (s : Shared) (H : Hp) (E : XK), Room k (A.deeper (PyProof.Rows.envOfC x (defScope st) s.heap.objs.size f (.ref cd))) →
      ∃ t, PSs (cxOf (L2.CX P w) P w K mg base N x (defScope st) f (.ref cd) A outer s H E) (defBody st) t ∧ ∀ (B : Gr) ds C PD PX, g ds C PD PX → XOkF mg B E PX → WS B t (startD N.length ds) C { nx := fun _ C' => PD .non C', rt := PD }) :
    HasX P w K mg base (k + 1) x ps (spX mg g) := by
  obtain ⟨f, fd, F, hm, hb⟩ := Df
  obtain ⟨oc, od, kV, doc, pm, an, ct, osl, rfl, lk, hcd⟩ := F.ex
  refine ⟨f, _, fn_of lk hcd S ?_ fun A outer s H vs Q E hr h => ?_, hm, F.kp, hb⟩
  · rintro vs H Q E ⟨B, F, C, ds, P, PX, _, rp, h, _⟩
    rw [rp.length]
    exact len _ _ _ _ h
  · obtain ⟨t, h1, h2⟩ := hbody f A outer s H E hr
    obtain ⟨B, F, C, ds, P, PX, rl, rp, hg, q, qx⟩ := h
    refine ⟨t, h1, h2 ⟨B, F⟩ ds C P PX hg (fun B' F' H' C' sb rl' x c d ok p => qx x c d B' C' H' sb.1 (rl'.less sb.2) ok p) B F _ H (Sb.refl B F) rl (RelE.begin rp) _ ⟨?_, ?_, ?_, ?_⟩⟩
    · exact fun σ' E' B' C' H' e rl' _ p => q .non .non B' C' H' e rl' .non p
    · exact fun v d B' C' H' e rl' rp' p => q v d B' C' H' e rl' rp' p
    · exact fun _ _ _ _ _ _ _ _ z => z
    · exact fun _ _ _ _ _ _ _ _ z => z
/-! ### the end with tables -/
def tabC (cs : List (Addr × Str)) : CH := fun b => (cs.find? fun p => decide (p.1 = b)).map fun p => .tab p.2
def spLawT (K : PySem.W.Frag) (cs : List (Addr × Str)) : Sp := fun vs H Q _ => ∃ (a : Addr) (ns : List Int), vs = [.ref a] ∧ SqL K H a (ns.map V.int) ∧ (∀ p ∈ cs, H p.1 = some (.tbl #[])) ∧ ns.length ≤ 63 ∧ ∀ H', Q (.bl true) H'
theorem law_ofT {k : Nat} {f : Addr} {fd : FuncData} {ps : List Str} {cs : List (Addr × Str)} (F : FnOk P w K mg base CX0 k f fd ps (spScr K fun ns C P => ns.length ≤ 63 ∧ C = tabC cs ∧ ∀ C', P (.bl true) C')) : FnOk P w K mg base CX0 k f fd ps (spLawT K cs) :=
  F.imp fun vs H Q E ⟨a, ns, e, hs, ht, hl, q⟩ => by
    have tab : ∀ b c, tabC cs b = some c → H b = some (.tbl #[]) ∧ ∃ q, c = .tab q := fun b c z => by
      unfold tabC at z
      cases w : cs.find? fun p => decide (p.1 = b) with
      | none => rw [w] at z; cases z
      | some p =>
        rw [w] at z
        have eb : p.1 = b := by simpa using List.find?_some w
        have hp := ht p (List.mem_of_find?_eq_some w)
        rw [eb] at hp
        exact ⟨hp, p.2, by cases z; rfl⟩
    refine ⟨fun b => if (tabC cs b).isSome then none else H b, fun _ => none, tabC cs, a, ns, fun d _ => d = .bl true, ⟨fun b u z => ?_, (fun _ _ z => by cases z), (fun _ _ z => by cases z), (fun _ _ z => by cases z), fun b c z => ?_, fun b c z => ?_⟩, e, ?_,
      ⟨hl, rfl, fun _ => rfl⟩, fun v d B' C' H' _ _ rp e => by subst e; cases rp; exact q H'⟩
    · have z : (if (tabC cs b).isSome then none else H b) = some u := z
      split at z
      · cases z
      · exact z
    · show (if (tabC cs b).isSome then none else H b) = none
      rw [z]
      rfl
    · obtain ⟨h1, q, rfl⟩ := tab b c z
      exact ⟨_, h1, .tab True.intro fun pos cv z => by
        have z : codeAmong pos [] = some cv := z
        simp [codeAmong] at z⟩
    · have na : H a ≠ some (.tbl #[]) ∨ K.lookup a ≠ none := by
        rcases hs with (h1 | ⟨o, h1⟩) | ⟨o, _, _, h1, _⟩
        · left; rw [h1]; intro z; cases z
        · left; rw [h1]; intro z; cases z
        · right; rw [h1]; intro z; cases z
      rcases hs with (h1 | ⟨o, h1⟩) | h1
      · refine .inl (.inl ?_)
        have z : tabC cs a = none := by
          cases w : tabC cs a with
          | none => rfl
          | some c => rw [(tab a c w).1] at h1; cases h1
        show (if (tabC cs a).isSome then none else H a) = _
        rw [z]
        exact h1
      · refine .inl (.inr ⟨o, ?_⟩)
        have z : tabC cs a = none := by
          cases w : tabC cs a with
          | none => rfl
          | some c => rw [(tab a c w).1] at h1; cases h1
        show (if (tabC cs a).isSome then none else H a) = _
        rw [z]
        exact h1
      · exact .inr h1
end
theorem walk_ofTop {l : PySem.W.OpenLaw} {k : Nat} {q : Program} {loose : List Str} {XP : (Str → Option Value) → Heap → Prop} {YP : World → Heap → Prop} {d : DefRec} {K : Params → PySem.W.Frag} {ts : List Addr}
    (hn : l.most = some 63) (hdf : d.params.defaults = []) (hr : Room k callerA) (hY : ∀ (w : World) (h : Heap), YP w h → (K w.params).In h) (hT : ∀ (w : World) (h : Heap), YP w h → ∀ Pt ∈ ts, h.get? Pt = some (PySem.W.tabObj #[]))
    (F : ∀ (w : World) (mg : Str → Option Value) (fa : Addr) (h : Heap), (K w.params).In h → h.Ns mainGlobals mg → mg d.name = some (.ref fa) →
      ∃ (fd : FuncData) (cs : List (Addr × Addr)) (qs : List (Addr × Str)), (∀ p ∈ qs, ∃ c, (c, p.1) ∈ cs) ∧ (∀ p ∈ cs, PySem.W.codeHdIn (K w.params) p.1 p.2 = true ∧ p.2 ∈ ts) ∧ (∀ p ∈ cs, (K w.params).lookup p.2 = none) ∧ (∀ (s : Shared) (u : Value), BindsTo s fd ⟨[u], []⟩ [("_law_script", u)]) ∧
        ∀ base : Heap, (K w.params).In base → base.Ns mainGlobals mg → (∀ p ∈ cs, LamX.TabB base mg p.1 p.2) → FnOk l.prog w (K w.params) mg base CX0 k fa fd ["_law_script"] (spLawT (K w.params) qs)) :
    PySem.W.WalkO q loose XP YP l.row.toRowW d [] (fun f vs => PySem.call f vs) := by
  refine Att.attach_callB hn hdf fun w s₀ s₁ mg mb fa o pm cd doc a vs ns G Y ho hd hcd hmg hobj hints hlen hbits hg => ?_
  have KX := hY w _ Y
  have TX := hT w _ Y
  obtain ⟨fd, cs, qs, h1, h2, h3, h4, h5⟩ := F w mg fa _ KX G.T.g hmg
  exact LamX.law_callTs KX G.T.g G.T.b G.T.builtins G.T.nolimit hg (fun p hp => TX _ (h2 p hp).2) h3 (fun p hp => PySem.W.codeHd_of_K KX (h2 p hp).1) G.T.bmain hobj hints (Nat.le_trans hlen (by decide)) hr h5 h4
    (fun H hH hS => ⟨a, ns, rfl, hS, fun p hp => (h1 p hp).elim fun c hc => hH _ hc, hlen, fun _ => rfl⟩) fun H e s' z => z
theorem tk_of {P : Program} {w : World} {K : PySem.W.Frag} {mg : Str → Option Value} {base : Heap} {N : List Str} {x : Str} {sc : Scope} {f : Addr} {cdv : Value} {A : Around} {outer : List PySem.Env} {s : Shared} {H : Hp} {E : XK} :
    Takes (cxOf (L2.CX P w) P w K mg base N x sc f cdv A outer s H E) (fun cls d _ G => E cls d G) := takes_of rfl rfl rfl rfl
end Dv

set_option maxRecDepth 100000
set_option maxHeartbeats 1000000
/-! The program's way to do an edit, and the law's. -/
namespace Dv
open PySem L2
mutual
/-- the parts of the scroller n changed -/
def wpB (n : Int) (φ : List Box → List Box) : Box → Box
  | .block m h => .block m h
  | .scroller m h ps => .scroller m h (if m = n then φ (wps n φ ps) else wps n φ ps)
def wps (n : Int) (φ : List Box → List Box) : List Box → List Box
  | [] => []
  | p :: r => wpB n φ p :: wps n φ r
end
theorem wps_map (n : Int) (φ : List Box → List Box) : ∀ l, wps n φ l = l.map (wpB n φ)
  | [] => rfl
  | p :: r => by rw [wps, wps_map n φ r]; rfl
theorem wpB_num (n : Int) (φ : List Box → List Box) (b : Box) : (wpB n φ b).num = b.num := by cases b <;> rfl
mutual
/-- the height of the box n changed -/
def whB (n v : Int) : Box → Box
  | .block m h => .block m (if m = n then v else h)
  | .scroller m h ps => .scroller m (if m = n then v else h) (whs n v ps)
def whs (n v : Int) : List Box → List Box
  | [] => []
  | p :: r => whB n v p :: whs n v r
end
theorem whs_map (n v : Int) : ∀ l, whs n v l = l.map (whB n v)
  | [] => rfl
  | p :: r => by rw [whs, whs_map n v r]; rfl
def insB (i : Int) (x : Box) (l : List Box) : List Box := l.take i.toNat ++ [x] ++ l.drop i.toNat
def remB (n : Int) (l : List Box) : List Box := l.filter fun p => decide (p.num ≠ n)
mutual
theorem wp_ins (n i : Int) (x : Box) : ∀ b, wpB n (insB i x) b = withB (.ins n i x) b
  | .block m h => rfl
  | .scroller m h ps => by
    have e := wps_ins n i x ps
    rw [wpB, withB, e]
    show Box.scroller m h (if m = n then _ else _) = Box.scroller m h (if m = n then _ else _)
    rfl
theorem wps_ins (n i : Int) (x : Box) : ∀ l, wps n (insB i x) l = withs (.ins n i x) l
  | [] => rfl
  | p :: r => by
    rw [wps, wp_ins n i x p, wps_ins n i x r]
    rfl
end
mutual
theorem wh_res (n v : Int) : ∀ b, whB n v b = withB (.res n v) b
  | .block m h => rfl
  | .scroller m h ps => by
    have e := whs_res n v ps
    rw [whB, withB, e]
    rfl
theorem whs_res (n v : Int) : ∀ l, whs n v l = withs (.res n v) l
  | [] => rfl
  | p :: r => by
    rw [whs, wh_res n v p, whs_res n v r]
    rfl
end
theorem filter_wps (n : Int) (φ : List Box → List Box) (m : Int) : ∀ l, remB m (wps n φ l) = wps n φ (remB m l)
  | [] => rfl
  | p :: r => by
    have ih := filter_wps n φ m r
    unfold remB at ih ⊢
    rw [wps, List.filter_cons, List.filter_cons, wpB_num]
    split
    · rw [wps, ih]
    · exact ih
mutual
theorem wp_rem (n m : Int) : ∀ b : Box, (∀ p ∈ b.all, m ∈ p.parts.map Box.num → p.num = n) → wpB n (remB m) b = withB (.rem m) b
  | .block k h, _ => rfl
  | .scroller k h ps, H => by
    have hp : ∀ q ∈ alls ps, m ∈ q.parts.map Box.num → q.num = n := fun q hq => H q (by rw [Box.all]; simp [hq])
    have e := wps_rem n m ps hp
    have e2 : wps n (remB m) (remB m ps) = withs (.rem m) ps := e
    rw [wpB, withB]
    show Box.scroller k h _ = Box.scroller k h (withs (.rem m) ps)
    congr 1
    by_cases c : k = n
    · rw [if_pos c, filter_wps, e2]
    · rw [if_neg c, ← e2]
      have no : m ∉ ps.map Box.num := fun z => c (H (.scroller k h ps) (by rw [Box.all]; simp) z)
      have : remB m ps = ps := List.filter_eq_self.mpr fun a ha => by
        simp only [decide_eq_true_eq]
        intro z
        exact no (List.mem_map.mpr ⟨a, ha, z⟩)
      rw [this]
theorem wps_rem (n m : Int) : ∀ l : List Box, (∀ p ∈ alls l, m ∈ p.parts.map Box.num → p.num = n) → wps n (remB m) (remB m l) = withs (.rem m) l
  | [], _ => rfl
  | p :: r, H => by
    have h1 := wp_rem n m p fun q hq => H q (by rw [alls]; simp [hq])
    have h2 := wps_rem n m r fun q hq => H q (by rw [alls]; simp [hq])
    rw [withs]
    unfold remB at h1 h2 ⊢
    rw [List.filter_cons]
    show _ = if decide (p.num ≠ m) = true then _ else _
    split
    · rw [wps, h1, h2]
    · exact h2
end
/-! one parent -/
def kids (l : List Box) : List Int := l.flatMap fun p => p.parts.map Box.num
mutual
theorem kids_all (m : Int) : ∀ b : Box, (kids b.all).count m = ((alls b.parts).map Box.num).count m
  | .block n h => by simp [Box.all, kids, Box.parts, alls]
  | .scroller n h ps => by
    have e := kids_alls m ps
    show List.count m (kids (Box.scroller n h ps).all) = ((alls ps).map Box.num).count m
    rw [Box.all, e]
    show List.count m (ps.map Box.num ++ kids (alls ps)) = _
    rw [List.count_append]
theorem kids_alls (m : Int) : ∀ l : List Box, ((alls l).map Box.num).count m = (l.map Box.num).count m + (kids (alls l)).count m
  | [] => rfl
  | p :: r => by
    have h1 := kids_all m p
    have h2 := kids_alls m r
    rw [alls, List.map_append, List.count_append, h2]
    have e : kids (p.all ++ alls r) = kids p.all ++ kids (alls r) := by unfold kids; rw [List.flatMap_append]
    rw [e, List.count_append, h1, all_eq p, List.map_cons, List.map_cons, List.count_cons, List.count_cons]
    omega
end
theorem kids_two {m : Int} : ∀ {l : List Box} {p q : Box}, p ∈ l → q ∈ l → m ∈ p.parts.map Box.num → m ∈ q.parts.map Box.num → (kids l).count m ≤ 1 → p = q
  | [], _, _, hp, _, _, _, _ => by cases hp
  | x :: r, p, q, hp, hq, h1, h2, hc => by
    have e : kids (x :: r) = x.parts.map Box.num ++ kids r := rfl
    rw [e, List.count_append] at hc
    have pos : ∀ {y : Box}, y ∈ r → m ∈ y.parts.map Box.num → 0 < (kids r).count m := fun {y} hy hm => List.count_pos_iff.mpr (List.mem_flatMap.mpr ⟨y, hy, hm⟩)
    rcases List.mem_cons.mp hp with ep | hp2
    · rcases List.mem_cons.mp hq with eq | hq2
      · rw [ep, eq]
      · have := pos hq2 h2
        rw [ep] at h1
        have := List.count_pos_iff.mpr h1
        omega
    · rcases List.mem_cons.mp hq with eq | hq2
      · have := pos hp2 h1
        rw [eq] at h2
        have := List.count_pos_iff.mpr h2
        omega
      · exact kids_two hp2 hq2 h1 h2 (by omega)
theorem parentB_some : ∀ {l : List Box} {m n : Int}, parentB l m = some n → ∃ p ∈ l, m ∈ p.parts.map Box.num ∧ p.num = n
  | [], _, _, h => by cases h
  | x :: r, m, n, h => by
    rw [parentB] at h
    split at h
    · rename_i hm
      exact ⟨x, by simp, hm, Option.some.inj h⟩
    · obtain ⟨p, h1, h2, h3⟩ := parentB_some h
      exact ⟨p, by simp [h1], h2, h3⟩
theorem parentB_none : ∀ {l : List Box} {m : Int}, parentB l m = none → ∀ p ∈ l, m ∉ p.parts.map Box.num
  | [], _, _, p, hp => by cases hp
  | x :: r, m, h, p, hp => by
    rw [parentB] at h
    split at h
    · cases h
    · rename_i hm
      rcases List.mem_cons.mp hp with rfl | hp
      · exact hm
      · exact parentB_none h p hp
theorem kids_count {b : Box} (nd : (b.all.map Box.num).Nodup) (m : Int) : (kids b.all).count m ≤ 1 := by
  have h := List.nodup_iff_count.mp nd m
  rw [kids_all, all_eq, List.map_cons, List.count_cons] at *
  omega
theorem rem_parent {b : Box} {m n : Int} (nd : (b.all.map Box.num).Nodup) (h : parentB b.all m = some n) : wpB n (remB m) b = withB (.rem m) b := by
  obtain ⟨p, h1, h2, h3⟩ := parentB_some h
  refine wp_rem n m b fun q hq hm => ?_
  have := kids_two h1 hq h2 hm (kids_count nd m)
  rw [← this]
  exact h3
theorem root_parent {b : Box} {m : Int} (nd : (b.all.map Box.num).Nodup) : parentB b.all m = none ↔ (m = b.num ∨ m ∉ b.all.map Box.num) := by
  have key : (kids b.all).count m = ((alls b.parts).map Box.num).count m := kids_all m b
  have hc := List.nodup_iff_count.mp nd m
  rw [all_eq, List.map_cons, List.count_cons] at hc
  constructor
  · intro h
    have no := parentB_none h
    have z : (kids b.all).count m = 0 := by
      rw [List.count_eq_zero]
      intro hm
      obtain ⟨p, hp, hm⟩ := List.mem_flatMap.mp hm
      exact no p hp hm
    rw [key] at z
    by_cases c : m = b.num
    · exact .inl c
    · right
      rw [all_eq, List.map_cons, List.mem_cons]
      rintro (h | h)
      · exact c h
      · exact List.count_eq_zero.mp z h
  · intro h
    have z : (kids b.all).count m = 0 := by
      rw [key]
      rcases h with rfl | h
      · simp at hc
        first
          | exact hc
          | omega
      · rw [List.count_eq_zero]
        rw [all_eq, List.map_cons, List.mem_cons] at h
        exact fun hm => h (.inr hm)
    cases e : parentB b.all m with
    | none => rfl
    | some n =>
      obtain ⟨p, h1, h2, _⟩ := parentB_some e
      exact absurd (List.mem_flatMap.mpr ⟨p, h1, h2⟩) (List.count_eq_zero.mp z)
mutual
theorem nd_encB : ∀ b : Box, NoDic (encB b)
  | .block n h => .tup fun x hx => by
    simp only [List.mem_cons, List.not_mem_nil, or_false] at hx
    rcases hx with rfl | rfl | rfl
    · exact .str
    · exact .int
    · exact .int
  | .scroller n h ps => .tup fun x hx => by
    have := nd_encBs ps
    simp only [List.mem_cons, List.not_mem_nil, or_false] at hx
    rcases hx with rfl | rfl | rfl | rfl
    · exact .str
    · exact .int
    · exact .int
    · exact .tup this
theorem nd_encBs : ∀ l : List Box, ∀ x ∈ encBs l, NoDic x
  | [], _, h => by cases h
  | p :: r, x, h => by
    have h1 := nd_encB p
    have h2 := nd_encBs r
    rw [encBs] at h
    rcases List.mem_cons.mp h with rfl | h
    · exact h1
    · exact h2 x h
end
/-! errors by name -/
def errOf (z : Str) : Str := if z = "none" then "NoSuchBox" else if z = "block" then "NotAScroller" else "RefusedEdit"
def outE (P : D → CH → Prop) (PX : Exn → CH → Prop) (C : CH) : Str ⊕ Box → Prop
  | .inr l => P (encB l) C
  | .inl z => PX (.own (errOf z)) C
/-- as editR, before the whole is looked at -/
def editQ (b : Box) (e : Edit) : Str ⊕ Box := match findB b.all e.num with
  | none => .inl "none"
  | some s => if e.isIns && !s.isS then .inl "block" else if e.bad b s then .inl "refused" else .inr (withB e b)
theorem editR_Q (b : Box) (e : Edit) : editR b e = match editQ b e with
    | .inl z => .inl z
    | .inr l => if isDoc l then .inr l else .inl "refused" := by
  unfold editR editQ
  cases ef : findB b.all e.num with
  | none => rfl
  | some s =>
    cases h1 : (e.isIns && !s.isS) <;> cases h2 : e.bad b s <;> simp [h1, h2]
theorem editQ_inr {b l : Box} {e : Edit} (h : editQ b e = .inr l) : l = withB e b := by
  unfold editQ at h
  cases ef : findB b.all e.num with
  | none => rw [ef] at h; cases h
  | some s =>
    rw [ef] at h
    cases h1 : (e.isIns && !s.isS) <;> cases h2 : e.bad b s <;> simp [h1, h2] at h
    exact h.symm
theorem editR_inl {b : Box} {e : Edit} {z : Str} (h : editR b e = .inl z) : z = "none" ∨ z = "block" ∨ z = "refused" := by
  unfold editR at h
  cases ef : findB b.all e.num with
  | none => rw [ef] at h; cases h; exact .inl rfl
  | some s =>
    rw [ef] at h
    cases h1 : (e.isIns && !s.isS) <;> cases h2 : e.bad b s <;> cases h3 : isDoc (withB e b) <;> simp [h1, h2, h3] at h <;> subst h <;> simp
end Dv

set_option maxRecDepth 100000
set_option maxHeartbeats 1000000
/-! Deeds, plainly; a document with its offsets. -/
namespace Dv
open PySem L2
inductive Deed where
  | edit (e : Edit)
  | set (m v : Int)
  | moves (mv : List (Int × Int))
def encDd : Deed → D
  | .edit e => .tup [.str "edit", encE e]
  | .set m v => .tup [.str "set", .int m, .int v]
  | .moves mv => .tup [.str "moves", .tup (mv.map pairD)]
abbrev DocS := Box × List (Int × Int)
def encS (s : DocS) : D := .tup [encB s.1, .dic (encI s.2)]
def encDone : Str ⊕ DocS → D
  | .inl z => .str z
  | .inr s => encS s
def outD (P : D → CH → Prop) (PX : Exn → CH → Prop) (C : CH) : Str ⊕ DocS → Prop
  | .inr s => P (encS s) C
  | .inl z => PX (.own (errOf z)) C
def setR (b : Box) (O : List (Int × Int)) (m v : Int) : Str ⊕ DocS := match findB b.all m with
  | none => .inl "none"
  | some s => if s.isS then .inr (b, fitB (putI O m v) b) else .inl "block"
def editD (b : Box) (O : List (Int × Int)) : Str ⊕ Box → Str ⊕ DocS
  | .inl z => .inl z
  | .inr l => .inr (l, afterB b O l)
def doD (b : Box) (O : List (Int × Int)) : Deed → Str ⊕ DocS
  | .edit e => editD b O (editR b e)
  | .set m v => setR b O m v
  | .moves mv => .inr (b, movedL (rangesB b) mv O)
def Deed.Ok : Deed → Prop
  | .edit e => e.Ok
  | .set _ _ => True
  | .moves mv => mv.length ≤ 1000
def Deed.OkW (b : Box) : Deed → Prop
  | .edit e => e.OkW ∧ b.all.length * (1 + e.xlen) ≤ 4000
  | .set _ _ => True
  | .moves mv => mv.length ≤ 1000
theorem Deed.Ok.w {d : Deed} {b : Box} (h : d.Ok) (hb : b.all.length ≤ 200) : d.OkW b := by
  cases d with
  | edit e =>
    have h3 : e.xlen ≤ 3 := Edit.Ok.xlen h
    exact ⟨Edit.Ok.w h, Nat.le_trans (Nat.mul_le_mul hb (by omega : 1 + e.xlen ≤ 4)) (by decide)⟩
  | set _ _ => trivial
  | moves mv => exact h
/-- a document with its offsets, each in its range -/
structure GoodS (b : Box) (O : List (Int × Int)) : Prop where
  lev : b.lev ≤ 5
  len : b.all.length ≤ 200
  nd : (b.all.map Box.num).Nodup
  keys : keysI O = (scrsB b).map Box.num
  rng : ∀ s ∈ scrsB b, 0 ≤ gI O s.num ∧ gI O s.num ≤ rangeB s
theorem GoodS.offs {b : Box} {O : List (Int × Int)} (h : GoodS b O) : OffsG b O where
  keys := h.keys
  pos := fun k => by
    by_cases e : k ∈ keysI O
    · rw [h.keys] at e
      obtain ⟨s, hs, rfl⟩ := List.mem_map.mp e
      exact (h.rng s hs).1
    · unfold gI
      rw [getI_none.mpr e]
      exact Int.le_refl _
theorem GoodS.ndO {b : Box} {O : List (Int × Int)} (h : GoodS b O) : (keysI O).Nodup := by rw [h.keys]; exact nodup_scrs h.nd
theorem GoodS.keysR {b : Box} {O : List (Int × Int)} (h : GoodS b O) : keysI O = keysI (rangesB b) := by rw [h.keys, rangesB_keys]
theorem scrs_len (b : Box) : (scrsB b).length ≤ b.all.length := List.length_filter_le _ _
theorem GoodS.lenO {b : Box} {O : List (Int × Int)} (h : GoodS b O) : O.length ≤ 200 := by
  have e := congrArg List.length h.keys
  have := scrs_len b
  have := h.len
  simp [keysI] at e
  omega
theorem gI_fit {b s : Box} (o : List (Int × Int)) (nd : (b.all.map Box.num).Nodup) (hs : s ∈ scrsB b) : gI (fitB o b) s.num = min (max (gI o s.num) 0) (rangeB s) := by
  have g := getI_mem (l := fitB o b) (p := (s.num, min (max ((getI o s.num).getD 0) 0) (rangeB s))) (by rw [fitB_keys _ nd]; exact nodup_scrs nd) (by rw [fitB_map _ nd]; exact List.mem_map.mpr ⟨s, hs, rfl⟩)
  unfold gI
  rw [g]
  rfl
theorem good_fit {b : Box} (o : List (Int × Int)) (hl : b.lev ≤ 5) (hz : b.all.length ≤ 200) (nd : (b.all.map Box.num).Nodup) : GoodS b (fitB o b) where
  lev := hl
  len := hz
  nd := nd
  keys := fitB_keys o nd
  rng := fun s hs => by
    have := rangeB_nonneg s
    rw [gI_fit o nd hs]
    omega
theorem good_moved {b : Box} : ∀ (mv O : List (Int × Int)), GoodS b O → GoodS b (movedL (rangesB b) mv O)
  | [], _, h => h
  | p :: r, O, h => by
    rw [movedL]
    by_cases z : p.1 ∈ keysI (rangesB b)
    · rw [if_pos z]
      refine good_moved r _ ⟨h.lev, h.len, h.nd, ?_, fun s hs => ?_⟩
      · rw [keys_put_mem (by rw [h.keysR]; exact z), h.keys]
      · rw [gI_put]
        by_cases e : s.num = p.1
        · rw [if_pos e, ← e, rangesB_at h.nd hs]
          have := rangeB_nonneg s
          unfold clampI
          omega
        · rw [if_neg e]
          exact h.rng s hs
    · rw [if_neg z]
      exact good_moved r O h
theorem good_do {b : Box} {O : List (Int × Int)} {d : Deed} {s : DocS} (h : GoodS b O) (e : doD b O d = .inr s) : GoodS s.1 s.2 := by
  cases d with
  | edit ed =>
    replace e : editD b O (editR b ed) = .inr s := e
    cases er : editR b ed with
    | inl z => rw [er] at e; cases e
    | inr l =>
      rw [er] at e
      obtain rfl := Sum.inr.inj e
      obtain ⟨_, hdoc⟩ := editR_doc er
      obtain ⟨f1, f2, f3, f4, f5, f6⟩ := isDoc_facts hdoc
      have f7 := lev_deep l
      exact good_fit _ (by show l.lev ≤ 5; omega) (by show l.all.length ≤ 200; omega) f4
  | set m v =>
    replace e : setR b O m v = .inr s := e
    unfold setR at e
    cases ef : findB b.all m with
    | none => rw [ef] at e; cases e
    | some q =>
      rw [ef] at e
      cases hq : q.isS with
      | false => simp [hq] at e
      | true =>
        simp only [hq, if_true] at e
        obtain rfl := Sum.inr.inj e
        exact good_fit _ h.lev h.len h.nd
  | moves mv =>
    obtain rfl := Sum.inr.inj e
    exact good_moved mv O h
theorem map_keys : ∀ {A : List (Int × Int)}, (keysI A).Nodup → A = (keysI A).map fun k => (k, gI A k)
  | [], _ => rfl
  | p :: r, h => by
    simp only [keysI, List.map_cons, List.nodup_cons] at h
    have e := map_keys h.2
    have g : gI (p :: r) p.1 = p.2 := by unfold gI; rw [getI_cons, if_pos rfl]; rfl
    simp only [keysI, List.map_cons]
    rw [g]
    congr 1
    conv => lhs; rw [e]
    apply List.map_congr_left
    intro k hk
    have ne : p.1 ≠ k := fun z => h.1 (by rw [z]; exact hk)
    have g2 : gI (p :: r) k = gI r k := by unfold gI; rw [getI_cons, if_neg ne]
    rw [g2]
theorem ext_keys {A B : List (Int × Int)} (hk : keysI A = keysI B) (hn : (keysI A).Nodup) (h : ∀ k ∈ keysI A, gI A k = gI B k) : A = B := by
  have hn2 : (keysI B).Nodup := hk ▸ hn
  have e : ((keysI A).map fun k => (k, gI A k)) = (keysI B).map fun k => (k, gI B k) := by
    rw [← hk]
    apply List.map_congr_left
    intro k hk2
    rw [h k hk2]
  exact (map_keys hn).trans (e.trans (map_keys hn2).symm)
/-- one offset set, as the law sets it -/
theorem set_fit {b s : Box} {O : List (Int × Int)} {m v : Int} (h : GoodS b O) (hf : findB b.all m = some s) (hs : s.isS = true) : fitB (putI O m v) b = putI O m (max 0 (min v (rangeB s))) := by
  obtain ⟨h1, h2⟩ := findB_is hf
  have hm : s ∈ scrsB b := List.mem_filter.mpr ⟨h1, hs⟩
  have hk : m ∈ keysI O := by rw [h.keys, ← h2]; exact List.mem_map.mpr ⟨s, hm, rfl⟩
  have r0 := rangeB_nonneg s
  refine ext_keys ?_ (by rw [fitB_keys _ h.nd]; exact nodup_scrs h.nd) fun k hk2 => ?_
  · rw [fitB_keys _ h.nd, keys_put_mem hk, h.keys]
  · rw [fitB_keys _ h.nd] at hk2
    obtain ⟨q, hq, rfl⟩ := List.mem_map.mp hk2
    rw [gI_fit _ h.nd hq, gI_put, gI_put]
    by_cases e : q.num = m
    · rw [if_pos e, if_pos e]
      have e2 : q = s := by
        have := findB_of h.nd (List.mem_filter.mp hq).1
        rw [e, hf] at this
        exact (Option.some.inj this).symm
      rw [e2]
      omega
    · rw [if_neg e, if_neg e]
      have := h.rng q hq
      omega
theorem clamp_law {i m : Int} (h : 0 ≤ m) : clampI i m = max 0 (min i m) := by
  unfold clampI
  omega
/-- deeds one after another -/
def runD : DocS → List Deed → Option DocS
  | s, [] => some s
  | s, d :: r => match doD s.1 s.2 d with
    | .inr t => runD t r
    | .inl _ => none
theorem runD_snoc : ∀ {l : List Deed} {s t u : DocS} {d : Deed}, runD s l = some t → doD t.1 t.2 d = .inr u → runD s (l ++ [d]) = some u
  | [], s, t, u, d, h, e => by
    obtain rfl := Option.some.inj h
    rw [List.nil_append, runD, e]
    rfl
  | c :: l, s, t, u, d, h, e => by
    rw [runD] at h
    rw [List.cons_append, runD]
    cases z : doD s.1 s.2 c with
    | inl _ => rw [z] at h; cases h
    | inr q =>
      rw [z] at h
      exact runD_snoc h e
theorem runD_good : ∀ {l : List Deed} {s t : DocS}, GoodS s.1 s.2 → runD s l = some t → GoodS t.1 t.2
  | [], s, t, g, h => by
    obtain rfl := Option.some.inj h
    exact g
  | d :: l, s, t, g, h => by
    rw [runD] at h
    cases z : doD s.1 s.2 d with
    | inl _ => rw [z] at h; cases h
    | inr q =>
      rw [z] at h
      exact runD_good (good_do g z) h
theorem doD_inl {b : Box} {O : List (Int × Int)} {d : Deed} {z : Str} (h : doD b O d = .inl z) : z = "none" ∨ z = "block" ∨ z = "refused" := by
  cases d with
  | edit e =>
    replace h : editD b O (editR b e) = .inl z := h
    cases er : editR b e with
    | inl y => rw [er] at h; cases h; exact editR_inl er
    | inr l => rw [er] at h; cases h
  | set m v =>
    replace h : setR b O m v = .inl z := h
    unfold setR at h
    cases ef : findB b.all m with
    | none => rw [ef] at h; cases h; exact .inl rfl
    | some q =>
      rw [ef] at h
      cases hq : q.isS <;> simp [hq] at h
      exact .inr (.inl h.symm)
  | moves mv => cases h
/-- a def that may raise, where it does not -/
theorem HasX.has {P : Program} {w : World} {K : PySem.W.Frag} {mg : Str → Option Value} {base : Heap} {k : Nat} {x : Str} {ps : List Str} {g : SpX} (h : HasX P w K mg base k x ps (spX mg g)) :
    Has P w K mg base k x ps (spD fun ds C Q => g ds C Q fun _ _ => False) := by
  obtain ⟨f, fd, F, hm, hk, hb⟩ := h
  refine ⟨f, fd, ⟨?_, ?_⟩, hm, hk, hb⟩
  · rintro vs H Q E ⟨B, F1, C, ds, PD, rl, rp, hg, q⟩
    exact F.len vs H Q (fun _ _ _ => False) ⟨B, F1, C, ds, PD, fun _ _ => False, rl, rp, hg, q, fun _ _ _ _ _ _ _ _ _ z => z⟩
  · rintro A outer s H args us vs Q E hr he hbd hv ⟨B, F1, C, ds, PD, rl, rp, hg, q⟩
    refine codeAny_mono (F.run A outer s H args us vs Q (fun _ _ _ => False) hr he hbd hv ⟨B, F1, C, ds, PD, fun _ _ => False, rl, rp, hg, q, fun _ _ _ _ _ _ _ _ _ z => z⟩) fun r s' h => ?_
    cases r with
    | ok c => cases c <;> exact h
    | error e =>
      obtain ⟨_, _, _, _, _, _, _, _, _, _, _, _, z⟩ := h
      exact z.elim
end Dv

set_option maxRecDepth 100000
set_option maxHeartbeats 1000000
/-! Fields as targets; walks over a list that stays a cell; lists times numbers. -/
namespace Dv
open PySem PySem.Spec L2
/-! ### o.f among targets -/
def gFld (K : PySem.W.Frag) (ta : TE) (f : Str) : TG := fun v σ H Q => ta σ H fun x H1 => ∃ a C dx fs, x = .ref a ∧ H1 a = some (.ins C dx fs) ∧ Cls K C ∧ NoAttr K C f ∧ fs.length < 1000 ∧ Q σ (upd H1 a (.ins C dx (putF f v fs)))
theorem pg_fldK {X : Cx} (K : PySem.W.Frag) {o : Expr} {f : Str} {pos : Pos} {ta : TE} (ho : PE X o ta) (h : X.K = K := by rfl)
    (ha : ∀ v, assign (.Attribute o f pos) X.env v = (do
      let ov ← holding [v] (eval o X.env)
      standAt pos.atName
      holding [v, ov] (setAttr ov f v)
      release [v, ov] []) := by intro _; rfl) : PG X (.Attribute o f pos) (gFld K ta f) := by
  subst h
  refine ⟨fun pins s σ H v u Q I r h => ?_⟩
  rw [ha]
  refine wpAny_bind (wpAny_holding (thn (ho.run pins s σ H _ I h) fun ov s1 ⟨x, H1, I1, r1, a, C, dx, fs, ex, ea, c, n, l, q1⟩ => ?_))
  subst ex
  obtain rfl : ov = Value.ref a := r1
  refine wpAny_bind (wpAny_standAt (wpAny_bind (wpAny_holding (setattr_ok I1 ea c n l r fun s3 I3 => ?_))))
  exact wpAny_release ⟨σ, _, I3, q1⟩
theorem wg_fld {B0 : Gr} {K : PySem.W.Frag} {ta : TE} {f : Str} {d : D} {E : EnvD} {C : CH} {N : EnvD → CH → Prop}
    (h : W B0 ta E C fun x C1 => ∃ a, x = .ref a ∧ ∃ c gs, C1 a = some (.ins c gs) ∧ FldOk K c f ∧ gs.length < 1000 ∧ N E (updC C1 a (.ins c (putFD f d gs)))) : WG B0 (gFld K ta f) d E C N := fun B F σ H v sb rl re rp Q q =>
  h B F σ H sb rl re _ fun u x B1 C1 H1 e1 rl1 rp1 ⟨a, hx, c, gs, hc, fo, hl, k⟩ => by
    subst hx
    cases rp1
    obtain ⟨dx, fs, h1, r⟩ := rel_ins rl1 hc
    exact ⟨a, c, dx, fs, rfl, h1, fo.cls, fo.no, by rw [repF_len r]; exact hl, q σ E B1 _ _ e1 (rl1.write hc (.ins (repF_put r (rp.mono e1)))) (re.mono e1) k⟩
/-! ### a walk over a list that is a cell, and is not changed meanwhile -/
structure JDI (J : L2.It) (B : Hp) (I : CH → Prop) (ds : List D) : Prop where
  go : ∀ (i : Nat) (B' F H : Hp) (C : CH), Same B B' → Rel B' C F H → I C → i < ds.length → J.go i H
  stop : ∀ (B' F H : Hp) (C : CH), Same B B' → Rel B' C F H → I C → J.stop ds.length H
  yld : ∀ (i : Nat) (x : V) (B' F H H' : Hp) (C : CH), Same B B' → Rel B' C F H → I C → i < ds.length → J.yld i H x H' → ∃ d B'', ds[i]? = some d ∧ Same B' B'' ∧ Rel B'' C F H' ∧ Rep B'' x d
theorem JD.jdi {J : L2.It} {B : Hp} {ds : List D} (j : JD J B ds) (I : CH → Prop) : JDI J B I ds where
  go := fun i B' F H C s rl _ hi => j.go i B' F H C s rl hi
  stop := fun B' F H C s rl _ => j.stop B' F H C s rl
  yld := fun i x B' F H H' C s rl _ hi y => j.yld i x B' F H H' C s rl hi y
theorem cell_lst {B C F H} (rl : Rel B C F H) {a : Addr} {ds : List D} (h : C a = some (.lst ds)) : ∃ vs, H a = some (.lst vs) ∧ Reps B vs ds := by
  obtain ⟨o, h1, h2⟩ := rl.own _ _ h
  cases h2 with | lst r => exact ⟨_, h1, r⟩
theorem jdi_cell {K : PySem.W.Frag} {B : Hp} {a : Addr} {ds : List D} : JDI (Itl K a) B (fun C => C a = some (.lst ds)) ds where
  go := fun i B' F H C s rl hc hi => by
    obtain ⟨vs, h, r⟩ := cell_lst rl hc
    have hi' : i < vs.length := by rw [r.length]; exact hi
    exact ⟨vs, vs[i], SqL.of h, by simp [hi']⟩
  stop := fun B' F H C s rl hc => by
    obtain ⟨vs, h, r⟩ := cell_lst rl hc
    exact ⟨vs, SqL.of h, by rw [r.length]; exact Nat.le_refl _⟩
  yld := fun i x B' F H H' C s rl hc hi y => by
    obtain ⟨vs, h, r⟩ := cell_lst rl hc
    obtain ⟨e, y⟩ := y
    subst e
    obtain ⟨d, h1, h2⟩ := r.getV (y vs (SqL.of h))
    exact ⟨d, B', h1, Same.refl _, rl, h2⟩
section
variable {B0 : Gr} {C : CH} {E : EnvD} {D1 : EndD} {te : TE} {g : TG} {tb : TS} {K : PySem.W.Frag}
theorem ws_forC (ds : List D) (c : Addr) (L : List D → EnvD → CH → Prop) (h : W B0 te E C fun d C1 => d = .ref c ∧ C1 c = some (.lst ds) ∧ L ds E C1) (hI : ∀ r E1 C1, L r E1 C1 → C1 c = some (.lst ds)) (hn : ∀ E1 C1, L [] E1 C1 → D1.nx E1 C1)
    (hs : ∀ x xs E1 C1, L (x :: xs) E1 C1 → WG B0 g x E1 C1 fun E2 C2 => WS B0 tb E2 C2 { D1 with nx := L xs, ct := L xs, bk := D1.nx }) : WS B0 (tFor (iSeq K te) g tb) E C D1 := fun B F σ H sb rl re Dn ok =>
  h B F σ H sb rl re _ fun v d B1 C1 H1 e1 rl1 rp1 ⟨hd, hc, l0⟩ => by
    subst hd
    cases rp1
    obtain ⟨vs0, hvs, rvs⟩ := cell_lst rl1 hc
    have jd : JDI (Itl K c) B1 (fun C => C c = some (.lst ds)) ds := jdi_cell
    refine ⟨c, rfl, .inl ⟨⟨vs0, SqL.of hvs⟩, ?_⟩⟩
    have main : ∀ (i : Nat) (σ' : St) (H' : Hp), (∃ B' C' E', Same B1 B' ∧ Rel B' C' F H' ∧ RelE B' σ' E' ∧ L (ds.drop i) E' C') → i < ds.length →
        ∀ x H2, (Itl K c).yld i H' x H2 → g x σ' H2 fun σ2 H2 => tb { Dn with
          nx := fun σ3 H3 => ∃ B' C' E', Same B1 B' ∧ Rel B' C' F H3 ∧ RelE B' σ3 E' ∧ L (ds.drop (i + 1)) E' C'
          ct := fun σ3 H3 => ∃ B' C' E', Same B1 B' ∧ Rel B' C' F H3 ∧ RelE B' σ3 E' ∧ L (ds.drop (i + 1)) E' C'
          bk := Dn.nx } σ2 H2 := by
      rintro i σ' H' ⟨B', C', E', s', rl', re', l⟩ hi x H2 y
      obtain ⟨d, B2, hd, s2, rl2, rp2⟩ := jd.yld i x B' F H' H2 C' s' rl' (hI _ _ _ l) hi y
      have e : ds.drop i = d :: ds.drop (i + 1) := by
        rw [List.drop_eq_getElem_cons hi]
        rw [List.getElem?_eq_getElem hi] at hd
        rw [Option.some.inj hd]
      rw [e] at l
      have sb2 : Same B B2 := (e1.trans s').trans s2
      refine hs d _ E' C' l B2 F σ' H2 x (sb.trans sb2) rl2 (re'.mono s2) rp2 _ fun σ3 E3 B3 C3 H3 s3 rl3 re3 w => ?_
      refine w B3 F σ3 H3 (sb.trans (sb2.trans s3)) rl3 re3 _ ⟨?_, ?_, ?_, ?_⟩
      · exact fun σ4 E4 B4 C4 H4 s4 rl4 re4 l4 => ⟨B4, C4, E4, ((s'.trans s2).trans s3).trans s4, rl4, re4, l4⟩
      · exact fun v d B4 C4 H4 s4 rl4 rp4 k => ok.rt v d B4 C4 H4 ((sb2.trans s3).trans s4) rl4 rp4 k
      · exact fun σ4 E4 B4 C4 H4 s4 rl4 re4 k => ok.nx σ4 E4 B4 C4 H4 ((sb2.trans s3).trans s4) rl4 re4 k
      · exact fun σ4 E4 B4 C4 H4 s4 rl4 re4 l4 => ⟨B4, C4, E4, ((s'.trans s2).trans s3).trans s4, rl4, re4, l4⟩
    refine ⟨fun i m σ' H' => m = ds.length - i ∧ i ≤ ds.length ∧ ∃ B' C' E', Same B1 B' ∧ Rel B' C' F H' ∧ RelE B' σ' E' ∧ L (ds.drop i) E' C',
      ⟨ds.length, by simp, Nat.zero_le _, B1, C1, E, Same.refl _, rl1, re.mono e1, by simpa using l0⟩, ?_⟩
    rintro i m σ' H' ⟨rfl, hi, z⟩
    by_cases hlt : i < ds.length
    · obtain ⟨B', C', E', s', rl', re', l⟩ := id z
      exact .inr ⟨jd.go i B' F H' C' s' rl' (hI _ _ _ l) hlt, _, fun σ2 H2 n => ⟨ds.length - (i + 1), by omega, rfl, hlt, n⟩, main i σ' H' z hlt⟩
    · obtain ⟨B', C', E', s', rl', re', l⟩ := z
      have e : i = ds.length := by omega
      subst e
      rw [List.drop_length] at l
      exact .inl ⟨jd.stop B' F H' C' s' rl' (hI _ _ _ l), ok.nx σ' E' B' C' H' (e1.trans s') rl' re' (hn _ _ l)⟩
end
/-! ### a list times a number; a truth value as a number -/
theorem wr_repL {B0 : Gr} {C : CH} {P : D → CH → Prop} {ds : List D} {k : Int} (hk : k ≤ 1000) (h0 : -1000 ≤ k) (hl : ds.length ≤ 1000) (q : P (.lst (List.replicate k.toNat ds).flatten) C) : WR B0 rRep (.lst ds) (.int k) C P := fun B F H vx vy _ rl hx hy Q qq => by
  cases hy
  cases hx with
  | @lst a vs _ ha r =>
    refine ⟨_, k, vs, rfl, rfl, rl.ex _ _ ha, by omega, by omega, ?_, fun p hp => ?_⟩
    · rw [r.length]
      have : ds.length * k.toNat ≤ 1000 * 1000 := Nat.mul_le_mul hl (by omega)
      exact Nat.le_trans this (by decide)
    · have s := same_upd (o := .lst (List.replicate k.toNat vs).flatten) (rl.noB hp)
      have go : ∀ n : Nat, Reps B (List.replicate n vs).flatten (List.replicate n ds).flatten := fun n => by
        induction n with
        | zero => exact .nil
        | succ n ih => rw [List.replicate_succ, List.replicate_succ, List.flatten_cons, List.flatten_cons]; exact reps_app r ih
      exact qq _ _ _ C _ s (rl.new hp) (.lst upd_same ((go k.toNat).mono s)) q
theorem wr_neC {B0 : Gr} {C : CH} {P : D → CH → Prop} {K : PySem.W.Frag} {x y : D} {xs ys : List D} {ps qs : List PyData} (hx : LstD C x xs) (hy : LstD C y ys) (h1 : toPys xs = some ps) (h2 : toPys ys = some qs) (s1 : SeqAt.shaped (.list ps) = true) (s2 : SeqAt.shaped (.list qs) = true) (k : P (.bl (!PyData.eqvAll ps qs)) C) : WR B0 (rNeU K) x y C P := fun B F H vx vy _ rl rx ry Q q => by
  obtain ⟨a, vs, rfl, ha, r1⟩ := lstD_rd rl rx hx
  obtain ⟨b, ws, rfl, hb, r2⟩ := lstD_rd rl ry hy
  exact .inr (.inl ⟨.list ps, .list qs, .lst (SqL.of ha) (toPys_ok rl.ex r1 h1), .lst (SqL.of hb) (toPys_ok rl.ex r2 h2), s1, s2, by rw [PyData.eqv]; exact q _ _ B C H (Same.refl B) rl .bl k⟩)
theorem wc_intB {B0 : Gr} {C : CH} {P : D → CH → Prop} {b : Bool} (k : P (.int (if b then 1 else 0)) C) : WC B0 rIntU [.bl b] C P := fun B F H vs _ rl r Q q => by
  cases r with
  | cons r1 r =>
    cases r; cases r1
    exact .inl (.inr ⟨b, rfl, q _ _ B C H (Same.refl B) rl .int k⟩)
/-! ### data that == looks at: the same are equal -/
inductive PyG : Nat → D → Prop
  | non {n : Nat} : PyG n .non
  | bl {n : Nat} {b : Bool} : PyG n (.bl b)
  | int {n : Nat} {i : Int} : PyG n (.int i)
  | str {n : Nat} {x : Str} (h : PyData.strOk x = true) : PyG n (.str x)
  | tup {n : Nat} {l : List D} : (∀ x ∈ l, PyG n x) → PyG (n + 1) (.tup l)
  | lst {n : Nat} {l : List D} : (∀ x ∈ l, PyG n x) → PyG (n + 1) (.lst l)
theorem PyG.mono {n m : Nat} (h : n ≤ m) {x : D} (g : PyG n x) : PyG m x := by
  induction g generalizing m with
  | non => exact .non
  | bl => exact .bl
  | int => exact .int
  | str hs => exact .str hs
  | tup _ ih =>
    obtain ⟨m, rfl⟩ : ∃ k, m = k + 1 := ⟨m - 1, by omega⟩
    exact .tup fun x hx => ih x hx (by omega)
  | lst _ ih =>
    obtain ⟨m, rfl⟩ : ∃ k, m = k + 1 := ⟨m - 1, by omega⟩
    exact .lst fun x hx => ih x hx (by omega)
theorem pys_of {n : Nat} : ∀ {l : List D}, (∀ x ∈ l, ∃ p, toPy x = some p ∧ p.canLay0 = true ∧ p.depth ≤ n) → ∃ ps, toPys l = some ps ∧ PyData.canLayAll0 ps = true ∧ PyData.depthAll ps ≤ n
  | [], _ => ⟨[], rfl, rfl, Nat.zero_le _⟩
  | x :: l, h => by
    obtain ⟨p, h1, h2, h3⟩ := h x (by simp)
    obtain ⟨ps, g1, g2, g3⟩ := pys_of fun y hy => h y (List.mem_cons_of_mem _ hy)
    refine ⟨p :: ps, ?_, ?_, ?_⟩
    · show (toPy x).bind (fun a => (toPys l).map fun b => a :: b) = _
      rw [h1, g1]
      rfl
    · rw [PyData.canLayAll0, h2, g2]; rfl
    · rw [PyData.depthAll]; omega
theorem PyG.py {n : Nat} {x : D} (g : PyG n x) : ∃ p, toPy x = some p ∧ p.canLay0 = true ∧ p.depth ≤ n := by
  induction g with
  | non => exact ⟨_, rfl, rfl, Nat.zero_le _⟩
  | bl => exact ⟨_, rfl, rfl, Nat.zero_le _⟩
  | int => exact ⟨_, rfl, rfl, Nat.zero_le _⟩
  | str h => exact ⟨_, rfl, h, Nat.zero_le _⟩
  | @tup n l _ ih =>
    obtain ⟨ps, h1, h2, h3⟩ := pys_of ih
    refine ⟨.tuple ps, ?_, h2, ?_⟩
    · show (toPys l).map PyData.tuple = _
      rw [h1]; rfl
    · rw [PyData.depth]; omega
  | @lst n l _ ih =>
    obtain ⟨ps, h1, h2, h3⟩ := pys_of ih
    refine ⟨.list ps, ?_, h2, ?_⟩
    · show (toPys l).map PyData.list = _
      rw [h1]; rfl
    · rw [PyData.depth]; omega
theorem shaped_of {p : PyData} (h1 : p.canLay0 = true) (h2 : p.depth ≤ 64) : SeqAt.shaped p = true := by
  unfold SeqAt.shaped
  rw [h1, decide_eq_true h2]
  rfl
section
variable {B0 : Gr} {C : CH} {P : D → CH → Prop} {K : PySem.W.Frag} {x y : D} {n : Nat} {xs : List D}
theorem wr_neG (g : PyG n x) (hn : n ≤ 64) (k : P (.bl false) C) : WR B0 (rNeU K) x x C P := by
  obtain ⟨p, h1, h2, h3⟩ := g.py
  refine wr_neP h1 h1 (shaped_of h2 (by omega)) (shaped_of h2 (by omega)) ?_
  rw [SeqAt.eqv_refl p h2]
  exact k
theorem wr_eqG (g : PyG n x) (hn : n ≤ 64) (k : P (.bl true) C) : WR B0 (rEqU K) x x C P := by
  obtain ⟨p, h1, h2, h3⟩ := g.py
  refine wr_eqP h1 h1 (shaped_of h2 (by omega)) (shaped_of h2 (by omega)) ?_
  rw [SeqAt.eqv_refl p h2]
  exact k
theorem wr_neL (hx : LstD C x xs) (hy : LstD C y xs) (g : ∀ z ∈ xs, PyG n z) (hn : n ≤ 60) (k : P (.bl false) C) : WR B0 (rNeU K) x y C P := by
  obtain ⟨ps, h1, h2, h3⟩ := pys_of fun z hz => (g z hz).py
  have e : SeqAt.shaped (.list ps) = true := shaped_of h2 (by rw [PyData.depth]; omega)
  refine wr_neC hx hy h1 h1 e e ?_
  rw [SeqAt.eqvAll_refl ps h2]
  exact k
end
/-- slots that are looked at no more -/
theorem ws_less {B0 : Gr} {C : CH} {E : EnvD} {t : TS} {D1 : EndD} (E2 : EnvD) (hl : E2.length = E.length) (h : ∀ (j : Nat) (d : D), E2[j]? = some (some d) → E[j]? = some (some d)) (k : WS B0 t E2 C D1) : WS B0 t E C D1 := fun B F σ H sb rl re Dn ok =>
  k B F σ H sb rl ⟨by rw [re.len, hl], fun j d e => re.get j d (h j d e)⟩ Dn ok
end Dv

set_option maxRecDepth 100000
set_option maxHeartbeats 1000000
/-! Dicts with texts as keys. -/
namespace Dv
open PySem PySem.Spec L2
theorem valV_T : ∀ (fs : List (Str × V)) (f : Str), valV (keyT fs) (Sum.inr f) = fs.lookup f
  | [], _ => rfl
  | p :: r, f => by
    show valV ((Sum.inr p.1, p.2) :: keyT r) (Sum.inr f) = _
    by_cases e : p.1 = f
    · rw [valV_pos (by show (Sum.inr p.1 : Key) = Sum.inr f; rw [e]), List.lookup_cons, e, beq_self_eq_true]
    · have e2 : (f == p.1) = false := by simpa using fun z => e z.symm
      rw [valV_neg (fun z => e (Sum.inr.inj z)), valV_T r f, List.lookup_cons, e2]
/-- in its place, or at the end -/
def putT {α : Type} (fs : List (Str × α)) (f : Str) (v : α) : List (Str × α) :=
  if (fs.any fun p => decide (p.1 = f)) then fs.map fun p => if p.1 = f then (p.1, v) else p else fs ++ [(f, v)]
theorem any_T (fs : List (Str × V)) (f : Str) : ((keyT fs).any fun kv => decide (kv.1 = (Sum.inr f : Key))) = fs.any fun p => decide (p.1 = f) := by
  unfold keyT
  rw [List.any_map]
  congr 1
  funext p
  simp
theorem putK_T (fs : List (Str × V)) (f : Str) (v : V) : putK (keyT fs) (Sum.inr f) v = keyT (putT fs f v) := by
  unfold putK putT
  rw [any_T]
  split
  · unfold keyT
    rw [List.map_map, List.map_map]
    apply List.map_congr_left
    intro p _
    simp only [Function.comp_def]
    by_cases e : p.1 = f
    · rw [if_pos e, if_pos (by rw [e])]
    · rw [if_neg e, if_neg (fun z => e (Sum.inr.inj z))]
  · unfold keyT
    rw [List.map_append]
    rfl
theorem repF_any {B : Hp} {fs : List (Str × V)} {gs : List (Str × D)} (r : RepF B fs gs) (f : Str) : (fs.any fun p => decide (p.1 = f)) = gs.any fun p => decide (p.1 = f) := by
  induction r with
  | nil => rfl
  | @cons k v d vs ds h r ih => rw [List.any_cons, List.any_cons, ih]
theorem repF_map {B : Hp} {fs : List (Str × V)} {gs : List (Str × D)} (r : RepF B fs gs) {f : Str} {v : V} {d : D} (h : Rep B v d) : RepF B (fs.map fun p => if p.1 = f then (p.1, v) else p) (gs.map fun p => if p.1 = f then (p.1, d) else p) := by
  induction r with
  | nil => exact .nil
  | @cons k v' d' vs ds hv r ih =>
    rw [List.map_cons, List.map_cons]
    by_cases e : k = f
    · rw [if_pos e, if_pos e]; exact .cons h ih
    · rw [if_neg e, if_neg e]; exact .cons hv ih
theorem repF_snoc {B : Hp} {fs : List (Str × V)} {gs : List (Str × D)} (r : RepF B fs gs) {f : Str} {v : V} {d : D} (h : Rep B v d) : RepF B (fs ++ [(f, v)]) (gs ++ [(f, d)]) := by
  induction r with
  | nil => exact .cons h .nil
  | cons hv r ih => exact .cons hv ih
theorem repF_putT {B : Hp} {fs : List (Str × V)} {gs : List (Str × D)} (r : RepF B fs gs) {f : Str} {v : V} {d : D} (h : Rep B v d) : RepF B (putT fs f v) (putT gs f d) := by
  unfold putT
  rw [repF_any r f]
  split
  · exact repF_map r h
  · exact repF_snoc r h
theorem rel_tdic {B F H : Hp} {C : CH} {a : Addr} {gs : List (Str × D)} (rl : Rel B C F H) (h : C a = some (.tdic gs)) : ∃ fs, H a = some (.dK (keyT fs)) ∧ RepF B fs gs := by
  obtain ⟨o, h1, h2⟩ := rl.own _ _ h
  cases h2 with
  | tdic r => exact ⟨_, h1, r⟩
theorem keyT_len (fs : List (Str × V)) : (keyT fs).length = fs.length := List.length_map _
section
variable {B0 : Gr} {E : EnvD} {C : CH} {P : D → CH → Prop}
theorem w_tget {td ty : TE} (h : W B0 td E C fun x C1 => W B0 ty E C1 fun y C2 => ∃ a gs f d, x = .ref a ∧ y = .str f ∧ C2 a = some (.tdic gs) ∧ gs.lookup f = some d ∧ P d C2) : W B0 (tDGet td ty) E C P := fun B F σ H sb rl re Q q =>
  h B F σ H sb rl re _ fun v1 d1 B1 C1 H1 e1 rl1 rp1 h1 => h1 B1 F σ H1 (sb.trans e1) rl1 (re.mono e1) _ fun v2 d2 B2 C2 H2 e2 rl2 rp2 ⟨a, gs, f, d, hx, hy, hc, hl, p⟩ => by
    subst hx hy
    cases rp1; cases rp2
    obtain ⟨fs, ha, r⟩ := rel_tdic rl2 hc
    obtain ⟨v, g1, g2⟩ := repF_look r hl
    have g := DGet.k (k := Sum.inr f) ha
    rw [valV_T, g1] at g
    exact ⟨a, v, rfl, g, q v d B2 C2 H2 (e1.trans e2) rl2 g2 p⟩
theorem ws_tput {td ty tv : TE} {D1 : EndD} (h : W B0 tv E C fun v C1 => W B0 td E C1 fun x C2 => W B0 ty E C2 fun y C3 => ∃ a gs f, x = .ref a ∧ y = .str f ∧ C3 a = some (.tdic gs) ∧ gs.length < 1000 ∧ D1.nx E (updC C3 a (.tdic (putT gs f v)))) : WS B0 (sDPut td ty tv) E C D1 := fun B F σ H sb rl re Dn ok =>
  h B F σ H sb rl re _ fun v1 d1 B1 C1 H1 e1 rl1 rp1 h1 => h1 B1 F σ H1 (sb.trans e1) rl1 (re.mono e1) _ fun v2 d2 B2 C2 H2 e2 rl2 rp2 h2 =>
    h2 B2 F σ H2 (sb.trans (e1.trans e2)) rl2 (re.mono (e1.trans e2)) _ fun v3 d3 B3 C3 H3 e3 rl3 rp3 ⟨a, gs, f, hx, hy, hc, hl, n⟩ => by
      subst hx hy
      cases rp2; cases rp3
      obtain ⟨fs, ha, r⟩ := rel_tdic rl3 hc
      refine ⟨a, _, rfl, DPut.k (k := Sum.inr f) ha (by rw [keyT_len, repF_len r]; exact Nat.lt_trans hl (by decide)), ?_⟩
      rw [putK_T]
      exact ok.nx σ E B3 _ _ ((e1.trans e2).trans e3) (rl3.write hc (.tdic (repF_putT r (rp1.mono (e2.trans e3))))) (re.mono ((e1.trans e2).trans e3)) n
/-! displays -/
def WPT (B0 : Gr) (t : List (TE × TE)) (E : EnvD) (C : CH) (P : List (Str × D) → CH → Prop) : Prop :=
  ∀ (B F : Hp) (σ : St) (H : Hp), Sb B0 B F → Rel B C F H → RelE B σ E → ∀ Q : List (V × V) → Hp → Prop,
    (∀ fs gs B' C' H', Same B B' → Rel B' C' F H' → RepF B' fs gs → P gs C' → Q ((keyT fs).map fun kv => (kV kv.1, kv.2)) H') → tPairs t σ H Q
theorem wpt_nil {PL : List (Str × D) → CH → Prop} (k : PL [] C) : WPT B0 [] E C PL := fun B F σ H _ rl _ Q q => q [] [] B C H (Same.refl B) rl .nil k
theorem wpt_cons {PL : List (Str × D) → CH → Prop} {tk tv : TE} {r : List (TE × TE)} (h : W B0 tk E C fun x C1 => ∃ f, x = .str f ∧ W B0 tv E C1 fun y C2 => WPT B0 r E C2 fun ps C3 => PL ((f, y) :: ps) C3) : WPT B0 ((tk, tv) :: r) E C PL := fun B F σ H sb rl re Q q =>
  h B F σ H sb rl re _ fun v1 d1 B1 C1 H1 e1 rl1 rp1 ⟨f, hd, h1⟩ => by
    subst hd
    cases rp1
    exact h1 B1 F σ H1 (sb.trans e1) rl1 (re.mono e1) _ fun v2 d2 B2 C2 H2 e2 rl2 rp2 h2 =>
      h2 B2 F σ H2 ((sb.trans e1).trans e2) rl2 ((re.mono e1).mono e2) _ fun fs gs B3 C3 H3 e3 rl3 rp3 p => q ((f, v2) :: fs) _ B3 C3 H3 ((e1.trans e2).trans e3) rl3 (.cons (rp2.mono e3) rp3) p
def mergeT {α : Type} (l acc : List (Str × α)) : List (Str × α) := l.foldl (fun acc p => putT acc p.1 p.2) acc
theorem mergeK_T : ∀ (fs acc : List (Str × V)), mergeK (keyT acc) (keyT fs) = keyT (mergeT fs acc)
  | [], _ => rfl
  | p :: r, acc => by
    show mergeK (putK (keyT acc) (Sum.inr p.1) p.2) (keyT r) = keyT (mergeT r (putT acc p.1 p.2))
    rw [putK_T, mergeK_T r]
theorem repF_merge {B : Hp} {fs : List (Str × V)} {gs : List (Str × D)} (r : RepF B fs gs) : ∀ {acc : List (Str × V)} {ac : List (Str × D)}, RepF B acc ac → RepF B (mergeT fs acc) (mergeT gs ac) := by
  induction r with
  | nil => intro acc ac r0; exact r0
  | @cons k v d vs ds h r ih =>
    intro acc ac r0
    exact ih (repF_putT r0 h)
theorem w_dispT {trs : List (TE × TE)} (h : ∀ a, C a = none → WPT B0 trs E (updC C a (.tdic [])) fun ps C1 => C1 a = some (.tdic []) ∧ ps.length ≤ 15 ∧ P (.ref a) (updC C1 a (.tdic (mergeT ps [])))) : W B0 (tDisp trs) E C P := fun B F σ H sb rl re Q q a ha =>
  h a (rl.noC ha) B F σ _ sb (rl.newC ha (c := .tdic []) (.tdic (fs := []) .nil)) re _ fun fs gs B1 C1 H1 e1 rl1 rp ⟨hc, hl, p⟩ => by
    obtain ⟨fs0, h1, r0⟩ := rel_tdic rl1 hc
    cases r0
    refine ⟨h1, keyT fs, rfl, by rw [keyT_len, repF_len rp]; exact hl, ?_⟩
    have e : mergeK ([] : List (Key × V)) (keyT fs) = keyT (mergeT fs []) := mergeK_T fs []
    rw [e]
    exact q _ _ B1 _ _ e1 (rl1.write hc (.tdic (repF_merge rp .nil))) .ref p
end
end Dv

set_option maxRecDepth 100000
set_option maxHeartbeats 1000000
/-! Methods that raise; or by truth as a value; dicts with text keys among targets. -/
namespace Dv
open PySem PySem.Spec L2
/-! ### methods that raise -/
def tMethX (c : Addr) (m : Str) (sp : Sp) (E' : St → XK) (ta : TE) (t : TA) : TE := fun σ H Q => ta σ H fun x H1 => ∃ a dx fs, x = .ref a ∧ H1 a = some (.ins c dx fs) ∧ fs.lookup m = none ∧ t σ H1 fun vs H2 => sp (x :: vs) H2 Q (E' σ)
def HasXM (P : Program) (w : World) (K : PySem.W.Frag) (mg : Str → Option Value) (base : Heap) (k : Nat) (cn m : Str) (ps : List Str) (sp : Sp) : Prop :=
  ∃ f fd, FnOk P w K mg base (L2.CX P w) k f fd ps sp ∧ Meth K (clsA mg cn) m f ∧ Binds K fd ps []
theorem HasXM.mono {P : Program} {w : World} {K : PySem.W.Frag} {mg : Str → Option Value} {base : Heap} {j k : Nat} {x m : Str} {ps : List Str} {sp : Sp} (h : HasXM P w K mg base j x m ps sp) (l : j ≤ k) : HasXM P w K mg base k x m ps sp := by
  obtain ⟨f, fd, a, b, c⟩ := h
  exact ⟨f, fd, a.mono l, b, c⟩
section
variable {P : Program} {w : World} {K : PySem.W.Frag} {mg : Str → Option Value} {base : Heap}
theorem has_ofMX {cn m qual : Str} {st : Stmt} {N ps : List Str} {k : Nat} {g : SpX} (Df : MetAt K mg cn m qual st ps) (S : FnScope N ps (defScope st)) (len : ∀ ds C P PX, g ds C P PX → ds.length = ps.length)
    (hbody : ∀ (f : Addr) (cdv : Value) (A : Around) (outer : List PySem.Env) (s : Shared) (H : Hp) (E : XK), Room k (A.deeper (PyProof.Rows.envOfC qual (defScope st) s.heap.objs.size f cdv)) →
      ∃ t, PSs (cxOf (L2.CX P w) P w K mg base N qual (defScope st) f cdv A outer s H E) (defBody st) t ∧ ∀ (B : Gr) ds C PD PX, g ds C PD PX → XOkF mg B E PX → WS B t (startD N.length ds) C { nx := fun _ C' => PD .non C', rt := PD }) :
    HasXM P w K mg base (k + 1) cn m ps (spX mg g) := by
  obtain ⟨f, fd, F, hm, hb⟩ := Df
  refine ⟨f, fd, F.okX S ?_ ?_, hm, hb⟩
  · rintro vs H Q E ⟨B, F, C, ds, P, PX, _, rp, h, _⟩
    rw [rp.length]
    exact len _ _ _ _ h
  · intro cdv A outer s H vs Q E hr h
    obtain ⟨t, h1, h2⟩ := hbody f cdv A outer s H E hr
    obtain ⟨B, F, C, ds, P, PX, rl, rp, hg, q, qx⟩ := h
    refine ⟨t, h1, h2 ⟨B, F⟩ ds C P PX hg (fun B' F' H' C' sb rl' x c d ok p => qx x c d B' C' H' sb.1 (rl'.less sb.2) ok p) B F _ H (Sb.refl B F) rl (RelE.begin rp) _ ⟨?_, ?_, ?_, ?_⟩⟩
    · exact fun σ' E' B' C' H' e rl' _ p => q .non .non B' C' H' e rl' .non p
    · exact fun v d B' C' H' e rl' rp' p => q v d B' C' H' e rl' rp' p
    · exact fun _ _ _ _ _ _ _ _ z => z
    · exact fun _ _ _ _ _ _ _ _ z => z
end
section
variable {X : Cx} {x cn m : Str} {ps : List Str} {sp : Sp} {k j : Nat} {p pos apos : Pos} {o e : Expr} {es : List Expr} {t : TA} {ta : TE} {pl : Sem Bool}
theorem pe_mtX (mg : Str → Option Value) {W : WX} (h : HasXM X.prog X.w X.K X.mg X.base k cn m ps sp) (kc : Cls X.K (clsA X.mg cn)) (hr : Room k X.A) (he : PE X o ta) (ha : PA X (e :: es) t) (tk : Takes X W)
    (hst : starEach (e :: es) X.env = (false, eval e X.env) :: starEach es X.env := by rfl) (hpl : (backTo pos (starEach es X.env)).any (·.1) = false := by rfl)
    (ht : eval (.Call (.Attribute o m apos) (e :: es) [] pos) X.env = (do
      let ov ← eval o X.env
      standAt apos.atName
      let (f, first) ← holding [ov] (getMethod ov m pl)
      callWith pos f first (backTo pos (starEach (e :: es) X.env)) (backToKw pos (keywordEach [] X.env))) := by rfl) (hmg : X.mg = mg := by rfl) :
    PE X (.Call (.Attribute o m apos) (e :: es) [] pos) (tMethX (clsA mg cn) m sp (WE W) ta t) := by
  subst hmg
  obtain ⟨f, fd, F, hm, hb⟩ := h
  refine ⟨fun pins s σ H Q I h => ?_⟩
  refine PySem.W.methodCall_KW (pl := pl) (thn (he.run pins s σ H _ I h) fun u s1 ⟨x, H1, I1, rx, a, dx, fs, ex, ea, l, q⟩ => ?_) ht
  subst ex
  obtain rfl : u = Value.ref a := rx
  refine getmeth_ok I1 ea kc hm l ?_
  refine PySem.W.callWith_K (first := [.ref a]) (h₀ := X.base) I.ok.mod.kin hm.kp (thn (ha.run pos pins s1 σ H1 _ I1 q) fun us s2 ⟨vs, H2, I2, r, q2⟩ => ⟨I2.kIn, ?_⟩) hst hpl
  exact run_fnS (us := .ref a :: us) (vs := .ref a :: vs) (E := WE W) F hr hb (passAt tk σ) I2 (.cons rfl r) q2
theorem pe_mtX0 (mg : Str → Option Value) {W : WX} (h : HasXM X.prog X.w X.K X.mg X.base k cn m ps sp) (kc : Cls X.K (clsA X.mg cn)) (hr : Room k X.A) (he : PE X o ta) (tk : Takes X W)
    (ht : eval (.Call (.Attribute o m apos) [] [] pos) X.env = (do
      let ov ← eval o X.env
      standAt apos.atName
      let (f, first) ← holding [ov] (getMethod ov m pl)
      callWith pos f first (backTo pos (starEach [] X.env)) (backToKw pos (keywordEach [] X.env))) := by rfl) (hmg : X.mg = mg := by rfl) :
    PE X (.Call (.Attribute o m apos) [] [] pos) (tMethX (clsA mg cn) m sp (WE W) ta tNil) := by
  subst hmg
  obtain ⟨f, fd, F, hm, hb⟩ := h
  refine ⟨fun pins s σ H Q I h => ?_⟩
  refine PySem.W.methodCall_KW (pl := pl) (thn (he.run pins s σ H _ I h) fun u s1 ⟨x, H1, I1, rx, a, dx, fs, ex, ea, l, q⟩ => ?_) ht
  subst ex
  obtain rfl : u = Value.ref a := rx
  refine getmeth_ok I1 ea kc hm l ?_
  exact PySem.W.callWith_K0 (first := [.ref a]) I1.kIn hm.kp (run_fnS (us := [.ref a]) (vs := [.ref a]) (E := WE W) F hr hb (passAt tk σ) I1 (.cons rfl .nil) q)
end
theorem w_methX {mg : Str → Option Value} {B0 : Gr} {g : SpX} {c : Addr} {m : Str} {E' : St → XK} {ta : TE} {t : TA} {E : EnvD} {C : CH} {P : D → CH → Prop} {PX : Exn → CH → Prop} (hX : XOk mg B0 E' E PX)
    (h : W B0 ta E C fun x C1 => ∃ a, x = .ref a ∧ ∃ gs, C1 a = some (.ins c gs) ∧ gs.lookup m = none ∧ WA B0 t E C1 fun ds C2 => g (.ref a :: ds) C2 P PX) : W B0 (tMethX c m (spX mg g) E' ta t) E C P := fun B F σ H sb rl re Q q =>
  h B F σ H sb rl re _ fun v x B1 C1 H1 e1 rl1 rp1 ⟨a, hx, gs, hc, hl, h2⟩ => by
    subst hx
    cases rp1
    obtain ⟨dx, fs, h1, r⟩ := rel_ins rl1 hc
    refine ⟨a, dx, fs, rfl, h1, repF_none r hl, h2 B1 F σ H1 (sb.trans e1) rl1 (re.mono e1) _ fun vs ds B2 C2 H2 e2 rl2 rp2 p => ?_⟩
    exact ⟨B2, F, C2, _, P, PX, rl2, .cons .ref rp2, p, fun v d B' C' H' e => q v d B' C' H' ((e1.trans e2).trans e),
      fun x c d B' C' H' e rl' ok px => hX B' F σ H' C' (sb.trans ((e1.trans e2).trans e)) rl' (re.mono ((e1.trans e2).trans e)) x c d ok px⟩
/-! ### or as a value, by truth -/
theorem pe_orTK (K : PySem.W.Frag) {X : Cx} {a b : Expr} {rest : List Expr} {pos : Pos} {ta tb : TE} (ha : PE X a ta) (hb : PE X (.BoolOp .Or (b :: rest) pos) tb) (h : X.K = K := by rfl) : PE X (.BoolOp .Or (a :: b :: rest) pos) (tOrT K ta tb) := by
  subst h
  exact pe_orT ha hb
theorem w_orT {K : PySem.W.Frag} {B0 : Gr} {ta tb : TE} {E : EnvD} {C : CH} {P : D → CH → Prop} (h : W B0 ta E C fun x C1 => ∃ b, TruD C1 x = some b ∧ (b = true → P x C1) ∧ (b = false → W B0 tb E C1 P)) : W B0 (tOrT K ta tb) E C P := fun B F σ H sb rl re Q q =>
  h B F σ H sb rl re _ fun v x B1 C1 H1 e1 rl1 rp1 ⟨b, hb, h1, h2⟩ => by
    refine ⟨b, truD_ok rl1 rp1 hb, ?_⟩
    cases b with
    | true => exact q v x B1 C1 H1 e1 rl1 rp1 (h1 rfl)
    | false => exact h2 rfl B1 F σ H1 (sb.trans e1) rl1 (re.mono e1) Q fun v d B' C' H' e => q v d B' C' H' (e1.trans e)
/-! ### None in a list of numbers -/
theorem inV_non : ∀ ms : List Int, inV .non (ms.map V.int) = false
  | [] => by simp [inV]
  | m :: r => by
    have ih := inV_non r
    unfold inV at ih ⊢
    rw [List.map_cons, List.any_cons, ih]
    simp [eqV]
theorem wr_inN {K : PySem.W.Frag} {B0 : Gr} {C : CH} {P : D → CH → Prop} {y : D} {ms : List Int} (hy : SeqD C y (ms.map D.int)) (k : P (.bl false) C) : WR B0 (rInU K false) .non y C P := fun B F H vx vy _ rl hx h2 Q q => by
  cases hx
  obtain ⟨a, vs, rfl, hs, r⟩ := seqD_rd (K := K) rl h2 hy
  have e := r.ints
  subst e
  refine .inl ⟨a, _, rfl, hs, rfl, flat_ints ms, ?_⟩
  rw [if_neg Bool.false_ne_true]
  rw [inV_non]
  exact q _ _ B C H (Same.refl B) rl .bl k
/-! ### d["x"] = .. among targets -/
theorem wset_t {B0 : Gr} {C : CH} {a : Addr} {f : Str} {v : D} {gs : List (Str × D)} {N : CH → Prop} (h : C a = some (.tdic gs)) (hl : gs.length < 1000) (k : N (updC C a (.tdic (putT gs f v)))) : WSet B0 rSetD (.ref a) (.str f) v C N := fun B F H vo vi vv _ rl ho hi' hv Q q => by
  cases ho; cases hi'
  obtain ⟨fs, ha, r⟩ := rel_tdic rl h
  refine ⟨a, _, rfl, DPut.k (k := Sum.inr f) ha (by rw [keyT_len, repF_len r]; exact Nat.lt_trans hl (by decide)), ?_⟩
  rw [putK_T]
  exact q B _ _ (Same.refl B) (rl.write h (.tdic (repF_putT r hv))) k
/-- one way to a value, whatever the test -/
theorem w_to {B0 : Gr} {te : TE} {E : EnvD} {C : CH} {P : D → CH → Prop} (d0 : D) (h : W B0 te E C fun d C1 => d = d0 ∧ C1 = C) (k : P d0 C) : W B0 te E C P := fun B F σ H sb rl re Q q =>
  h B F σ H sb rl re Q fun v d B' C' H' e rl' rp ⟨h1, h2⟩ => by
    subst h1 h2
    exact q v _ B' _ H' e rl' rp k
end Dv

set_option maxRecDepth 100000
set_option maxHeartbeats 4000000
/-! Errors with fields: made by an own __init__, caught, asked by isinstance, read. -/
namespace Dv
open PySem PySem.Spec PySem.W PySem.Calls PyProof.Rows L2
section
variable {prog : Program} {w : World} {A : Around} {E : Value → Shared → Prop} {s : Shared} {K : Frag} {x D : Addr} {ox : Obj} {od : Option Obj}
/-- a data descriptor goes ahead of what the instance has -/
theorem found_desc {C : Addr} {nm : Str} {at1 gt : Value} (some1 : (clsIn K C).isSome = true) (f1 : findIn K (.ref C) nm = some (some at1))
    (f2 : specialIn K at1 "__get__" = some (some gt)) (f3 : takesIn K at1 = some true) : findObj K C od nm = some (.bind gt at1) := by
  obtain ⟨cd, e1⟩ := Option.isSome_iff_exists.mp some1
  unfold findObj
  rw [e1, Option.bind_some, f1, Option.bind_some]
  simp [f2, f3]
theorem ask_class {Q : Option Value → Shared → Prop} (c : ExcC K D) (inK : K.In s.heap) (at0 : InstAt s.heap x ox D od)
    (k : Q (some (.ref D)) { s with toks := s.toks + 1 }) :
    wpAny (model prog w) A (getAttr? (.ref x) "__class__") Q E s := by
  have cd1 : (clsIn K D).isSome = true := by
    obtain ⟨cd, e1, _⟩ := any_some c.hd
    rw [e1]
    rfl
  have fnd : findObj K D od "__class__" = some (.bind (.builtin "getset_descriptor.__get__") (.builtin "object.__class__")) :=
    found_desc cd1 c.ha c.hn c.ht
  obtain ⟨hp, gg, dd, tt, oo⟩ := s
  have ty0 := at0.type (M := model prog w)
  have ga0 := looks_findIn (M := model prog w) inK c.hg
  have gt0 := looks_findIn (M := model prog w) inK c.hk
  have cl0 := looks_find (M := model prog w) inK at0 fnd
  have isB : Looks (model prog w) hp (isInstance (.ref x) (.type "BaseException")) true :=
    ty0.andThen (looks_subIn inK c.hs)
  have no2 : (Value.builtin "BaseException.__getattribute__" == Value.builtin "object.__getattribute__") = false := by
    decide +kernel
  have no1 : (onTheHeap (Value.ref D) && Value.builtin "BaseException.__getattribute__" == Value.builtin "object.__getattribute__") = false := by
    rw [no2]
    rfl
  have no0 : (false && onTheHeap (Value.builtin "BaseException.__getattribute__")) = false := rfl
  unfold getAttr? getAttrBy? getAttrBy
  refine wpAny_bind (wpAny_mkText (wpAny_bind (wpAny_attempt (wpAny_holding (wpAny_bind (ty0.at (wpAny_bind (ga0.at ?z))))))))
  show wpAny _ _ (if (onTheHeap (Value.ref D) && Value.builtin "BaseException.__getattribute__" == Value.builtin "object.__getattribute__") = true then _ else _) _ _ _
  rw [no1, if_neg Bool.false_ne_true]
  unfold getAttrByItsOwn hookBefore
  refine wpAny_bind ?_
  rw [if_pos (show onTheHeap (Value.ref D) = true from rfl)]
  refine gt0.at (wpAny_bind (wpAny_attempt (wpAny_holding ?_)))
  unfold callGetattribute
  rw [no0, if_neg Bool.false_ne_true]
  unfold boundAndCalled
  rw [PySem.F.excAttr_ValueError.ga.bind (.ref x)]
  refine wpAny_bind (wpAny_pure ?_)
  show wpAny _ _ (call (.builtin "BaseException.__getattribute__") [.ref x, .str "__class__" tt]) _ _ _
  refine wpAny_call (codeAny_call_builtin PySem.F.excAttr_ValueError.ga.plain PySem.F.entry_bexc_ga (@check_slot (model prog w) _ _ ⟨hp, gg, dd, tt + 1, oo⟩
    "BaseException.__getattribute__" "BaseException" "__getattribute__" (.ref x) [.str "__class__" tt] [] _ (by decide +kernel) (by decide +kernel) isB (PySem.F.args_bexc_ga (.ref x) (.str "__class__" tt)) ?_))
  unfold Builtin.«object.__getattribute__»
  refine wpAny_bind (wpAny_of_eq (a := ((Value.ref x : Value), [Value.str "__class__" tt])) (by first | rfl | (simp only [slotArgs]; rfl)) (wpAny_bind (wpAny_pure (wpAny_bind (ty0.at (wpAny_bind (cl0.at ?_)))))))
  show wpAny _ _ (holding [Value.builtin "object.__class__"] (call (.builtin "getset_descriptor.__get__") [.builtin "object.__class__", .ref x, .ref D]) >>= ret) _ _ _
  refine wpAny_bind (wpAny_holding (wpAny_call (class_get (s := ⟨hp, gg, dd, tt + 1, oo⟩) (ox := ox) (od := od) inK at0 c.hm ?_)))
  refine wpAny_pure ?_
  show wpAny _ _ (handedOut (.ref D)) _ _ _
  rw [handedOut_of (v := .ref D) rfl]
  first
    | exact wpAny_pure (wpAny_pure k)
    | exact wpAny_pure k
    | exact wpAny_pure (wpAny_bind (wpAny_pure (wpAny_pure k)))
theorem kit_err (c : ExcC K D) : KitX K (.ref x) (.ref D) (fun h => ∃ od, InstAt h x ox D od) where
  ty := fun _ _ _ ⟨_, at0⟩ => at0.type
  it := fun _ _ inK _ => by
    obtain ⟨cdD, e1, _⟩ := any_some c.hd
    unfold clsIn at e1
    split at e1
    · rename_i c1 d1 cd1 sl1 look
      intro A' Q' E' s' kk qq
      unfold isType loadHead
      exact wpAny_bind (wpAny_loadPart (kk _ _ (inK _ _ look)) (wpAny_pure qq))
    · cases e1
  ne := fun h tp dd its n sl inK isT => by
    obtain ⟨cdD, e1, _⟩ := any_some c.hd
    refine Bool.eq_false_iff.mpr fun same => ?_
    obtain rfl : D = tp := Value.ref.inj (beq_iff_eq.mp same)
    unfold clsIn at e1
    split at e1
    · rename_i c1 d1 cd1 sl1 look
      cases (inK _ _ look).symm.trans isT
    · cases e1
  ca := fun inK ⟨_, at0⟩ k => ask_class c inK at0 k
end
/-- isinstance(e, c): e may have a dict -/
def rIsY (K : PySem.W.Frag) (a : Addr) (cls : Value) (d : Option Addr) : List V → Hp → VK → Prop := fun xs G Q => ∃ De, cls = .ref De ∧ (d = none ∨ ∃ dd fs, d = some dd ∧ G dd = some (.xd fs)) ∧ ExcC K De ∧ rIsE K De a xs G Q
theorem call_isY {X : Cx} {a : Addr} {cls : Value} {d : Option Addr} {ob : Obj} {pn : List (Addr × Obj)} (hz : Zc cls d ob) (hf : ∃ vs, ob.data = .fields vs) : CallR (X.suite a ((a, ob) :: pn)) (.builtin "isinstance") (rIsY X.K a cls d) := by
  rintro pins s σ H xs us Q I r ⟨De, rfl, hd, c, cv, v, b, rfl, hcv, e, q⟩
  cases r with
  | cons rx rr =>
    cases rr with
    | cons rt rr =>
      cases rr
      cases rx
      obtain rfl := hcv _ rt
      obtain ⟨hget, _⟩ := I.pin (a, ob) (List.mem_append.mpr (.inl List.mem_cons_self))
      obtain ⟨vs, hv⟩ := hf
      have J : ∃ od, PySem.W.InstAt s.heap a ob De od := by
        have nc : PySem.W.notCls ob = true := by unfold PySem.W.notCls; rw [hv] <;> rfl
        rcases hd with rfl | ⟨dd, fs, rfl, ea⟩
        · exact ⟨none, hget, hz.1, nc, by rw [hz.2]; trivial⟩
        · have hx : ObjOk X.prog X.w H s.heap dd (.xd fs) := I.hok dd _ ea
          obtain ⟨mA, hns, _⟩ := hx
          obtain ⟨od, ho, _⟩ := lookIn_ns hns
          exact ⟨some od, hget, hz.1, nc, by rw [hz.2]; exact ho⟩
      exact PySem.W.kia_one (kit_err c) I.kIn J e (fun z => nomatch z) fun tk => ⟨.bl b, H, I.kept (t' := tk) fun _ _ z => z, rfl, q⟩
/-! ### Base.__init__(self, ..), Base a class of the text -/
structure BaseC (K : PySem.W.Frag) (CF : Addr) : Prop where
  ga : PySem.W.specialIn K (.ref CF) "__getattribute__" = some (some (.builtin "type.__getattribute__"))
  ty : PySem.W.typeIn K (.ref CF) = some (.type "type")
  rd : PySem.W.readsIn K CF (.type "type") = true
  fi : PySem.W.findCls K (.ref CF) (.type "type") "__init__" = some (.val (.builtin "ValueError.__init__"))
theorem pe_feinit {X : Cx} {x : Str} {CF : Addr} {e : Expr} {es : List Expr} {ta : TA} {p1 p2 pos : Pos} {pl : Sem Bool} (hm : X.mg x = some (.ref CF)) (B : BaseC X.K CF) (ha : PA X (e :: es) ta) (hg : Gl X x := by rfl) (hdb : (x == ("__debug__" : Str)) = false := by decide)
    (hc : eval (.Call (.Attribute (.Name x p1) "__init__" p2) (e :: es) [] pos) X.env = (do
      let ov ← eval (.Name x p1) X.env
      standAt p2.atName
      let (f, first) ← holding [ov] (getMethod ov "__init__" pl)
      callWith pos f first (backTo pos (starEach (e :: es) X.env)) (backToKw pos (keywordEach [] X.env))) := by rfl)
    (he : starEach (e :: es) X.env = (false, eval e X.env) :: starEach es X.env := by rfl) (hpl : (backTo pos (starEach es X.env)).any (·.1) = false := by rfl) :
    PE X (.Call (.Attribute (.Name x p1) "__init__" p2) (e :: es) [] pos) (tVeI X.K ta) := by
  refine ⟨fun pins s σ H Q I h => ?_⟩
  refine PySem.W.methodCall_KW (ld_glob I hg hm ?_ hdb) hc
  obtain ⟨m, fr⟩ := I.fr
  refine PySem.W.method_of_cls fr I.ok.mod.kin B.ga (PySem.W.cls_val fr I.ok.mod.kin B.ty B.rd B.fi (by decide +kernel) ?_)
  show wpAny _ _ (callWith pos (Value.builtin "ValueError.__init__") [] (backTo pos (starEach (e :: es) X.env)) []) _ _ _
  refine PyProof.Rows.callWith_method1 (thn (ha.run pos pins _ σ H _ (I.tok _) h) fun us s1 hh => ?_) he hpl
  obtain ⟨vs, H1, I1, r1, a, C, ws, rfl, hl, T, ea, q⟩ := hh
  cases r1 with
  | @cons _ u0 _ ur ra rr =>
    obtain rfl : u0 = Value.ref a := ra
    have hlen : ur.length ≤ sizeLine := by rw [← Paired.length rr, sizeLine_eq]; omega
    exact oinit_ok T I1 ea hlen fun s' J => ⟨.non, H1, J, rfl, q⟩
/-! ### an own __init__ that keeps a place and a message -/
def spTE (K : PySem.W.Frag) : Sp := fun vs H Q _ => ∃ (a C : Addr) (p : Int) (m : Str), vs = [.ref a, .int p, .str m] ∧ OexC K C ∧ PySem.W.findIn K (.ref C) "place" = some none ∧ PySem.W.findIn K (.ref C) "message" = some none ∧ (0 ≤ p ∧ p ≤ 100000) ∧ m.length ≤ 1000 ∧
  H a = some (exo a C none) ∧ ∀ dx, H dx = none → dx ≠ a → Q .non (upd (upd (upd H dx (exd dx [("place", .int p)])) a (exo a C (some dx))) dx (exd dx [("message", .str m), ("place", .int p)]))
def EiniAt (K : PySem.W.Frag) (mg : Str → Option Value) (cn qual : Str) (st : Stmt) (ps : List Str) : Prop :=
  ∃ f fd, OexC K (clsAd mg cn) ∧ PySem.W.findIn K (.ref (clsAd mg cn)) "__init__" = some (some (.ref f)) ∧ PySem.W.typeIn K (.ref f) = some (.type "function") ∧ Fun K "__init__" qual st f fd ∧ mg cn = some (.ref (clsAd mg cn)) ∧ Binds K fd ps [] ∧
    PySem.W.findIn K (.ref (clsAd mg cn)) "place" = some none ∧ PySem.W.findIn K (.ref (clsAd mg cn)) "message" = some none
def HasE (P : Program) (w : World) (K : PySem.W.Frag) (mg : Str → Option Value) (base : Heap) (k : Nat) (cn : Str) (ps : List Str) (sp : Sp) : Prop :=
  ∃ f fd, OexC K (clsAd mg cn) ∧ PySem.W.findIn K (.ref (clsAd mg cn)) "__init__" = some (some (.ref f)) ∧ PySem.W.typeIn K (.ref f) = some (.type "function") ∧ FnOk P w K mg base CX0 k f fd ps sp ∧ mg cn = some (.ref (clsAd mg cn)) ∧ Binds K fd ps [] ∧
    PySem.W.findIn K (.ref (clsAd mg cn)) "place" = some none ∧ PySem.W.findIn K (.ref (clsAd mg cn)) "message" = some none
theorem HasE.mono {P : Program} {w : World} {K : PySem.W.Frag} {mg : Str → Option Value} {base : Heap} {j k : Nat} {cn : Str} {ps : List Str} {sp : Sp} (h : HasE P w K mg base j cn ps sp) (l : j ≤ k) : HasE P w K mg base k cn ps sp := by
  obtain ⟨f, fd, a, b, c, d, e⟩ := h
  exact ⟨f, fd, a, b, c, d.mono l, e⟩
theorem has_ofE {P : Program} {w : World} {K : PySem.W.Frag} {mg : Str → Option Value} {base : Heap} {cn qual : Str} {st : Stmt} {N ps : List Str} {k : Nat} (Df : EiniAt K mg cn qual st ps) (S : FnScope N ps (defScope st)) (hl : ps.length = 3)
    (hbody : ∀ (f : Addr) (cdv : Value) (A : Around) (outer : List PySem.Env) (s : Shared) (H : Hp) (E : XK), Room k (A.deeper (PyProof.Rows.envOfC qual (defScope st) s.heap.objs.size f cdv)) →
      ∃ t, PSs (cxOf CX0 P w K mg base N qual (defScope st) f cdv A outer s H E).nox (defBody st) t ∧ ∀ vs Q, spTE K vs H Q E → t { nx := fun _ H' => Q .non H', rt := Q } (start N vs) H) :
    HasE P w K mg base (k + 1) cn ps (spTE K) := by
  obtain ⟨f, fd, a, b, c, F, e⟩ := Df
  refine ⟨f, fd, a, b, c, F.ok S ?_ ?_, e⟩
  · rintro vs H Q E ⟨_, _, _, _, rfl, _⟩
    rw [hl]
    rfl
  · intro cdv A outer s H vs Q E hr h
    obtain ⟨t, h1, h2⟩ := hbody f cdv A outer s H E hr
    exact ⟨t, h1, h2 vs Q h⟩
def tRaiseT (K : PySem.W.Frag) (C : Addr) (W : WX) (ta : TA) : TS := fun _ σ H => tMkO C (spTE K) [] ta σ H fun cls d H' => W cls d σ H'
theorem ps_rsT {X : Cx} {W : WX} {x : Str} {ps : List Str} {k : Nat} {e : Expr} {es : List Expr} {ta : TA} {p pos pos2 : Pos} (h : HasE X.prog X.w X.K X.mg X.base k x ps (spTE X.K)) (hr : Room (k + 1) X.A) (tk : Takes X W) (ha : PA X (e :: es) ta) (hc : X.calm = true := by rfl) (hg : Gl X x := by rfl)
    (hdb : (x == ("__debug__" : Str)) = false := by decide) (he : starEach (e :: es) X.env = (false, eval e X.env) :: starEach es X.env := by rfl) (hpl : (backTo pos (starEach es X.env)).any (·.1) = false := by rfl) :
    PS X (.Raise (some (.Call (.Name x p) (e :: es) [] pos)) none pos2) (tRaiseT X.K (clsAd X.mg x) W ta) := by
  obtain ⟨f, fd, T, iC, tI, F, hm, hb, _⟩ := h
  exact ps_raise hc tk (pmk_oex T iC tI F hr hb .nil pass0 hg hm ha hdb he hpl)
theorem ws_raiseT {P : Program} {w : World} {base : Heap} {k : Nat} {ps : List Str} {K : PySem.W.Frag} {mg : Str → Option Value} {x : Str} {B0 : Gr} {W : WX} {ta : TA} {E : EnvD} {C : CH} {D1 : EndD} {PX : Exn → CH → Prop} (h0 : HasE P w K mg base k x ps (spTE K)) (hX : XOk mg B0 (WE W) E PX)
    (h : WA B0 ta E C fun ds C1 => ∃ (p : Int) (m : Str), ds = [.int p, .str m] ∧ (0 ≤ p ∧ p ≤ 100000) ∧ m.length ≤ 1000 ∧ PX (.fld x [("message", .str m), ("place", .int p)]) C1) : WS B0 (tRaiseT K (clsAd mg x) W ta) E C D1 := fun B F σ H sb rl re Dn _ =>
  h B F σ H sb rl re _ fun vs ds B1 C1 H1 e1 rl1 rp ⟨p, m, hd, hp, hm, px⟩ => by
    subst hd
    obtain ⟨f, fd, T, iC, tI, F1, hg, hb, n1, n2⟩ := h0
    cases rp with
    | cons r1 rp =>
    cases rp with
    | cons r2 rp =>
    cases rp
    cases r1
    cases r2
    refine ⟨by simp, fun a ha => ⟨a, clsAd mg x, p, m, rfl, T, n1, n2, hp, hm, upd_same, fun dx hdx hne => ⟨rfl, dx, _, ?_, upd_same, ?_, ?_⟩⟩⟩
    · rw [upd_ne (Ne.symm hne), upd_same]
    · rw [upd_ne hne] at hdx
      exact hdx
    · have hdx2 : H1 dx = none := by rw [upd_ne hne] at hdx; exact hdx
      have e : upd (del (upd (upd (upd (upd H1 a (exo a (clsAd mg x) none)) dx (exd dx [("place", .int p)])) a (exo a (clsAd mg x) (some dx))) dx (exd dx [("message", .str m), ("place", .int p)])) a) dx (.xd [("message", .str m), ("place", .int p)]) = upd H1 dx (.xd [("message", .str m), ("place", .int p)]) := by
        funext b
        by_cases h1 : b = dx
        · rw [h1, upd_same, upd_same]
        · rw [upd_ne h1, upd_ne h1]
          by_cases h2 : b = a
          · rw [h2, del_same, ha]
          · rw [del_ne h2, upd_ne h1, upd_ne h2, upd_ne h1, upd_ne h2]
      rw [e]
      have s := same_upd (o := .xd [("message", .str m), ("place", .int p)]) (rl1.noB hdx2)
      exact hX _ F σ _ C1 (sb.trans (e1.trans s)) (rl1.new hdx2) (re.mono (e1.trans s)) _ _ _ (.fld hg upd_same (.cons .str (.cons .int .nil))) px
/-! ### what the suite of an except clause asks of such an error -/
theorem call_isYK (K : PySem.W.Frag) {X : Cx} {a : Addr} {cls : Value} {d : Option Addr} {ob : Obj} {pn : List (Addr × Obj)} (hz : Zc cls d ob) (hf : ∃ vs, ob.data = .fields vs) (hK : X.K = K := by rfl) : CallR (X.suite a ((a, ob) :: pn)) (.builtin "isinstance") (rIsY K a cls d) := by
  subst hK
  exact call_isY hz hf
theorem wc_isY {K : PySem.W.Frag} {B0 : Gr} {C : CH} {P : D → CH → Prop} {a da De FE : Addr} {b : Bool} {vs : List (Str × V)} (hb : B0.b da = some (.xd vs)) (hc : ExcC K De) (hk : PySem.W.kitOne K (.ref De) (.ref FE) = some b) (k : P (.bl b) C) :
    WC B0 (rIsY K a (.ref De) (some da)) [.ref a, .ref FE] C P := fun B F H ws sb rl rs Q q => by
  cases rs with
  | cons r1 rs =>
    cases rs with
    | cons r2 rs =>
      cases rs
      cases r1
      cases r2
      exact ⟨De, rfl, .inr ⟨da, vs, rfl, rl.ex _ _ (sb.1 _ _ hb)⟩, hc, .ref FE, .ref FE, b, rfl, fun u z => z, hk, q _ _ B C H (Same.refl B) rl .bl k⟩
theorem repF_at {B : Hp} {vs : List (Str × V)} {fs : List (Str × D)} (r : RepF B vs fs) {f : Str} {d : D} (h : fs.lookup f = some d) : ∃ v, vs.lookup f = some v ∧ Rep B v d := by
  induction r with
  | nil => cases h
  | @cons k v d' vs ds hv _ ih =>
    rw [List.lookup_cons] at h ⊢
    cases e : f == k with
    | true =>
      rw [e] at h
      cases h
      exact ⟨v, rfl, hv⟩
    | false =>
      rw [e] at h
      exact ih h
theorem w_xf {B0 : Gr} {E : EnvD} {C : CH} {P : D → CH → Prop} {a da Cc : Addr} {f : Str} {te : TE} {vs : List (Str × V)} {fs : List (Str × D)} {d : D} (hb : B0.b da = some (.xd vs)) (r : RepF B0.b vs fs) (hl : fs.lookup f = some d)
    (h : W B0 te E C fun x C1 => x = .ref a ∧ P d C1) : W B0 (tXf a (.ref Cc) (some da) Cc f te) E C P := fun B F σ H sb rl re Q q =>
  h B F σ H sb rl re _ fun v x B1 C1 H1 e1 rl1 rp ⟨hx, k⟩ => by
    subst hx
    cases rp
    obtain ⟨v', hv, rv⟩ := repF_at r hl
    exact ⟨rfl, rfl, da, vs, v', rfl, rl1.ex _ _ (e1 _ _ (sb.1 _ _ hb)), hv, q _ _ B1 C1 H1 e1 rl1 (rv.mono (sb.1.trans e1)) k⟩
end Dv

set_option maxRecDepth 100000
set_option maxHeartbeats 4000000
/-! Errors whose text is known: from raise to except, the tuple of what they were made of carried along. -/
namespace Dv
open PySem PySem.Spec PyProof.Rows L2
/-- class, dict and args of an error in the air -/
def Za (cls : Value) (d : Option Addr) (t1 : Addr) : Obj → Prop := fun ob => (ob.cls = cls ∧ ob.dict = d) ∧ ∀ fv : Array Value, ob.data = .fields fv → fv[0]? = some (.ref t1)
theorem za_args {t1 : Addr} : PXN.Steady1 fun ob => ∀ fv : Array Value, ob.data = .fields fv → fv[0]? = some (.ref t1) := by
  intro ob v h fv hf
  obtain ⟨c, dd, dt, sl⟩ := ob
  cases dt with
  | fields gv =>
    have e : (Data.fields (gv.setIfInBounds 1 v)) = .fields fv := hf
    injection e with e
    rw [← e, Array.getElem?_setIfInBounds_ne (by decide)]
    exact h gv rfl
  | _ => exact h fv hf
theorem za_steady {cls : Value} {d : Option Addr} {t1 : Addr} : PXN.Steady1 (Za cls d t1) :=
  PXN.steady_and (Z := fun ob => ob.cls = cls ∧ ob.dict = d) (PXN.steady_and (Z := fun ob => ob.cls = cls) (Z' := fun ob => ob.dict = d) PXN.steady_cls PXN.steady_dict) za_args
/-- what such an error's dict and args say: the text is that of its message and its place -/
def ArgT (d : Option Addr) (t1 : Addr) (H : Hp) : Prop := ∃ (dd : Addr) (p : Int) (m : Str), d = some dd ∧ H dd = some (.xd [("message", .str m), ("place", .int p)]) ∧ H t1 = some (.tup [.str (m ++ " at " ++ numS p)])
/-- the ground below an error in the air: the state without it -/
structure Gnd (X : Cx) (B : Heap) (pins : List (Addr × Obj)) (σ : L2.St) (H : Hp) (sI s1 : Shared) : Prop where
  inv : Inv X pins σ H sI
  low : ∀ b ob, sI.heap.get? b = some ob → b ∉ frs X.stack → B.get? b = some ob
  up : sI.heap.UpToSlots s1.heap
  os : s1.os = sI.os
  ag : AllBare s1.gens
def XEa (X : Cx) (W : WX) (u : Value) (s1 : Shared) : Prop :=
  ∃ (a : Addr) (B : Heap) (sI : Shared) (pins : List (Addr × Obj)) (σ : L2.St) (H : Hp) (cls : Value) (d : Option Addr) (t1 : Addr), u = .ref a ∧ Gnd X B pins σ H sI s1 ∧ Sky B X.stack a (Za cls d t1) X.env.locals s1.heap ∧ H a = none ∧ ArgT d t1 H ∧ W cls d σ H
def TakesA (X : Cx) (W : WX) : Prop := ∀ u s1, XEa X W u s1 → X.xe u s1
/-- what a call leaves that let such an error out -/
def CXa (P : Program) (w : World) (outer : List Env) (H : Hp) (s : Shared) (E : XK) (u : Value) (s1 : Shared) : Prop :=
  ∃ (a : Addr) (B : Heap) (H1 : Hp) (cls : Value) (d : Option Addr) (t1 : Addr), u = .ref a ∧ HandSPX.FlyingZ B outer a (Za cls d t1) s1.heap ∧ (HOk P w H1 B ∧ UB (frs outer) H H1 s.heap B s1.heap) ∧ (s1.os = s.os ∧ AllBare s1.gens) ∧ H1 a = none ∧ ArgT d t1 H1 ∧ E cls d H1
section
variable {X : Cx} {pins : List (Addr × Obj)} {σ : L2.St} {H H1 : Hp} {sI s s1 : Shared} {B : Heap} {W : WX} {E : XK}
theorem gnd_call (I : Inv X pins σ H s) (st : B.StaysIn s1.heap) (hok : HOk X.prog X.w H1 B) (ub : UB (frs X.stack) H H1 s.heap B s1.heap) (os : s1.os = s.os) (ag : AllBare s1.gens) : ∃ sI, Gnd X B pins σ H1 sI s1 := by
  obtain ⟨G, gy, gn⟩ := restrict s1.heap fun b => (B.get? b).isSome || decide (b ∈ frs X.stack)
  have low : ∀ b ob, B.get? b = some ob → G.get? b = some ob := fun b ob e => (gy b (by rw [e]; rfl)).trans (st b ob e)
  have fr : ∀ b, b ∈ frs X.stack → G.get? b = s1.heap.get? b := fun b hb => gy b (by rw [decide_eq_true hb, Bool.or_true])
  have sub : ∀ b ob, G.get? b = some ob → s1.heap.get? b = some ob ∧ (b ∉ frs X.stack → B.get? b = some ob) := fun b ob e => by
    cases hp : ((B.get? b).isSome || decide (b ∈ frs X.stack)) with
    | false => rw [gn b hp] at e; cases e
    | true =>
      have e2 : s1.heap.get? b = some ob := (gy b hp).symm.trans e
      refine ⟨e2, fun nf => ?_⟩
      rw [decide_eq_false nf, Bool.or_false] at hp
      obtain ⟨o2, h2⟩ := Option.isSome_iff_exists.mp hp
      rw [h2, ← e2, st b o2 h2]
  refine ⟨{ s with heap := G, gens := s1.gens, drawn := s1.drawn, toks := s1.toks }, ⟨I.call (ch := []) ⟨?_, ?_, ?_, ?_, ub.tups, ub.frzs, ub.tbls⟩ (hok.kept low) ag (fun _ z => nomatch z), ?_, ?_, os, ag⟩⟩
  · exact fun b ob e n nf _ => low b ob (ub.keep b ob e n nf)
  · intro b ob e n nf _
    obtain ⟨sl, e2⟩ := ub.slot b ob e nf
    exact ⟨sl, (fr b nf).trans e2⟩
  · exact fun b ob e n _ => ub.free b ob e n
  · intro b ob e _
    by_cases nf : b ∈ frs X.stack
    · obtain ⟨sl, e2⟩ := ub.slot b ob e nf
      exact ⟨_, (fr b nf).trans e2⟩
    · obtain ⟨o2, e2⟩ := ub.there b ob e nf
      exact ⟨o2, low b o2 e2⟩
  · exact fun b ob e nf => (sub b ob e).2 nf
  · exact Heap.UpToSlots.of_keeps fun b ob e => (sub b ob e).1
theorem xea_call (I : Inv X pins σ H s) (hW : ∀ cls d H2, E cls d H2 → W cls d σ H2) {u : Value} (c : CXa X.prog X.w X.stack H s E u s1) : XEa X W u s1 := by
  obtain ⟨a, B, H2, cls, d, t1, rfl, fl, ⟨hok, ub⟩, ⟨os, ag⟩, na, ar, hE⟩ := c
  obtain ⟨sI, g⟩ := gnd_call I fl.1 hok ub os ag
  exact ⟨a, B, sI, pins, σ, H2, cls, d, t1, rfl, g, .inr (.inl fl), na, ar, hW _ _ _ hE⟩
theorem xea_new {a t1 : Addr} {ob : Obj} {fv : Array Value} {cls : Value} {d : Option Addr} (I : Inv X pins σ H sI) (kp : ∀ b o, sI.heap.get? b = some o → s1.heap.get? b = some o) (hn : sI.heap.get? a = none) (ha : s1.heap.get? a = some ob) (hz : Za cls d t1 ob) (hd : ob.data = .fields fv)
    (h1 : fv[1]? = some .none) (na : H a = none) (ar : ArgT d t1 H) (os : s1.os = sI.os) (ag : AllBare s1.gens) (w : W cls d σ H) : XEa X W (.ref a) s1 := by
  have hid : ∀ b o, (PySem.W.hideAll sI.heap (frs X.stack)).get? b = some o → sI.heap.get? b = some o := fun b o e => PySem.W.of_hideAll _ e
  have nB : (PySem.W.hideAll sI.heap (frs X.stack)).get? a = none := by
    cases z : (PySem.W.hideAll sI.heap (frs X.stack)).get? a with
    | none => rfl
    | some o => rw [hid a o z] at hn; cases hn
  have ff : s1.heap.FunFrames (PySem.W.hideAll sI.heap (frs X.stack)) X.stack := Heap.FunFrames.of_keeps (fun b o e _ => ⟨o, kp b o e, rfl⟩) (funFrames_none I.stack fun b hb => PySem.W.hideAll_none _ hb)
  exact ⟨a, _, sI, pins, σ, H, cls, d, t1, rfl, ⟨I, fun b o e nf => PySem.W.hideAll_get _ e nf, Heap.UpToSlots.of_keeps kp, os, ag⟩, .inl ⟨fun b o e => kp b o (hid b o e), nB, ff, ob, fv, ha, hz, hd, h1⟩, na, ar, w⟩
theorem xea_leave (hs : X.stack = X.env :: X.outer) (hf : X.env.frame = some X.env.locals) (hex : X.ex = []) {Ex : Value → Shared → Prop} (hW : ∀ cls d σ H, W cls d σ H → E cls d H) {u : Value} (x : XEa X W u s1) :
    wpAny (model X.prog X.w) X.A (leaving X.env u) (fun _ s2 => CXa X.prog X.w X.outer X.H_0 X.s_0 E u s2) Ex s1 := by
  obtain ⟨a, B, sI, pins, σ, H, cls, d, t1, rfl, g, sky, na, ar, w⟩ := x
  have I := g.inv
  have fr : X.A.frames = some (X.env :: X.outer) := by rw [I.ok.frames, hs]
  have out : ∀ b o, X.s_0.heap.get? b = some o → b ∉ X.fs → b ∉ frs X.stack := fun b o e nf hm => by
    rcases List.mem_cons.mp (I.stkSub b hm) with rfl | z
    · exact absurd (Heap.lt_size e) (Nat.not_lt.mpr I.ok.above)
    · exact nf z
  have nx : ∀ b, b ∉ X.ex := fun b => by rw [hex]; exact List.not_mem_nil
  have ub : ∀ h2 : Heap, s1.heap.UpToSlots h2 → UB (frs X.outer) X.H_0 H X.s_0.heap B h2 := fun h2 u2 => by
    refine ⟨?_, ?_, ?_, ?_, I.base.tups, I.base.frzs, I.base.tbls⟩
    · exact fun b o e n nf => g.low b o (I.base.keep b o e n nf (nx b)) (out b o e nf)
    · intro b o e hm
      obtain ⟨_, o3, e3, nf⟩ := I.ok.funs.mem hm
      obtain rfl := Option.some.inj (e3.symm.trans e)
      obtain ⟨x1, f1⟩ := I.base.slot b _ e (I.ok.frf b hm) hm (nx b)
      obtain ⟨x2, f2⟩ := g.up b _ f1 nf
      obtain ⟨x3, f3⟩ := u2 b _ f2 nf
      exact ⟨x3, f3⟩
    · exact fun b o e n => I.base.free b o e n (nx b)
    · intro b o e nf
      obtain ⟨o3, e3⟩ := I.base.there b o e (nx b)
      exact ⟨o3, g.low b o3 e3 (out b o e nf)⟩
  have done : ∀ h2, HandSPX.FlyingZ B X.outer a (Za cls d t1) h2 → s1.heap.UpToSlots h2 → CXa X.prog X.w X.outer X.H_0 X.s_0 E (.ref a) { s1 with heap := h2 } := fun h2 fl u2 =>
    ⟨a, B, H, cls, d, t1, rfl, fl, ⟨I.inGround g.low, ub h2 u2⟩, ⟨g.os.trans I.os, g.ag⟩, na, ar, hW _ _ _ _ w⟩
  rw [hs] at sky
  rcases sky with ⟨k1, k2, k3, ob, fv, k4, k5, k6, k7⟩ | k | k
  · exact PXN.leaving_firstZ za_steady fr k3 hf k4 k1 k2 k6 k7 k5 done
  · exact PXN.leaves_onZ za_steady fr hf k done
  · exact HandSPX.leaves_heldZ hf k done
theorem takesA_of (hs : X.stack = X.env :: X.outer) (hf : X.env.frame = some X.env.locals) (hex : X.ex = []) {Ex : Value → Shared → Prop} (hx : X.xe = fun e s2 => wpAny (model X.prog X.w) X.A (leaving X.env e) (fun _ s3 => CXa X.prog X.w X.outer X.H_0 X.s_0 E e s3) Ex s2) :
    TakesA X (fun cls d _ G => E cls d G) := fun u s2 x => by
  rw [hx]
  exact xea_leave (E := E) (W := fun c dd _ G => E c dd G) hs hf hex (fun _ _ _ _ z => z) x
theorem passA {X : Cx} {W : WX} (tk : TakesA X W) (σ : L2.St) : PassesAt (CXa X.prog X.w) X σ (WE W σ) := fun _ _ _ e s2 I c => tk e s2 (xea_call I (fun _ _ _ h => h) c)
/-- an error comes down in the frame that catches it -/
theorem skyA_land {M : Model} {A : Around} {Ex : Value → Shared → Prop} {env : Env} {outer : List Env} {L a : Addr} {Z : Obj → Prop} {Q : Unit → Shared → Prop} (hZ : PXN.Steady1 Z) (hfr : A.frames = some (env :: outer)) (hf : env.frame = some L) (x : Sky B (env :: outer) a Z L s.heap)
    (hQ : ∀ h2, HandSPX.FlyingZ B (env :: outer) a Z h2 → s.heap.UpToSlots h2 → Q () { s with heap := h2 }) : wpAny M A (noteFrame (.ref a) env) (fun _ s2 => wpAny M A (setFlight (.ref a) none) Q Ex s2) Ex s := by
  have held : ∀ h2, HandSPX.HeldZ B (env :: outer) a Z L h2 → s.heap.UpToSlots h2 → wpAny M A (setFlight (.ref a) none) Q Ex { s with heap := h2 } := fun h2 hh u2 => HandSPX.landsZ hh fun h3 fl u3 => hQ h3 fl (u2.trans u3)
  rcases x with ⟨k1, k2, k3, ob, fv, k4, k5, k6, k7⟩ | k | k
  · exact PXN.look_newZ hZ hfr k3 hf k4 k1 k2 k6 k7 k5 held
  · exact PXN.looks_onZ hZ hfr hf k held
  · exact HandSPX.againZ hf k.2.2.2 (held s.heap k (Heap.UpToSlots.refl _))
end
/-! ### raise -/
/-- an expression that makes such an error -/
def MkPa (X : Cx) (pins : List (Addr × Obj)) (σ : L2.St) (Q : XK) (u : Value) (s1 : Shared) : Prop :=
  ∃ (a t1 : Addr) (ob : Obj) (fv : Array Value) (sI : Shared) (H1 : Hp) (cls : Value) (d : Option Addr), u = .ref a ∧ Inv X pins σ H1 sI ∧ ((∀ b o, sI.heap.get? b = some o → s1.heap.get? b = some o) ∧ sI.heap.get? a = none ∧ s1.heap.get? a = some ob) ∧
    Za cls d t1 ob ∧ (ob.data = .fields fv ∧ fv[1]? = some .none) ∧ H1 a = none ∧ (s1.os = sI.os ∧ AllBare s1.gens) ∧ Raises X cls ∧ ArgT d t1 H1 ∧ Q cls d H1
def PMka (X : Cx) (e : Expr) (t : L2.St → Hp → XK → Prop) : Prop :=
  ∀ (pins : List (Addr × Obj)) (s : Shared) (σ : L2.St) (H : Hp) (Q : XK), Inv X pins σ H s → t σ H Q → wpAny (model X.prog X.w) X.A (eval e X.env) (MkPa X pins σ Q) X.xe s
theorem ps_raiseA {X : Cx} {W : WX} {e : Expr} {t : L2.St → Hp → XK → Prop} {pos : Pos} (tk : TakesA X W) (he : PMka X e t) (hc : X.calm = true) : PS X (.Raise (some e) none pos) (fun _ σ H => t σ H fun cls d H1 => W cls d σ H1) := by
  constructor
  intro pins s σ H D I h
  have made : wpAny (model X.prog X.w) X.A (do let v ← eval e X.env; standAt pos; pure v) (MkPa X pins σ fun cls d H1 => W cls d σ H1) X.xe s := wpAny_bind (wpAny_mono (he pins s σ H _ I h) (fun u s1 hu => wpAny_bind (wpAny_standAt (wpAny_pure hu))) fun _ _ x => x)
  show wpAny _ _ (standAt pos >>= fun _ => raiseStmt X.env (some (do let v ← eval e X.env; standAt pos; pure v)) none) _ _ _
  refine wpAny_bind (wpAny_standAt (raise_made (I.ok.hd hc) (wpAny_mono made ?_ fun _ _ x => x)))
  rintro u s1 ⟨a, t1, ob, fv, sI, H1, cls, d, rfl, J, ⟨kp, hn, ha⟩, hz, ⟨hd, h1⟩, na, ⟨os, ag⟩, r, ar, q⟩
  have rr := r (model X.prog X.w) s1.heap (J.kIn.keeps kp)
  exact ⟨a, ob, fv, cls, rfl, ha, hz.1.1, hd, h1, rr.1, rr.2, tk _ _ (xea_new J kp hn ha hz hd h1 na ar os ag q)⟩
/-! ### an error that is being made, its args known -/
def errO (C : Addr) (d : Option Addr) (t1 : Addr) : Obj := { cls := .ref C, dict := d, data := .fields #[.ref t1, .none, .none, .none, .bool false, .none] }
def exoT (e C : Addr) (d : Option Addr) (t1 : Addr) : HO := .ext fun h => h.get? e = some (errO C d t1)
theorem exoT_ext {e C t1 : Addr} {d : Option Addr} {u : HO} (h : ∀ p, u ≠ .ext p) : exoT e C d t1 ≠ u := fun z => h _ z.symm
theorem exoT_ok {P : Program} {w : World} {H : Hp} {h : Heap} {e C t1 : Addr} {d : Option Addr} (he : h.get? e = some (errO C d t1)) : ObjOk P w H h e (exoT e C d t1) := ⟨he, ⟨_, he⟩, fun _ _ z k => k _ z⟩
theorem exoT_at {P : Program} {w : World} {H : Hp} {h : Heap} {e C t1 : Addr} {d : Option Addr} (hok : HOk P w H h) (he : H e = some (exoT e C d t1)) : h.get? e = some (errO C d t1) := by
  have x : ObjOk P w H h e (.ext fun h => h.get? e = some (errO C d t1)) := hok e _ he
  exact x.1
section
variable {X : Cx} {pins : List (Addr × Obj)} {σ : L2.St} {H : Hp} {s : Shared} {a C dx t1 : Addr} {f : Str} {y : V} {u : Value} {fs : List (Str × V)} {Q : Unit → Shared → Prop} {E : Value → Shared → Prop} {A : Around}
/-- an object that is an error's (seen by a predicate) turned, another one new -/
theorem two_upd {φ : Heap → Prop} {h2 : Heap} {va vd : HO} {tk : Nat} {n : Addr} (I : Inv X pins σ H s) (ea : H a = some (.ext φ)) (kp : ∀ b o, b ≠ a → s.heap.get? b = some o → h2.get? b = some o) (nw : s.heap.objs.size ≤ n)
    (oa : ObjOk X.prog X.w (upd (upd H n vd) a va) h2 a va) (od : ObjOk X.prog X.w (upd (upd H n vd) a va) h2 n vd) (at_ : ∃ o, h2.get? a = some o) : Inv X pins σ (upd (upd H n vd) a va) { s with heap := h2, toks := tk } := by
  have hn : H n = none := I.hok.fresh nw
  have ba : ∀ {b : Addr} {o : HO}, H b = some o → (∀ p, o ≠ .ext p) → b ≠ a := fun {b o} e ne z => by
    rw [z, ea] at e
    exact ne _ (Option.some.inj e).symm
  have bn : ∀ {b : Addr} {o : HO}, H b = some o → b ≠ n := fun {b o} e z => by rw [z, hn] at e; cases e
  have kept : ∀ {b : Addr} {o : HO}, H b = some o → (∀ p, o ≠ .ext p) → upd (upd H n vd) a va b = some o := fun {b o} e ne => by rw [upd_ne (ba e ne), upd_ne (bn e)]; exact e
  have free : ∀ {b : Addr}, H b = none → b ≠ a := fun {b} e z => by rw [z, ea] at e; cases e
  refine I.un (t' := tk) ⟨fun b o e nb _ _ => kp b o (free nb) e, fun b o e nb _ _ => ⟨o.slots, kp b o (free nb) e⟩, fun b o e nb _ => ?_, fun b o e _ => ?_, fun b xs e => kept e (fun _ z => by cases z), fun b o v e => kept e (fun _ z => by cases z), fun b ps e => ⟨#[], by rw [kept e (fun _ z => by cases z), Array.append_empty]⟩⟩ fun b o e => ?_
  · have lt : b ≠ n := fun z => absurd (Heap.lt_size e) (Nat.not_lt.mpr (z ▸ nw))
    rw [upd_ne (free nb), upd_ne lt]
    exact nb
  · by_cases z : b = a
    · rw [z]; exact at_
    · exact ⟨o, kp b o z e⟩
  · by_cases za : b = a
    · subst za
      rw [upd_same] at e
      cases e
      exact oa
    · rw [upd_ne za] at e
      by_cases zn : b = n
      · subst zn
        rw [upd_same] at e
        cases e
        exact od
      · rw [upd_ne zn] at e
        refine (I.hok b o e).stay (fun c v hc q => kp c v ?_ q) (fun c hc => kept hc (fun _ z => by cases z)) (fun c xs hc => kept hc (fun _ z => by cases z))
        rcases hc with rfl | hc
        · exact za
        · exact ba hc (fun _ z => by cases z)
theorem cls_of (T : OexC X.K C) : ∃ cd, PySem.W.clsIn X.K C = some cd ∧ PySem.HandSPX.refsVE cd.mro = true ∧ cd.hasDict = true := by
  obtain ⟨nm, qn, N, bs, bm, sn, sub, ab, col, dd, k0, k1, k2, k3, k5, hC, hm⟩ := T.cls
  refine ⟨{ name := nm, bases := bs, mro := .ref C :: bm, ns := N, qualname := qn, hasDict := true, slotNames := sn, subclasses := sub, abstract := ab, collection := col, hasDel := false }, ?_, hm, rfl⟩
  unfold PySem.W.clsIn
  rw [hC] <;> rfl
/-- self.f = y: the first field -/
theorem ostT_new (T : OexC X.K C) (I : Inv X pins σ H s) (e : H a = some (exoT a C none t1)) (hno : PySem.W.findIn X.K (.ref C) f = some none) (ry : RelV y u)
    (h : ∀ n s1, H n = none → n ≠ a → Inv X pins σ (upd (upd H n (exd n [(f, y)])) a (exoT a C (some n) t1)) s1 → Q () s1) : wpAny (model X.prog X.w) A (setAttr (.ref a) f u) Q E s := by
  obtain ⟨cd, c1, c2, c3⟩ := cls_of T
  have ho := exoT_at I.hok e
  obtain ⟨hp, g, d, t, os⟩ := s
  refine PySem.W.set_plain I.kIn (ox := errO C none t1) (od := none) ⟨ho, rfl, rfl, trivial⟩ T.sa (PySem.HandSPX.exc_osa I.kIn ho c1 c2 c3 hno fun h2 tk n kp nw ne ha hn => ?_)
  exact h n _ (I.hok.fresh nw) ne (two_upd (tk := tk) I e kp nw (exoT_ok ha) (exd_ok hn (relO_put (fs := []) ry fun _ => True.intro)) ⟨_, ha⟩)
/-- .. a further one -/
theorem ostT_old (T : OexC X.K C) (I : Inv X pins σ H s) (e : H a = some (exoT a C (some dx) t1)) (ed : H dx = some (exd dx fs)) (hl : fs.length ≤ 900) (hno : PySem.W.findIn X.K (.ref C) f = some none) (ry : RelV y u)
    (h : ∀ s1, Inv X pins σ (upd H dx (exd dx ((f, y) :: fs))) s1 → Q () s1) : wpAny (model X.prog X.w) A (setAttr (.ref a) f u) Q E s := by
  obtain ⟨cd, c1, c2, c3⟩ := cls_of T
  have ho := exoT_at I.hok e
  obtain ⟨mA, hns, rel⟩ := exd_at I.hok ed
  have hw := within_of rel
  obtain ⟨hp, g, d, t, os⟩ := s
  obtain ⟨oD, _, _, hoD, _, _⟩ := hns.count hw
  have hz : (fs.map (·.1)).length ≤ 1000 := by rw [List.length_map]; omega
  refine PySem.W.set_plain I.kIn (ox := errO C (some dx) t1) (od := some oD) ⟨ho, rfl, rfl, hoD⟩ T.sa (PySem.OEX.osa_old I.kIn ho hns hw hz c1 c2 c3 hno fun h2 tk kp hn => ?_)
  obtain ⟨o2, _, _, e2, _⟩ := id hn
  exact h _ (I.write (t' := tk) (x := dx) (e := dx) (o := exd dx ((f, y) :: fs)) (by rw [ed]; exact True.intro) (.inl rfl) kp ⟨o2, e2⟩ (exd_ok hn (relO_put ry rel)))
end
section
variable {prog : Program} {w : World} {A : Around} {R : Result → Shared → Prop} {h : Heap} {g : Array GenState} {d : Drawn} {t : Nat} {os : OsState}
variable {nm q : Str} {C N : Addr} {bs bm bmB : List Value} {hdct : Bool} {sn : List Str} {sub : List Value} {ab : Bool} {col : Option Bool} {dd : Option Addr} {k0 k1 k2 k3 k5 : Option Value} {B newId initId : String}
/-- Base.__init__(e, ..) of a built-in class: the new args are these -/
theorem init_args (F : ExcBaseFacts B newId initId bmB) (hT : ∀ Y : String, bm.contains (.type Y) = bmB.contains (.type Y)) {e t0 : Addr} {rest : List Value} (hrest : rest.length ≤ sizeLine) (he : h.get? e = some (errO C none t0))
    (hC : h.get? C = some (excClassObj nm q C N bs bm hdct sn sub ab col dd k0 k1 k2 k3 k5 newId))
    (hq : ∀ h2, (∀ b o, b ≠ e → h.get? b = some o → h2.get? b = some o) → h2.get? e = some (errO C none h.objs.size) → h2.get? h.objs.size = some { cls := .type "tuple", data := .seq rest.toArray } → R (.ok (.ret .none)) ⟨h2, g, d, t, os⟩) :
    codeAny (model prog w) A (.call (.builtin initId) ⟨.ref e :: rest, []⟩) R ⟨h, g, d, t, os⟩ := by
  have lt := Heap.lt_size he
  refine codeAny_call_builtin F.init.plain F.initEntry (PySem.HandSPX.check_init_own F hT hC he rfl ?_)
  wp_walk
  have pu : ∀ b o, h.get? b = some o → (h.push { cls := .type "tuple", data := .seq rest.toArray }).get? b = some o := fun b o z => Heap.get?_push_of_some _ z
  refine hq _ ?_ ?_ ?_
  · intro b o hb ho
    rw [Heap.get?_update_other _ _ (Ne.symm hb)]
    exact pu b o ho
  · rw [Heap.get?_update_self _ (pu _ _ he) rfl]
    rfl
  · rw [Heap.get?_update_other _ _ (Nat.ne_of_lt lt)]
    exact Heap.get?_push_size _ rfl
end
/-- Base.__init__(self, text): the args are known -/
theorem oinitT {X : Cx} {pins : List (Addr × Obj)} {σ : L2.St} {H : Hp} {s : Shared} {a C : Addr} {x : V} {u : Value} {A : Around} {E : Value → Shared → Prop} {Q : Value → Shared → Prop} (T : OexC X.K C) (I : Inv X pins σ H s) (e : H a = some (exo a C none)) (r : RelV x u)
    (h : ∀ n s1, H n = none → n ≠ a → Inv X pins σ (upd (upd H n (.tup [x])) a (exoT a C none n)) s1 → Q .none s1) : wpAny (model X.prog X.w) A (call (.builtin "ValueError.__init__") [.ref a, u]) Q E s := by
  obtain ⟨nm, qn, N, bs, bm, sn, sub, ab, col, dd, k0, k1, k2, k3, k5, hC, hm⟩ := T.cls
  obtain ⟨t0, ho⟩ := exo_at I.hok e
  obtain ⟨hp, g, d, t, os⟩ := s
  refine wpAny_call (init_args (rest := [u]) F.excBase_ValueError (fun Y => PySem.HandSPX.refsVE_contains Y bm hm) (by show 1 ≤ sizeLine; decide) ho (I.kIn _ _ hC) fun h2 kp ha ht => ?_)
  have nw : hp.objs.size ≤ hp.objs.size := Nat.le_refl _
  refine h hp.objs.size _ (I.hok.fresh nw) (fun z => absurd (Heap.lt_size ho) (by rw [z]; exact Nat.lt_irrefl _)) (two_upd (tk := t) I e kp nw (exoT_ok ha) ?_ ⟨_, ha⟩)
  exact ⟨by show 1 ≤ sizeLine; decide, [u], .cons r .nil, ⟨_, ht, rfl, _, rfl⟩⟩
/-! ### the rules of an __init__ that tells its base a text, then keeps fields -/
def tVeT (K : PySem.W.Frag) (ta : TA) : TE := fun σ H Q => ta σ H fun vs H1 => ∃ (a C : Addr) (x : V), vs = [.ref a, x] ∧ OexC K C ∧ H1 a = some (exo a C none) ∧ ∀ n, H1 n = none → n ≠ a → Q .non (upd (upd H1 n (.tup [x])) a (exoT a C none n))
def tOstT (K : PySem.W.Frag) (f : Str) (to te : TE) : TS := fun D σ H => te σ H fun y H1 => to σ H1 fun x H2 => ∃ a C t1 : Addr, x = .ref a ∧ OexC K C ∧ PySem.W.findIn K (.ref C) f = some none ∧
  ((H2 a = some (exoT a C none t1) ∧ ∀ n, H2 n = none → n ≠ a → D.nx σ (upd (upd H2 n (exd n [(f, y)])) a (exoT a C (some n) t1))) ∨
    ∃ (dx : Addr) (fs : List (Str × V)), H2 a = some (exoT a C (some dx) t1) ∧ H2 dx = some (exd dx fs) ∧ fs.length ≤ 900 ∧ D.nx σ (upd H2 dx (exd dx ((f, y) :: fs))))
theorem pe_feinitT {X : Cx} {x : Str} {CF : Addr} {e : Expr} {es : List Expr} {ta : TA} {p1 p2 pos : Pos} {pl : Sem Bool} (hm : X.mg x = some (.ref CF)) (B : BaseC X.K CF) (ha : PA X (e :: es) ta) (hg : Gl X x := by rfl) (hdb : (x == ("__debug__" : Str)) = false := by decide)
    (hc : eval (.Call (.Attribute (.Name x p1) "__init__" p2) (e :: es) [] pos) X.env = (do
      let ov ← eval (.Name x p1) X.env
      standAt p2.atName
      let (f, first) ← holding [ov] (getMethod ov "__init__" pl)
      callWith pos f first (backTo pos (starEach (e :: es) X.env)) (backToKw pos (keywordEach [] X.env))) := by rfl)
    (he : starEach (e :: es) X.env = (false, eval e X.env) :: starEach es X.env := by rfl) (hpl : (backTo pos (starEach es X.env)).any (·.1) = false := by rfl) :
    PE X (.Call (.Attribute (.Name x p1) "__init__" p2) (e :: es) [] pos) (tVeT X.K ta) := by
  refine ⟨fun pins s σ H Q I h => PySem.W.methodCall_KW (ld_glob I hg hm ?_ hdb) hc⟩
  obtain ⟨m, fr⟩ := I.fr
  refine PySem.W.method_of_cls fr I.ok.mod.kin B.ga (PySem.W.cls_val fr I.ok.mod.kin B.ty B.rd B.fi (by decide +kernel) ?_)
  show wpAny _ _ (callWith pos (Value.builtin "ValueError.__init__") [] (backTo pos (starEach (e :: es) X.env)) []) _ _ _
  refine PyProof.Rows.callWith_method1 (thn (ha.run pos pins _ σ H _ (I.tok _) h) fun us s1 hh => ?_) he hpl
  obtain ⟨vs, H1, I1, r1, a, C, y, rfl, T, ea, q⟩ := hh
  cases r1 with
  | @cons _ u0 _ ur ra rr =>
    cases rr with
    | @cons _ u1 _ ur2 r2 rr2 =>
      cases rr2
      obtain rfl : u0 = Value.ref a := ra
      exact oinitT T I1 ea r2 fun n s2 hn na J => ⟨.non, _, J, rfl, q n hn na⟩
theorem ps_ostT {X : Cx} {o e : Expr} {to te : TE} {f : Str} {p pos : Pos} (ho : PE X o to) (he : PE X e te) (hs : swapsWith e (some (.Attribute o f p)) pos.line X.env = pure false := by rfl) : PS X (.Assign [.Attribute o f p] e pos) (tOstT X.K f to te) := by
  constructor
  intro pins s σ H D I h
  refine plainObj_wpAny_Assign_Attribute (thn (he.run pins s σ H _ I h) fun v s1 hv => ?_) hs
  obtain ⟨y, H1, I1, ry, q1⟩ := hv
  refine thn (ho.run pins s1 σ H1 _ I1 q1) fun u s2 hu => ?_
  obtain ⟨x, H2, I2, rx, a, C, t1, rfl, T, hno, q⟩ := hu
  obtain rfl : u = Value.ref a := rx
  rcases q with ⟨ea, q⟩ | ⟨dx, fs, ea, ed, hl, q⟩
  · exact ostT_new T I2 ea hno ry fun n s3 hn na J => ⟨σ, _, J, q n hn na⟩
  · exact ostT_old T I2 ea ed hl hno ry fun s3 J => ⟨σ, _, J, q⟩
/-- C(e, ..): its own __init__ leaves args and dict told -/
def tMkT (C : Addr) (sp : Sp) (ta : TA) : L2.St → Hp → XK → Prop := fun σ H Q => ta σ H fun vs H1 => vs.length ≤ 1000 ∧ ∀ a, H1 a = none → sp (.ref a :: vs) (upd H1 a (exo a C none))
  (fun v H2 => v = .non ∧ ∃ (d t1 : Addr) (fs : List (Str × V)), H2 a = some (exoT a C (some d) t1) ∧ H2 d = some (exd d fs) ∧ H1 d = none ∧ ArgT (some d) t1 (upd (del H2 a) d (.xd fs)) ∧ Q (.ref C) (some d) (upd (del H2 a) d (.xd fs))) (fun _ _ _ => False)
theorem mkT_end {X : Cx} {pins : List (Addr × Obj)} {σ : L2.St} {H1 H2 : Hp} {hp hp2 h2 : Heap} {g1 g2 : Array GenState} {d1 d2 : Drawn} {k1 k2 : Nat} {os1 os2 : OsState} {a C d t1 : Addr} {fs : List (Str × V)} (I1 : Inv X pins σ H1 ⟨hp, g1, d1, k1, os1⟩)
    (ha : hp.objs.size ≤ a) (kp : ∀ b o, hp.get? b = some o → hp2.get? b = some o) (un : Un (frs X.stack) [] (upd H1 a (exo a C none)) H2 hp2 h2) (hok : HOk X.prog X.w H2 h2) (ho : os2 = os1) (hb : AllBare g2)
    (ea : H2 a = some (exoT a C (some d) t1)) (ed : H2 d = some (exd d fs)) (hd1 : H1 d = none) (na : d ≠ a) :
    ∃ G : Heap, Inv X pins σ (upd (del H2 a) d (.xd fs)) ⟨G, g2, d2, k2, os2⟩ ∧ (∀ b o, G.get? b = some o → h2.get? b = some o) ∧ G.get? a = none ∧ h2.get? a = some (errO C (some d) t1) ∧ (upd (del H2 a) d (.xd fs)) a = none := by
  have hea := exoT_at hok ea
  have ne : ∀ {b : Addr} {o : HO}, upd H1 a (exo a C none) b = some o → (∀ p, o ≠ .ext p) → b ≠ a := fun {b o} e n z => by
    rw [z, upd_same] at e
    exact n _ (Option.some.inj e).symm
  have un2 : Un (frs X.stack) [] (upd H1 a (exo a C none)) (upd H2 a (exo a C (some d))) hp2 h2 := by
    refine ⟨un.keep, un.slot, fun b o e n hx => ?_, un.there, fun b xs e => ?_, fun b o v e => ?_, fun b ps e => ?_⟩
    · rw [upd_ne (fun z => by rw [z, upd_same] at n; cases n)]
      exact un.free b o e n hx
    · rw [upd_ne (ne e fun _ z => by cases z)]
      exact un.tups b xs e
    · rw [upd_ne (ne e fun _ z => by cases z)]
      exact un.frzs b o v e
    · rw [upd_ne (ne e fun _ z => by cases z)]
      exact un.tbls b ps e
  have hok2 : HOk X.prog X.w (upd H2 a (exo a C (some d))) h2 := fun b o e => by
    by_cases z : b = a
    · subst z
      rw [upd_same] at e
      cases e
      exact exo_ok hea
    · rw [upd_ne z] at e
      have other : ∀ {c : Addr} {v : HO}, H2 c = some v → (∀ p, v ≠ .ext p) → upd H2 a (exo a C (some d)) c = some v := fun {c v} hc n => by
        rw [upd_ne (fun y => by rw [y, ea] at hc; exact n _ (Option.some.inj hc).symm)]
        exact hc
      exact (hok b o e).stay (fun _ _ _ y => y) (fun c hc => other hc fun _ z => by cases z) (fun c xs hc => other hc fun _ z => by cases z)
  have e4 : del (upd H2 a (exo a C (some d))) a = del H2 a := by
    funext b
    by_cases z : b = a
    · rw [z, del_same, del_same]
    · rw [del_ne z, del_ne z, upd_ne z]
  obtain ⟨t0, G, J, kG, ge, _, nn⟩ := mk_end0 (d2 := d2) (t2 := k2) I1 ha kp un2 hok2 ho hb upd_same (by rw [upd_ne na]; exact ed) hd1
  rw [e4] at J nn
  exact ⟨G, J, kG, ge, hea, nn⟩
theorem pmk_T {X : Cx} {CXx : CXT} {x : Str} {C fI : Addr} {k : Nat} {fd : FuncData} {ps : List Str} {sp : Sp} {e : Expr} {es : List Expr} {ta : TA} {p pos : Pos} (T : OexC X.K C) (iC : PySem.W.findIn X.K (.ref C) "__init__" = some (some (.ref fI))) (tI : PySem.W.typeIn X.K (.ref fI) = some (.type "function"))
    (F1 : FnOk X.prog X.w X.K X.mg X.base CXx k fI fd ps sp) (hr : Room (k + 1) X.A) (hb : Binds X.K fd ps []) (hx : Passes CXx X (fun _ _ _ => False)) (hg : Gl X x) (hm : X.mg x = some (.ref C)) (ha : PA X (e :: es) ta)
    (hdb : (x == ("__debug__" : Str)) = false := by decide) (he : starEach (e :: es) X.env = (false, eval e X.env) :: starEach es X.env := by rfl) (hpl : (backTo pos (starEach es X.env)).any (·.1) = false := by rfl) :
    PMka X (.Call (.Name x p) (e :: es) [] pos) (tMkT C sp ta) := by
  intro pins s σ H Q I h
  obtain ⟨nm, qn, N, bs, bm, sn, sub, ab, col, dd, k0, k1, k2, k3, k5, hC, hbm⟩ := T.cls
  refine wpAny_Call_Name_kw (ld_glob I hg hm ?_ hdb)
  refine PySem.W.callWith_K (h₀ := X.base) I.ok.mod.kin T.kC (thn (ha.run pos pins s σ H _ I h) fun us s1 hh => ?_) he hpl
  obtain ⟨vs, H1, I1, r1, hz, q1⟩ := hh
  refine ⟨I1.kIn, ?_⟩
  show wpAny _ _ (call (.ref C) us) _ _ _
  obtain ⟨hp, g, dr, tk, os⟩ := s1
  have up1 : hp.objs.size ≤ hp.objs.size + 1 := Nat.le_add_right _ 1
  have hq := q1 (hp.objs.size + 1) (I1.hok.fresh up1)
  generalize hh2 : (hp.push (PySem.W.kdv_tup us)).push (PySem.HandSPX.excO C hp.objs.size) = hp2
  have kk : ∀ b o, hp.get? b = some o → hp2.get? b = some o := fun b o z => by rw [← hh2]; exact Heap.get?_push_of_some _ (Heap.get?_push_of_some _ z)
  have new : hp2.get? (hp.objs.size + 1) = some (PySem.HandSPX.excO C hp.objs.size) := by rw [← hh2]; heap_get
  have I2 : Inv X pins σ (upd H1 (hp.objs.size + 1) (exo (hp.objs.size + 1) C none)) ⟨hp2, g, dr, tk, os⟩ := I1.laid (t' := tk) kk up1 (exo_ok new)
  have r2 : Vals (V.ref (hp.objs.size + 1) :: vs) (Value.ref (hp.objs.size + 1) :: us) := .cons rfl r1
  have hl : (Value.ref (hp.objs.size + 1) :: us).length = ps.length := by rw [← r2.length]; exact F1.len _ _ _ _ hq
  have hus : us.length ≤ sizeLine := by rw [← Paired.length r1, sizeLine_eq]; omega
  have bd := hb ⟨hp2, g, dr, tk, os⟩ (Value.ref (hp.objs.size + 1) :: us) I2.kIn (by rw [List.append_nil]; exact hl)
  rw [List.append_nil] at bd
  refine wpAny_call (PySem.HandSPX.call_own F.excBase_ValueError (fun Y => PySem.HandSPX.refsVE_contains Y bm hbm) (I1.kIn _ _ hC) (PySem.W.looks_findIn I1.kIn iC) (fun self => PySem.W.bind_fn I1.kIn self tI) hus ?_)
  rw [hh2]
  refine codeAny_mono (F1.run _ X.stack _ _ ⟨Value.ref (hp.objs.size + 1) :: us, []⟩ _ _ _ (fun _ _ _ => False) (hr.make C us []) (I2.env0.make C us []) bd r2 hq) fun r s2 hs2 => ?_
  cases r with
  | error er => exact hx pins σ _ _ er s2 I2 hs2
  | ok fl =>
    cases fl with
    | next => exact False.elim hs2
    | brk => exact False.elim hs2
    | cont => exact False.elim hs2
    | ret u =>
      obtain ⟨v, H2, os2, bare2, un2, hok2, rv, ev, d, t1, fs, ea, ed, hd1, ar, q2⟩ := hs2
      subst ev
      obtain ⟨h2, g2, d2, t2, os3⟩ := s2
      have na : d ≠ hp.objs.size + 1 := fun z => by
        rw [z, ea] at ed
        have hh := exoT_at hok2 ea
        obtain ⟨mA, ⟨o, es, ep, e1, e2, _⟩, _⟩ := exd_at (dx := hp.objs.size + 1) hok2 (by rw [ea, ed, ← z])
        rw [hh] at e1
        cases e1
        cases e2
      obtain ⟨G, J, kG, ge, hea, nn⟩ := mkT_end (d2 := d2) (k2 := t2) I1 up1 kk un2 hok2 os2 bare2 ea ed hd1 na
      exact ⟨rv, _, t1, _, _, ⟨G, g2, d2, t2, os3⟩, _, .ref C, some d, rfl, J, ⟨kG, ge, hea⟩, ⟨⟨rfl, rfl⟩, fun fv z => by cases z; rfl⟩, ⟨rfl, rfl⟩, nn, ⟨rfl, bare2⟩, raises_own T.exC T.tyC, ar, q2⟩
/-! ### TextError's __init__ -/
/-- what is tracked behind it -/
def madeT (H : Hp) (a C n dx : Addr) (p : Int) (m : Str) : Hp :=
  upd (upd (upd (upd (upd H n (.tup [.str (m ++ " at " ++ numS p)])) a (exoT a C none n)) dx (exd dx [("place", .int p)])) a (exoT a C (some dx) n)) dx (exd dx [("message", .str m), ("place", .int p)])
def spTT (K : PySem.W.Frag) : Sp := fun vs H Q _ => ∃ (a C : Addr) (p : Int) (m : Str), vs = [.ref a, .int p, .str m] ∧ OexC K C ∧ PySem.W.findIn K (.ref C) "place" = some none ∧ PySem.W.findIn K (.ref C) "message" = some none ∧ (0 ≤ p ∧ p ≤ 100000) ∧ m.length ≤ 1000 ∧
  H a = some (exo a C none) ∧ ∀ n dx, H n = none → n ≠ a → H dx = none → dx ≠ a → dx ≠ n → Q .non (madeT H a C n dx p m)
theorem has_ofT {P : Program} {w : World} {K : PySem.W.Frag} {mg : Str → Option Value} {base : Heap} {cn qual : Str} {st : Stmt} {N ps : List Str} {k : Nat} (Df : EiniAt K mg cn qual st ps) (S : FnScope N ps (defScope st)) (hl : ps.length = 3)
    (hbody : ∀ (f : Addr) (cdv : Value) (A : Around) (outer : List PySem.Env) (s : Shared) (H : Hp) (E : XK), Room k (A.deeper (PyProof.Rows.envOfC qual (defScope st) s.heap.objs.size f cdv)) →
      ∃ t, PSs (cxOf CX0 P w K mg base N qual (defScope st) f cdv A outer s H E).nox (defBody st) t ∧ ∀ vs Q, spTT K vs H Q E → t { nx := fun _ H' => Q .non H', rt := Q } (start N vs) H) :
    HasE P w K mg base (k + 1) cn ps (spTT K) := by
  obtain ⟨f, fd, a, b, c, F, e⟩ := Df
  refine ⟨f, fd, a, b, c, F.ok S ?_ ?_, e⟩
  · rintro vs H Q E ⟨_, _, _, _, rfl, _⟩
    exact hl.symm
  · intro cdv A outer s H vs Q E hr h
    obtain ⟨t, h1, h2⟩ := hbody f cdv A outer s H E hr
    exact ⟨t, h1, h2 vs Q h⟩
def tRaiseA (K : PySem.W.Frag) (C : Addr) (W : WX) (ta : TA) : TS := fun _ σ H => tMkT C (spTT K) ta σ H fun cls d H' => W cls d σ H'
theorem ps_rsA {X : Cx} {W : WX} {x : Str} {ps : List Str} {k : Nat} {e : Expr} {es : List Expr} {ta : TA} {p pos pos2 : Pos} (h : HasE X.prog X.w X.K X.mg X.base k x ps (spTT X.K)) (hr : Room (k + 1) X.A) (tk : TakesA X W) (ha : PA X (e :: es) ta) (hc : X.calm = true := by rfl) (hg : Gl X x := by rfl)
    (hdb : (x == ("__debug__" : Str)) = false := by decide) (he : starEach (e :: es) X.env = (false, eval e X.env) :: starEach es X.env := by rfl) (hpl : (backTo pos (starEach es X.env)).any (·.1) = false := by rfl) :
    PS X (.Raise (some (.Call (.Name x p) (e :: es) [] pos)) none pos2) (tRaiseA X.K (clsAd X.mg x) W ta) := by
  obtain ⟨f, fd, T, iC, tI, F, hm, hb, _⟩ := h
  exact ps_raiseA tk (pmk_T T iC tI F hr hb pass0 hg hm ha hdb he hpl) hc
theorem ws_raiseA {P : Program} {w : World} {base : Heap} {k : Nat} {ps : List Str} {K : PySem.W.Frag} {mg : Str → Option Value} {x : Str} {B0 : Gr} {W : WX} {ta : TA} {E : EnvD} {C : CH} {D1 : EndD} {PX : Exn → CH → Prop} (h0 : HasE P w K mg base k x ps (spTT K)) (hX : XOk mg B0 (WE W) E PX)
    (h : WA B0 ta E C fun ds C1 => ∃ (p : Int) (m : Str), ds = [.int p, .str m] ∧ (0 ≤ p ∧ p ≤ 100000) ∧ m.length ≤ 1000 ∧ PX (.fld x [("message", .str m), ("place", .int p)]) C1) : WS B0 (tRaiseA K (clsAd mg x) W ta) E C D1 := fun B F σ H sb rl re Dn _ =>
  h B F σ H sb rl re _ fun vs ds B1 C1 H1 e1 rl1 rp ⟨p, m, hd, hp, hm, px⟩ => by
    subst hd
    obtain ⟨f, fd, T, iC, tI, F1, hg, hb, n1, n2⟩ := h0
    cases rp with
    | cons r1 rp =>
    cases rp with
    | cons r2 rp =>
    cases rp
    cases r1
    cases r2
    refine ⟨by simp, fun a ha => ⟨a, clsAd mg x, p, m, rfl, T, n1, n2, hp, hm, upd_same, fun n dx hn na hdx nd ne => ⟨rfl, dx, n, _, ?_, upd_same, ?_, ?_, ?_⟩⟩⟩
    · unfold madeT
      rw [upd_ne (Ne.symm nd), upd_same]
    · rw [upd_ne nd] at hdx
      exact hdx
    · refine ⟨dx, p, m, rfl, upd_same, ?_⟩
      unfold madeT
      rw [upd_ne (Ne.symm ne), del_ne na, upd_ne (Ne.symm ne), upd_ne na, upd_ne (Ne.symm ne), upd_ne na, upd_same]
    · have hn1 : H1 n = none := by rw [upd_ne na] at hn; exact hn
      have hd1 : H1 dx = none := by rw [upd_ne nd] at hdx; exact hdx
      have eH : upd (del (madeT (upd H1 a (exo a (clsAd mg x) none)) a (clsAd mg x) n dx p m) a) dx (.xd [("message", .str m), ("place", .int p)]) = upd (upd H1 n (.tup [.str (m ++ " at " ++ numS p)])) dx (.xd [("message", .str m), ("place", .int p)]) := by
        unfold madeT
        funext b
        by_cases h1 : b = dx
        · rw [h1, upd_same, upd_same]
        · rw [upd_ne h1, upd_ne h1]
          by_cases h2 : b = a
          · rw [h2, del_same, upd_ne (Ne.symm na), ha]
          · rw [del_ne h2, upd_ne h1, upd_ne h2, upd_ne h1, upd_ne h2]
            by_cases h3 : b = n
            · rw [h3, upd_same, upd_same]
            · rw [upd_ne h3, upd_ne h3, upd_ne h2]
      rw [eH]
      have s1 := same_upd (o := .tup [.str (m ++ " at " ++ numS p)]) (rl1.noB hn1)
      have rl2 := rl1.new (o := .tup [.str (m ++ " at " ++ numS p)]) hn1
      have hd2 : upd H1 n (.tup [.str (m ++ " at " ++ numS p)]) dx = none := by rw [upd_ne ne]; exact hd1
      have s2 := same_upd (o := .xd [("message", .str m), ("place", .int p)]) (rl2.noB hd2)
      have e3 := e1.trans (s1.trans s2)
      exact hX _ F σ _ C1 (sb.trans e3) (rl2.new hd2) (re.mono e3) _ _ _ (.fld hg upd_same (.cons .str (.cons .int .nil))) px
/-! ### try: one clause, that takes it -/
structure AirA (X : Cx) (pn : List (Addr × Obj)) (τ : L2.St) (G : Hp) (a : Addr) (cls : Value) (d : Option Addr) (t1 : Addr) (B : Heap) (q s : Shared) : Prop where
  gnd : Gnd X B pn τ G q s
  fly : HandSPX.FlyingZ B (X.env :: X.outer) a (Za cls d t1) s.heap
  na : G a = none
def Ob1 (t1 : Addr) (ob : Obj) : Prop := ∃ fv : Array Value, ob.data = .fields fv ∧ fv[0]? = some (.ref t1)
section
variable {X : Cx} {pn : List (Addr × Obj)} {τ : L2.St} {G : Hp} {a : Addr} {cls : Value} {d : Option Addr} {t1 : Addr} {B : Heap} {q s : Shared}
theorem AirA.now (x : AirA X pn τ G a cls d t1 B q s) : Inv X pn τ G s := x.gnd.inv.landed x.gnd.low x.fly.1 x.gnd.up x.gnd.os x.gnd.ag
theorem AirA.moved (x : AirA X pn τ G a cls d t1 B q s) {h : Heap} (f : HandSPX.FlyingZ B (X.env :: X.outer) a (Za cls d t1) h) (u : s.heap.UpToSlots h) : AirA X pn τ G a cls d t1 B q { s with heap := h } :=
  ⟨⟨x.gnd.inv, x.gnd.low, x.gnd.up.trans u, x.gnd.os, x.gnd.ag⟩, f, x.na⟩
theorem AirA.inSuite (x : AirA X pn τ G a cls d t1 B q s) (hf : X.env.frame = some X.env.locals) : ∃ ob, Zc cls d ob ∧ Ob1 t1 ob ∧ s.heap.get? a = some ob ∧ Inv (X.suite a ((a, ob) :: (X.pn ++ pn))) [] τ G s := by
  obtain ⟨ob, fv, at_, z, dat⟩ := x.fly.there
  have out : a ∉ frs (X.env :: X.outer) := fun hm => by
    obtain ⟨_, o2, e2, nf⟩ := x.fly.2.2.1.mem hm
    obtain rfl := Option.some.inj (at_.symm.trans e2)
    exact nf _ dat
  have apart : a ≠ X.env.locals ∧ a ∉ X.fs := by
    constructor
    · rintro rfl
      exact out (List.mem_filterMap.mpr ⟨X.env, List.mem_cons_self, hf⟩)
    · intro hm
      obtain ⟨e, he, y⟩ := List.mem_filterMap.mp hm
      exact out (List.mem_filterMap.mpr ⟨e, List.mem_cons_of_mem _ he, y⟩)
  exact ⟨ob, z.1, ⟨fv, dat, z.2 fv dat⟩, at_, x.now.suite at_ dat x.na apart.1 apart.2⟩
end
/-- what is wished of an error by the one clause -/
def wishT (K : PySem.W.Frag) (c : Value) (i : Nat) (ts : Addr → Value → Option Addr → Addr → TS) (Dn : Ends) : WX := fun cls d τ G => PySem.W.exmOne K cls c = some true ∧ ∀ a t1, G a = none → ArgT d t1 G → ts a cls d t1 (endO (some i) Dn) (τ.set i (some (.ref a))) G
def tTryT (K : PySem.W.Frag) (c : Value) (i : Nat) (tb : WX → TS) (ts : Addr → Value → Option Addr → Addr → TS) : TS := fun Dn τ G => tb (wishT K c i ts Dn) Dn τ G
theorem ps_tryT (K : PySem.W.Frag) {X : Cx} {body : List Stmt} {x n : Str} {c : Value} {i : Nat} {ts : Addr → Value → Option Addr → Addr → TS} {b1 : Stmt} {su : List Stmt} {np p1 pos : Pos} {tb : WX → TS} (hs : X.stack = X.env :: X.outer) (hf : X.env.frame = some X.env.locals) (hN : X.N.Nodup)
    (hi : X.N[i]? = some n) (hl : X.env.kindOf n = some .local) (hc : Names X x c)
    (hb : ∀ (W : WX) (pn : List (Addr × Obj)) (xe : Value → Shared → Prop), TakesA (X.tr pn xe) W → PSs (X.tr pn xe) body (tb W))
    (hsu : ∀ (a : Addr) (ob : Obj) (cls : Value) (d : Option Addr) (t1 : Addr) (pn : List (Addr × Obj)), Zc cls d ob → Ob1 t1 ob → PSs (X.suite a ((a, ob) :: pn)) (b1 :: su) (ts a cls d t1)) (hK : X.K = K := by rfl) :
    PS X (.Try body [.ExceptHandler (some (.Name x np)) (some n) (b1 :: su) p1] [] [] pos) (tTryT K c i tb ts) := by
  subst hK
  refine ⟨fun pn s τ G Dn I h => wpAny_Try_except ?_⟩
  have ok := I.ok
  have fr : X.A.frames = some (X.env :: X.outer) := by rw [ok.frames, hs]
  refine wpAny_mono ((hb (wishT X.K c i ts Dn) (X.pn ++ pn) (fun e s1 => wpAny (model X.prog X.w) X.A (noteFrame e X.env) (fun _ s2 => wpAny (model X.prog X.w) X.A (setFlight e none) (fun _ s3 =>
    wpAny (model X.prog X.w) X.A (handleBy e X.env [.ExceptHandler (some (.Name x np)) (some n) (b1 :: su) p1]) (SP X pn Dn) X.xe s3) X.xe s2) X.xe s1) fun u s1 z => ?_).run [] s τ G Dn (I.toTry _) h) (fun f s1 z => ?_) fun _ _ z => z
  · obtain ⟨a, B, q, pn2, t2, G2, cls, d, t1, rfl, g, sky, na, ar, w1, w2⟩ := z
    have sky2 : Sky B (X.env :: X.outer) a (Za cls d t1) X.env.locals s1.heap := hs ▸ sky
    refine skyA_land za_steady fr hf sky2 fun h fl u => ?_
    have air : AirA X pn t2 G2 a cls d t1 B q { s1 with heap := h } := ⟨⟨g.inv.ofTry ok, g.low, g.up.trans u, g.os, g.ag⟩, fl, na⟩
    obtain ⟨ob0, z0, o0, at0, S0⟩ := air.inSuite hf
    have look : PySem.W.Looks (model X.prog X.w) h (typeOf (.ref a)) cls := fun _ _ _ _ kk y => wpAny_typeOf_ref (kk _ _ at0) (by rw [z0.1]; exact y)
    have says := PySem.W.exm_one (M := model X.prog X.w) air.now.kIn look w1
    refine wpAny_handleBy_cons (codeAny_handlers_test ?_) (fun y => by cases y)
    have test : ∀ {Q : Bool → Shared → Prop} {Ex : Value → Shared → Prop}, Q true { s1 with heap := h } → wpAny (model X.prog X.w) (X.A.mark (some (.ref a))) (eval (.Name x np) X.env) (fun v s2 => wpAny (model X.prog X.w) (X.A.mark (some (.ref a))) (excMatches (.ref a) v) Q Ex s2) Ex { s1 with heap := h } := fun {Q Ex} k => by
      obtain ⟨g1, g2, g3 | ⟨g3, g4, g5⟩⟩ := hc
      · exact ld_glob S0 g1 g3 (says.here k) g2
      · exact ld_blt S0 g1 g3 g4 (says.here k) g5 g2
    refine test ?_
    refine codeAny_handlers_suite_as (HandSPX.lands_againZ air.fly fun h3 fl3 u3 => ?_)
    obtain ⟨ob, z1, o1, _, S⟩ := (air.moved fl3 u3).inSuite hf
    refine store_ok (X := X.suite a ((a, ob) :: (X.pn ++ pn))) (v := .ref a) S hN hi (.inl hl) rfl (fun s5 S5 => ?_) (.inr hl)
    exact wpAny_mono ((hsu a ob cls d t1 (X.pn ++ pn) z1 o1).run [] s5 _ G2 _ S5 (w2 a t1 na ar)) (fun f s6 e => endO_some ok hN hi hl e) fun _ _ y => y.elim
  · cases f with
    | next => obtain ⟨t1, G1, J, k⟩ := z; exact wpAny_execs_nil ⟨t1, G1, J.ofTry ok, k⟩
    | brk => obtain ⟨t1, G1, J, k⟩ := z; exact ⟨t1, G1, J.ofTry ok, k⟩
    | cont => obtain ⟨t1, G1, J, k⟩ := z; exact ⟨t1, G1, J.ofTry ok, k⟩
    | ret u => obtain ⟨v, t1, G1, J, r, k⟩ := z; exact ⟨v, t1, G1, J.ofTry ok, r, k⟩
/-! ### the suite: str(e) -/
structure StrC (K : PySem.W.Frag) (C : Addr) : Prop where
  st : PySem.W.findIn K (.ref C) "__str__" = some (some (.builtin "BaseException.__str__"))
  sb : PySem.W.subIn K (.ref C) (.type "BaseException") = some true
def rStrE (K : PySem.W.Frag) (a : Addr) (cls : Value) (t1 : Addr) : List V → Hp → VK → Prop := fun xs G Q => ∃ (C : Addr) (z : Str), xs = [.ref a] ∧ cls = .ref C ∧ StrC K C ∧ G t1 = some (.tup [.str z]) ∧ Q (.str z) G
theorem call_strE (K : PySem.W.Frag) {X : Cx} {a t1 : Addr} {cls : Value} {d : Option Addr} {ob : Obj} {pn : List (Addr × Obj)} (hz : Zc cls d ob) (ho : Ob1 t1 ob) (hu : X.A.units + 2 < cLine) (hK : X.K = K := by rfl) : CallR (X.suite a ((a, ob) :: pn)) (.type "str") (rStrE K a cls t1) := by
  subst hK
  rintro pins s σ H xs us Q I r ⟨C, z, rfl, rfl, hc, ht, q⟩
  cases r with
  | @cons _ u0 _ ur ra rr =>
    cases rr
    obtain rfl : u0 = Value.ref a := ra
    obtain ⟨fv, e1, e2⟩ := ho
    obtain ⟨hget, _⟩ := I.pin (a, ob) (List.mem_append.mpr (.inl List.mem_cons_self))
    have tp : ObjOk X.prog X.w H s.heap t1 (.tup [.str z]) := I.hok t1 _ ht
    obtain ⟨_, its, rv, ot, g1, g2, n, g3⟩ := tp
    cases rv with
    | @cons _ v _ vr rz rr2 =>
      cases rr2
      obtain ⟨tk, rfl⟩ := rz
      have fin : EP (X.suite a ((a, ob) :: pn)) pins σ Q (.str z tk) s := ⟨.str z, H, I, ⟨tk, rfl⟩, q⟩
      exact PySem.P.str_of_C_one (A := X.A.mark (some (.ref a))) (K := X.K) (e := a) hu ⟨I.kIn, ob, fv, hget, hz.1, e1, e2⟩ ⟨ot, n, g1, g2, g3⟩ hc.st hc.sb fin
theorem wc_strE {K : PySem.W.Frag} {B0 : Gr} {C : CH} {P : D → CH → Prop} {a De t1 : Addr} {z : Str} (hc : StrC K De) (ht : B0.b t1 = some (.tup [.str z]) ∨ B0.f t1 = some (.tup [.str z])) (k : P (.str z) C) : WC B0 (rStrE K a (.ref De) t1) [.ref a] C P := fun B F H ws sb rl rs Q q => by
  cases rs with
  | cons r1 rs =>
    cases rs
    cases r1
    refine ⟨De, z, rfl, rfl, hc, ?_, q _ _ B C H (Same.refl B) rl .str k⟩
    rcases ht with h | h
    · exact rl.ex _ _ (sb.1 _ _ h)
    · exact rl.fr _ _ (sb.2 _ _ h)
/-- try: one clause -/
theorem ws_tryT {K : PySem.W.Frag} {mg : Str → Option Value} {B0 : Gr} {c : Value} {i : Nat} {tb : WX → TS} {ts : Addr → Value → Option Addr → Addr → TS} {E : EnvD} {C : CH} {D1 : EndD} (PX : Exn → CH → Prop) (hb : ∀ (B1 : Gr) (W : WX), XOk mg B1 (WE W) E PX → WS B1 (tb W) E C D1)
    (hl : ∀ x C1, PX x C1 → ∃ (nm : Str) (p : Int) (m : Str), x = .fld nm [("message", .str m), ("place", .int p)] ∧ ∀ (B : Hp) (cls : Value) (d : Option Addr), ExnOk mg B x cls d → Same B0.b B →
      PySem.W.exmOne K cls c = some true ∧ ∀ (Ff : Hp) (a t1 : Addr), Same B0.f Ff → (B t1 = some (.tup [.str (m ++ " at " ++ numS p)]) ∨ Ff t1 = some (.tup [.str (m ++ " at " ++ numS p)])) → WS ⟨B, Ff⟩ (ts a cls d t1) (E.set i (some (.ref a))) C1 (endD (some i) D1)) :
    WS B0 (tTryT K c i tb ts) E C D1 := fun B F σ H sb rl re Dn ok => by
  refine hb ⟨B, F⟩ _ (fun B2 F2 σ2 H2 C2 sb2 rl2 re2 x cls d hx px => ?_) B F σ H (Sb.refl B F) rl re Dn ok
  obtain ⟨nm, p, m, rfl, hx2⟩ := hl x C2 px
  have r3 := rl2.less sb2.2
  refine ⟨(hx2 B2 cls d hx (sb.1.trans sb2.1)).1, fun a t1 na ar => ?_⟩
  obtain ⟨dd, p2, m2, ed, hd, ht⟩ := ar
  cases hx with
  | @fld _ _ ad vs _ hc ha r =>
    have ed := Option.some.inj ed
    subst ed
    have e2 := (rl2.ex _ _ ha).symm.trans hd
    injection e2 with e2
    injection e2 with e2
    subst e2
    cases r with
    | cons rm r =>
    cases r with
    | cons rp r =>
    cases r
    cases rm
    cases rp
    have fin : ∀ B3, Same B2 B3 → Rel B3 C2 F H2 → (B3 t1 = some (.tup [.str (m ++ " at " ++ numS p)]) ∨ F t1 = some (.tup [.str (m ++ " at " ++ numS p)])) → ts a cls (some ad) t1 (endO (some i) Dn) (σ2.set i (some (.ref a))) H2 := fun B3 s3 r4 hh => by
      have hx3 : ExnOk mg B3 (.fld nm [("message", .str m), ("place", .int p)]) cls (some ad) := .fld hc (s3 _ _ ha) (.cons .str (.cons .int .nil))
      have S := sb2.1.trans s3
      refine ((hx2 B3 cls (some ad) hx3 (sb.1.trans S)).2 F a t1 sb.2 hh) B3 F _ H2 ⟨Same.refl B3, Same.refl F⟩ r4 ((re2.mono s3).set i .ref) _ ⟨?_, ?_, ?_, ?_⟩
      · exact fun σ' E1 B' C' H' s rl' re' k => ok.nx _ _ B' C' H' (S.trans s) rl' (re'.unset i) k
      · exact fun v d B' C' H' s rl' rp k => ok.rt v d B' C' H' (S.trans s) rl' rp k
      · exact fun σ' E1 B' C' H' s rl' re' k => ok.bk _ _ B' C' H' (S.trans s) rl' (re'.unset i) k
      · exact fun σ' E1 B' C' H' s rl' re' k => ok.ct _ _ B' C' H' (S.trans s) rl' (re'.unset i) k
    cases hB : B2 t1 with
    | some o =>
      have := (rl2.ex _ _ hB).symm.trans ht
      refine fin B2 (Same.refl B2) r3 (.inl ?_)
      rw [hB, Option.some.inj this]
    | none =>
      cases hF : F t1 with
      | some o =>
        have := (r3.fr _ _ hF).symm.trans ht
        refine fin B2 (Same.refl B2) r3 (.inr ?_)
        rw [hF, Option.some.inj this]
      | none =>
        have s3 : Same B2 (upd B2 t1 (.tup [.str (m ++ " at " ++ numS p)])) := same_upd hB
        refine fin _ s3 ⟨fun b o q => ?_, r3.fr, fun b o q => ?_, r3.cf, fun b o q => ?_, fun b o q => ?_⟩ (.inl upd_same)
        · by_cases e : b = t1
          · rw [e, upd_same] at q
            rw [e, ht]
            exact q
          · rw [upd_ne e] at q
            exact r3.ex b o q
        · rw [upd_ne (fun e => by rw [e, hF] at q; cases q)]
          exact r3.bf b o q
        · have ne : b ≠ t1 := fun e => by
            rw [e] at q
            obtain ⟨o2, h1, h2⟩ := r3.own t1 o q
            rw [ht] at h1
            obtain rfl := Option.some.inj h1
            cases h2
          rw [upd_ne ne]
          exact r3.bc b o q
        · obtain ⟨o2, h1, h2⟩ := r3.own b o q
          exact ⟨o2, h1, h2.mono s3⟩
end Dv

set_option maxRecDepth 100000
set_option maxHeartbeats 2000000
/-! Defs, methods and makers that raise errors whose text is known. -/
namespace Dv
open PySem PySem.Spec PyProof.Rows L2
def HasA (P : Program) (w : World) (K : PySem.W.Frag) (mg : Str → Option Value) (base : Heap) (k : Nat) (x : Str) (ps : List Str) (sp : Sp) : Prop := ∃ f fd, FnOk P w K mg base (CXa P w) k f fd ps sp ∧ mg x = some (.ref f) ∧ PySem.W.keepIn K (.ref f) = true ∧ Binds K fd ps []
def HasMA (P : Program) (w : World) (K : PySem.W.Frag) (mg : Str → Option Value) (base : Heap) (k : Nat) (cn m : Str) (ps : List Str) (sp : Sp) : Prop := ∃ f fd, FnOk P w K mg base (CXa P w) k f fd ps sp ∧ Meth K (clsA mg cn) m f ∧ Binds K fd ps []
def HasIA (P : Program) (w : World) (K : PySem.W.Frag) (mg : Str → Option Value) (base : Heap) (k : Nat) (cn : Str) (ps : List Str) (sp : Sp) : Prop := ∃ f fd, FnOk P w K mg base (CXa P w) k f fd ps sp ∧ Mk K (clsA mg cn) f ∧ Binds K fd ps []
section
variable {P : Program} {w : World} {K : PySem.W.Frag} {mg : Str → Option Value} {base : Heap}
theorem HasA.mono {j k : Nat} {x : Str} {ps : List Str} {sp : Sp} (h : HasA P w K mg base j x ps sp) (l : j ≤ k) : HasA P w K mg base k x ps sp := h.elim fun f ⟨fd, a, b⟩ => ⟨f, fd, a.mono l, b⟩
theorem HasMA.mono {j k : Nat} {x m : Str} {ps : List Str} {sp : Sp} (h : HasMA P w K mg base j x m ps sp) (l : j ≤ k) : HasMA P w K mg base k x m ps sp := h.elim fun f ⟨fd, a, b⟩ => ⟨f, fd, a.mono l, b⟩
theorem HasIA.mono {j k : Nat} {x : Str} {ps : List Str} {sp : Sp} (h : HasIA P w K mg base j x ps sp) (l : j ≤ k) : HasIA P w K mg base k x ps sp := h.elim fun f ⟨fd, a, b⟩ => ⟨f, fd, a.mono l, b⟩
theorem fn_ofA {x qual : Str} {st : Stmt} {N ps : List Str} {k : Nat} {g : SpX} {f : Addr} {fd : FuncData} (F : Fun K x qual st f fd) (S : FnScope N ps (defScope st)) (len : ∀ ds C P PX, g ds C P PX → ds.length = ps.length)
    (hbody : ∀ (f : Addr) (cdv : Value) (A : Around) (outer : List PySem.Env) (s : Shared) (H : Hp) (E : XK), Room k (A.deeper (PyProof.Rows.envOfC qual (defScope st) s.heap.objs.size f cdv)) →
      ∃ t, PSs (cxOf (CXa P w) P w K mg base N qual (defScope st) f cdv A outer s H E) (defBody st) t ∧ ∀ (B : Gr) ds C PD PX, g ds C PD PX → XOkF mg B E PX → WS B t (startD N.length ds) C { nx := fun _ C' => PD .non C', rt := PD }) :
    FnOk P w K mg base (CXa P w) (k + 1) f fd ps (spX mg g) := by
  obtain ⟨oc, od, kV, doc, pm, an, cdv, ct, osl, rfl, lk, hcd⟩ := F.ex
  refine fn_of lk hcd S ?_ fun A outer s H vs Q E hr h => ?_
  · rintro vs H Q E ⟨B, F, C, ds, P, PX, _, rp, h, _⟩
    exact rp.length.trans (len _ _ _ _ h)
  · obtain ⟨t, h1, h2⟩ := hbody f cdv A outer s H E hr
    obtain ⟨B, F, C, ds, P, PX, rl, rp, hg, q, qx⟩ := h
    refine ⟨t, h1, h2 ⟨B, F⟩ ds C P PX hg (fun B' F' H' C' sb rl' x c d ok p => qx x c d B' C' H' sb.1 (rl'.less sb.2) ok p) B F _ H (Sb.refl B F) rl (RelE.begin rp) _ ⟨?_, ?_, ?_, ?_⟩⟩
    · exact fun σ' E' B' C' H' e rl' _ p => q .non .non B' C' H' e rl' .non p
    · exact fun v d B' C' H' e rl' rp' p => q v d B' C' H' e rl' rp' p
    · exact fun _ _ _ _ _ _ _ _ z => z
    · exact fun _ _ _ _ _ _ _ _ z => z
theorem has_ofA {x : Str} {st : Stmt} {N ps : List Str} {k : Nat} {g : SpX} (Df : DefAt K mg x st ps) (S : FnScope N ps (defScope st)) (len : ∀ ds C P PX, g ds C P PX → ds.length = ps.length)
    (hbody : ∀ (f : Addr) (cdv : Value) (A : Around) (outer : List PySem.Env) (s : Shared) (H : Hp) (E : XK), Room k (A.deeper (PyProof.Rows.envOfC x (defScope st) s.heap.objs.size f cdv)) →
      ∃ t, PSs (cxOf (CXa P w) P w K mg base N x (defScope st) f cdv A outer s H E) (defBody st) t ∧ ∀ (B : Gr) ds C PD PX, g ds C PD PX → XOkF mg B E PX → WS B t (startD N.length ds) C { nx := fun _ C' => PD .non C', rt := PD }) :
    HasA P w K mg base (k + 1) x ps (spX mg g) := by
  obtain ⟨f, fd, F, hm, hb⟩ := Df
  exact ⟨f, fd, fn_ofA F S len hbody, hm, F.kp, hb⟩
theorem has_ofMA {cn m qual : Str} {st : Stmt} {N ps : List Str} {k : Nat} {g : SpX} (Df : MetAt K mg cn m qual st ps) (S : FnScope N ps (defScope st)) (len : ∀ ds C P PX, g ds C P PX → ds.length = ps.length)
    (hbody : ∀ (f : Addr) (cdv : Value) (A : Around) (outer : List PySem.Env) (s : Shared) (H : Hp) (E : XK), Room k (A.deeper (PyProof.Rows.envOfC qual (defScope st) s.heap.objs.size f cdv)) →
      ∃ t, PSs (cxOf (CXa P w) P w K mg base N qual (defScope st) f cdv A outer s H E) (defBody st) t ∧ ∀ (B : Gr) ds C PD PX, g ds C PD PX → XOkF mg B E PX → WS B t (startD N.length ds) C { nx := fun _ C' => PD .non C', rt := PD }) :
    HasMA P w K mg base (k + 1) cn m ps (spX mg g) := by
  obtain ⟨f, fd, F, hm, hb⟩ := Df
  exact ⟨f, fd, fn_ofA F S len hbody, hm, hb⟩
theorem has_ofIA {cn qual : Str} {st : Stmt} {N ps : List Str} {k : Nat} {g : SpX} (Df : IniAt K mg cn qual st ps) (S : FnScope N ps (defScope st)) (len : ∀ ds C P PX, g ds C P PX → ds.length = ps.length)
    (hbody : ∀ (f : Addr) (cdv : Value) (A : Around) (outer : List PySem.Env) (s : Shared) (H : Hp) (E : XK), Room k (A.deeper (PyProof.Rows.envOfC qual (defScope st) s.heap.objs.size f cdv)) →
      ∃ t, PSs (cxOf (CXa P w) P w K mg base N qual (defScope st) f cdv A outer s H E) (defBody st) t ∧ ∀ (B : Gr) ds C PD PX, g ds C PD PX → XOkF mg B E PX → WS B t (startD N.length ds) C { nx := fun _ C' => PD .non C', rt := PD }) :
    HasIA P w K mg base (k + 1) cn ps (spX mg g) := by
  obtain ⟨f, fd, F, hm, hb⟩ := Df
  exact ⟨f, fd, fn_ofA F S len hbody, hm, hb⟩
theorem tkA_of {N : List Str} {x : Str} {sc : Scope} {f : Addr} {cdv : Value} {A : Around} {outer : List PySem.Env} {s : Shared} {H : Hp} {E : XK} : TakesA (cxOf (CXa P w) P w K mg base N x sc f cdv A outer s H E) (fun cls d _ G => E cls d G) := takesA_of rfl rfl rfl rfl
end
theorem passesA {X : Cx} {E : XK} (tk : TakesA X fun cls d _ G => E cls d G) : Passes (CXa X.prog X.w) X E := fun _ _ _ _ e s1 I c => tk e s1 (xea_call I (fun _ _ _ h => h) c)
section
variable {X : Cx} {x cn m : Str} {ps : List Str} {sp : Sp} {k : Nat} {p pos apos : Pos} {o e : Expr} {es : List Expr} {t : TA} {ta : TE} {pl : Sem Bool} {W : WX}
theorem pe_defA (h : HasA X.prog X.w X.K X.mg X.base k x ps sp) (hr : Room k X.A) (ha : PA X (e :: es) t) (tk : TakesA X W) (hg : Gl X x := by rfl) (hdb : (x == ("__debug__" : Str)) = false := by decide)
    (he : starEach (e :: es) X.env = (false, eval e X.env) :: starEach es X.env := by rfl) (hpl : (backTo pos (starEach es X.env)).any (·.1) = false := by rfl) : PE X (.Call (.Name x p) (e :: es) [] pos) (tCallS sp (WE W) t) := by
  obtain ⟨f, fd, F, hm, hk, hb⟩ := h
  exact pe_callS F hr hg hm hk hb (passA tk) ha hdb he hpl
theorem pe_mtA (mg : Str → Option Value) (h : HasMA X.prog X.w X.K X.mg X.base k cn m ps sp) (kc : Cls X.K (clsA X.mg cn)) (hr : Room k X.A) (he : PE X o ta) (ha : PA X (e :: es) t) (tk : TakesA X W)
    (hst : starEach (e :: es) X.env = (false, eval e X.env) :: starEach es X.env := by rfl) (hpl : (backTo pos (starEach es X.env)).any (·.1) = false := by rfl)
    (ht : eval (.Call (.Attribute o m apos) (e :: es) [] pos) X.env = (do
      let ov ← eval o X.env
      standAt apos.atName
      let (f, first) ← holding [ov] (getMethod ov m pl)
      callWith pos f first (backTo pos (starEach (e :: es) X.env)) (backToKw pos (keywordEach [] X.env))) := by rfl) (hmg : X.mg = mg := by rfl) :
    PE X (.Call (.Attribute o m apos) (e :: es) [] pos) (tMethX (clsA mg cn) m sp (WE W) ta t) := by
  subst hmg
  obtain ⟨f, fd, F, hm, hb⟩ := h
  refine ⟨fun pins s σ H Q I h => PySem.W.methodCall_KW (pl := pl) (thn (he.run pins s σ H _ I h) fun u s1 hu => ?_) ht⟩
  obtain ⟨x, H1, I1, rx, a, dx, fs, rfl, ea, l, q⟩ := hu
  obtain rfl : u = Value.ref a := rx
  refine getmeth_ok I1 ea kc hm l (PySem.W.callWith_K (first := [.ref a]) (h₀ := X.base) I1.ok.mod.kin hm.kp (thn (ha.run pos pins s1 σ H1 _ I1 q) fun us s2 hs2 => ?_) hst hpl)
  obtain ⟨vs, H2, I2, r, q2⟩ := hs2
  exact ⟨I2.kIn, run_fnS (us := .ref a :: us) (vs := .ref a :: vs) (E := WE W) F hr hb (passA tk σ) I2 (.cons rfl r) q2⟩
theorem pe_mtA0 (mg : Str → Option Value) (h : HasMA X.prog X.w X.K X.mg X.base k cn m ps sp) (kc : Cls X.K (clsA X.mg cn)) (hr : Room k X.A) (he : PE X o ta) (tk : TakesA X W)
    (ht : eval (.Call (.Attribute o m apos) [] [] pos) X.env = (do
      let ov ← eval o X.env
      standAt apos.atName
      let (f, first) ← holding [ov] (getMethod ov m pl)
      callWith pos f first (backTo pos (starEach [] X.env)) (backToKw pos (keywordEach [] X.env))) := by rfl) (hmg : X.mg = mg := by rfl) :
    PE X (.Call (.Attribute o m apos) [] [] pos) (tMethX (clsA mg cn) m sp (WE W) ta tNil) := by
  subst hmg
  obtain ⟨f, fd, F, hm, hb⟩ := h
  refine ⟨fun pins s σ H Q I h => PySem.W.methodCall_KW (pl := pl) (thn (he.run pins s σ H _ I h) fun u s1 hu => ?_) ht⟩
  obtain ⟨x, H1, I1, rx, a, dx, fs, rfl, ea, l, q⟩ := hu
  obtain rfl : u = Value.ref a := rx
  exact getmeth_ok I1 ea kc hm l (PySem.W.callWith_K0 (first := [.ref a]) I1.kIn hm.kp (run_fnS (us := [.ref a]) (vs := [.ref a]) (E := WE W) F hr hb (passA tk σ) I1 (.cons rfl .nil) q))
theorem pe_mkA (mg : Str → Option Value) {E : XK} (h : HasIA X.prog X.w X.K X.mg X.base k x ps sp) (kc : X.mg x = some (.ref (clsA X.mg x))) (hr : Room (k + 1) X.A) (ha : PA X (e :: es) t) (tk : TakesA X fun cls d _ G => E cls d G) (hg : Gl X x := by rfl)
    (hdb : (x == ("__debug__" : Str)) = false := by decide) (he : starEach (e :: es) X.env = (false, eval e X.env) :: starEach es X.env := by rfl) (hpl : (backTo pos (starEach es X.env)).any (·.1) = false := by rfl) (hmg : X.mg = mg := by rfl) :
    PE X (.Call (.Name x p) (e :: es) [] pos) (tMake (clsA mg x) sp [] E t) := by
  subst hmg
  obtain ⟨f, fd, F, hm, hb⟩ := h
  exact pe_make hm F hr hg kc hb .nil (passesA tk) ha hdb he hpl
end
/-- a maker that may raise -/
theorem w_makeX {mg : Str → Option Value} {B0 : Gr} {g : SpX} {c : Addr} {E' : XK} {t : TA} {E : EnvD} {C : CH} {P : D → CH → Prop} {PX : Exn → CH → Prop} (hX : XOkF mg B0 E' PX)
    (h : WA B0 t E C fun ds C1 => ∀ a, C1 a = none → g (.ref a :: ds) (updC C1 a (.ins c [])) (fun d C2 => d = .non ∧ P (.ref a) C2) PX) : W B0 (tMake c (spX mg g) [] E' t) E C P := fun B F σ H sb rl re Q q =>
  h B F σ H sb rl re _ fun vs ds B1 C1 H1 e1 rl1 rp1 p x dx nx nd ne => by
    have old : ∀ {b : Addr} {o : HO}, H1 b = some o → upd H1 dx (.own x) b = some o := fun e => by rw [upd_ne (ne_of_none e nd)]; exact e
    have rl2 : Rel B1 C1 F (upd H1 dx (.own x)) := ⟨fun b o e => old (rl1.ex b o e), fun b o e => old (rl1.fr b o e), rl1.bf, rl1.cf, rl1.bc, fun b c e => (rl1.own b c e).elim fun o ⟨g1, g2⟩ => ⟨o, old g1, g2⟩⟩
    have hx : upd H1 dx (.own x) x = none := by rw [upd_ne (Ne.symm ne)]; exact nx
    refine ⟨B1, F, _, _, _, PX, rl2.newC hx (c := .ins c []) (.ins .nil), by rw [List.append_nil]; exact .cons .ref rp1, p x (rl1.noC nx), fun v d B' C' H' e rl' rp ⟨hd, k⟩ => ?_, fun y c d B' C' H' e rl' ok px => hX B' F H' C' (sb.trans (e1.trans e)) rl' y c d ok px⟩
    subst hd
    cases rp
    exact ⟨rfl, q _ _ B' C' H' (e1.trans e) rl' .ref k⟩
/-- a test that is a if t else b -/
def tTIf (t a b : TT) : TT := fun σ H Q => t σ H fun c H1 => if c = true then a σ H1 Q else b σ H1 Q
theorem pt_if {X : Cx} {c a b : Expr} {pos : Pos} {tc ta tb : TT} (hc : PT X c tc) (ha : PT X a ta) (hb : PT X b tb) : PT X (.IfExp c a b pos) (tTIf tc ta tb) := by
  refine ⟨fun pins s σ H Q I h => ?_⟩
  refine isTrue_IfExp (thn (hc.run pins s σ H _ I h) fun d s1 ⟨H1, I1, q1⟩ => ?_)
  cases d with
  | true => exact ha.run pins s1 σ H1 Q I1 q1
  | false => exact hb.run pins s1 σ H1 Q I1 q1
theorem wt_if {B0 : Gr} {E : EnvD} {C : CH} {PB : Bool → CH → Prop} {t a b : TT} (h : WT B0 t E C fun c C1 => (c = true → WT B0 a E C1 PB) ∧ (c = false → WT B0 b E C1 PB)) : WT B0 (tTIf t a b) E C PB := fun B F σ H sb rl re Q q =>
  h B F σ H sb rl re _ fun c B1 C1 H1 e1 rl1 p => by
    cases c with
    | true => exact p.1 rfl B1 F σ H1 (sb.trans e1) rl1 (re.mono e1) Q fun b B3 C3 H3 e3 => q b B3 C3 H3 (e1.trans e3)
    | false => exact p.2 rfl B1 F σ H1 (sb.trans e1) rl1 (re.mono e1) Q fun b B3 C3 H3 e3 => q b B3 C3 H3 (e1.trans e3)
/-- a variable's list that is to change no more -/
theorem ws_frzE {B0 : Gr} {t : TS} {E : EnvD} {C : CH} {D0 : EndD} (i : Nat) {a : Addr} {ks : List D} (hi : E[i]? = some (some (.ref a))) (hc : C a = some (.lst ks)) (h : WS B0 t (E.set i (some (.lst ks))) (delC C a) D0) : WS B0 t E C D0 := fun B F σ H sb rl re Dn ek => by
  obtain ⟨v, hv, rv⟩ := re.get i _ hi
  cases rv
  obtain ⟨o, h1, h2⟩ := rl.own _ _ hc
  cases h2 with
  | @lst vs _ r =>
  have s := same_upd (o := .lst vs) (rl.bc a _ hc)
  have re2 : RelE (upd B a (.lst vs)) σ (E.set i (some (.lst ks))) := by
    have := (re.mono s).set i (v := .ref a) (d := .lst ks) (.lst upd_same (r.mono s))
    have e : σ.set i (some (.ref a)) = σ := by
      obtain ⟨hl, e⟩ := List.getElem?_eq_some_iff.mp hv
      rw [← e]
      exact List.set_getElem_self hl
    rw [e] at this
    exact this
  exact h _ F σ H (sb.trans s) (rl.freeze hc h1) re2 Dn (ek.mono s)
/-- in the suite of an except clause -/
theorem units2 {k : Nat} {A : Around} (r : Room k A) : A.units + 2 < cLine := by have := r.un; omega
theorem op_neKS (K : PySem.W.Frag) {X : Cx} (h1 : X.A.units + 64 < cLine) (h2 : X.A.units < cLine) (h : X.K = K := by rfl) : OpR X (compareOp .NotEq) (rNeU K) := by subst h; exact op_ne.or ((op_neD h1).or (op_ne_dictA h2))
end Dv

set_option maxRecDepth 100000
set_option maxHeartbeats 4000000
namespace Dv
open PySem L2
def topS (i : Nat) : Stmt := PySem.Challenge.pw_asyncframes_k03_errors_of_documents.main.body.getD i (.Pass ⟨0, 0, 0, 0⟩)
structure Top (mg : Str → Option Value) : Prop where
  max : mg "max" = none
  len : mg "len" = none
  tuple : mg "tuple" = none
  list : mg "list" = none
  abs : mg "abs" = none
  int : mg "int" = none
  isinstance : mg "isinstance" = none
  str : mg "str" = none
  all : mg "all" = none
  bool : mg "bool" = none
  range : mg "range" = none
  sum : mg "sum" = none
  c_MOST_BOXES : IntAt mg "MOST_BOXES" 40
  c_MOST_DEPTH : IntAt mg "MOST_DEPTH" 4
  c_MOST_NUMBER : IntAt mg "MOST_NUMBER" 999
  c_MOST_HEIGHT : IntAt mg "MOST_HEIGHT" 1000
  c_DIGITS : StrAt mg "DIGITS" "0123456789"
  c_SIGNS : StrAt mg "SIGNS" ":[]"

/-! steps as long as they are plain -/
local macro_rules
  | `(tactic| kwd_rel) => `(tactic| repeat (first
    | (with_reducible show W _ _ _ _ _; first
        | with_reducible refine w_var (by with_unfolding_all exact rfl) ?_
        | with_reducible refine w_int ?_
        | with_reducible refine w_op ?_
        | with_reducible refine w_str ?_
        | with_reducible refine w_cb ?_
        | with_reducible refine w_call ?_
        | with_reducible refine w_tup ?_
        | with_reducible refine w_ifExp ?_
        | with_reducible refine w_un ?_
        | with_reducible refine w_bl ?_
        | with_reducible refine w_non ?_
        | with_reducible refine w_ref ?_
        | with_reducible refine w_ty ?_
        | with_reducible refine w_notV ?_
        | with_reducible refine w_andV ?_
        | with_reducible refine w_orV ?_
        | with_reducible refine w_slice ?_
        | with_reducible refine w_chain ?_
        | with_reducible refine w_isN ?_
        | with_reducible refine w_notN ?_)
    | (with_reducible show WA _ _ _ _ _; first
        | with_reducible refine wa_cons ?_
        | with_reducible refine wa_nil ?_)
    | (with_reducible show WR _ _ _ _ _ _; first
        | with_reducible refine wr_bn ?_
        | with_reducible refine wr_bh ?_
        | (with_reducible show WR _ (rIx _) _ _ _ _; with_reducible refine wr_ix (by with_unfolding_all first | exact SeqD.tup | exact SeqD.lst | exact SeqD.cell updC_same | exact SeqD.cell (by assumption)) (by with_unfolding_all exact rfl) ?_)
        | with_reducible refine wr_intB ?_
        | with_reducible refine wr_ip ?_
        | with_reducible refine wr_int ?_
        | with_reducible refine wr_add ?_
        | (with_reducible show WR _ (rEqU _) _ _ _ _; with_reducible refine wr_eq (by with_unfolding_all exact rfl) ?_)
        | (with_reducible show WR _ (rNeU _) _ _ _ _; with_reducible refine wr_ne (by with_unfolding_all exact rfl) ?_)
        | (with_reducible show WR _ (rI _ _) _ _ _ _; with_reducible refine wr_mod (by first | assumption | decide | omega) ?_)
        | (with_reducible show WR _ (rI _ _) _ _ _ _; with_reducible refine wr_fdiv (by first | assumption | decide | omega) (by first | assumption | decide | omega) ?_)
        | (with_reducible show WR _ (rI _ _) _ _ _ _; with_reducible refine wr_mul (by omega) ?_)
        | with_reducible refine wr_pow (by decide) ?_
        | with_reducible refine wr_isN ?_
        | with_reducible refine wr_notN ?_)
    | (with_reducible show WS _ _ _ _ _; first
        | with_reducible refine ws_seq ?_
        | with_reducible refine ws_set ?_
        | with_reducible refine ws_ret ?_
        | with_reducible refine ws_if ?_
        | with_reducible refine ws_drop ?_
        | with_reducible refine ws_retN ?_
        | with_reducible refine ws_next ?_
        | with_reducible refine ws_break ?_
        | with_reducible refine ws_cont ?_
        | with_reducible refine ws_asg ?_
        | with_reducible refine ws_aug (by with_unfolding_all exact rfl) ?_)
    | (with_reducible show WT _ _ _ _ _; first
        | with_reducible refine wt_test ?_
        | with_reducible refine wt_B ?_
        | with_reducible refine wt_truth ?_
        | with_reducible refine wt_and ?_
        | with_reducible refine wt_or ?_
        | with_reducible refine wt_not ?_
        | with_reducible refine wt_yes ?_)
    | (with_reducible show WC _ _ _ _ _; first
        | (with_reducible show WC _ (rLenU _) _ _ _; with_reducible refine wc_len (by with_unfolding_all first | exact SeqD.tup | exact SeqD.lst | exact SeqD.cell updC_same | exact SeqD.cell (by assumption)) ?_)
        | with_reducible refine wc_int ?_
        | (with_reducible show WC _ (rIsiU _) _ _ _; with_reducible refine wc_isi2 (by with_unfolding_all exact rfl) (by with_reducible first | exact kit_NoneType_list | exact kit_NoneType_tuple | exact kit_NoneType_bool | exact kit_NoneType_str | exact kit_NoneType_int | exact kit_NoneType_dict | exact kit_bool_list | exact kit_bool_tuple | exact kit_bool_bool | exact kit_bool_str | exact kit_bool_int | exact kit_bool_dict | exact kit_int_list | exact kit_int_tuple | exact kit_int_bool | exact kit_int_str | exact kit_int_int | exact kit_int_dict | exact kit_str_list | exact kit_str_tuple | exact kit_str_bool | exact kit_str_str | exact kit_str_int | exact kit_str_dict | exact kit_tuple_list | exact kit_tuple_tuple | exact kit_tuple_bool | exact kit_tuple_str | exact kit_tuple_int | exact kit_tuple_dict | exact kit_list_list | exact kit_list_tuple | exact kit_list_bool | exact kit_list_str | exact kit_list_int | exact kit_list_dict | exact kit_dict_list | exact kit_dict_tuple | exact kit_dict_bool | exact kit_dict_str | exact kit_dict_int | exact kit_dict_dict) (by with_reducible first | exact kit_NoneType_list | exact kit_NoneType_tuple | exact kit_NoneType_bool | exact kit_NoneType_str | exact kit_NoneType_int | exact kit_NoneType_dict | exact kit_bool_list | exact kit_bool_tuple | exact kit_bool_bool | exact kit_bool_str | exact kit_bool_int | exact kit_bool_dict | exact kit_int_list | exact kit_int_tuple | exact kit_int_bool | exact kit_int_str | exact kit_int_int | exact kit_int_dict | exact kit_str_list | exact kit_str_tuple | exact kit_str_bool | exact kit_str_str | exact kit_str_int | exact kit_str_dict | exact kit_tuple_list | exact kit_tuple_tuple | exact kit_tuple_bool | exact kit_tuple_str | exact kit_tuple_int | exact kit_tuple_dict | exact kit_list_list | exact kit_list_tuple | exact kit_list_bool | exact kit_list_str | exact kit_list_int | exact kit_list_dict | exact kit_dict_list | exact kit_dict_tuple | exact kit_dict_bool | exact kit_dict_str | exact kit_dict_int | exact kit_dict_dict) ?_)
        | (with_reducible show WC _ (rIsiU _) _ _ _; with_reducible refine wc_isi (by with_unfolding_all exact rfl) (by with_reducible first | exact kit_NoneType_list | exact kit_NoneType_tuple | exact kit_NoneType_bool | exact kit_NoneType_str | exact kit_NoneType_int | exact kit_NoneType_dict | exact kit_bool_list | exact kit_bool_tuple | exact kit_bool_bool | exact kit_bool_str | exact kit_bool_int | exact kit_bool_dict | exact kit_int_list | exact kit_int_tuple | exact kit_int_bool | exact kit_int_str | exact kit_int_int | exact kit_int_dict | exact kit_str_list | exact kit_str_tuple | exact kit_str_bool | exact kit_str_str | exact kit_str_int | exact kit_str_dict | exact kit_tuple_list | exact kit_tuple_tuple | exact kit_tuple_bool | exact kit_tuple_str | exact kit_tuple_int | exact kit_tuple_dict | exact kit_list_list | exact kit_list_tuple | exact kit_list_bool | exact kit_list_str | exact kit_list_int | exact kit_list_dict | exact kit_dict_list | exact kit_dict_tuple | exact kit_dict_bool | exact kit_dict_str | exact kit_dict_int | exact kit_dict_dict) ?_)
        | with_reducible refine wc_abs ?_
        | with_reducible refine wc_max2 ?_
        | with_reducible refine wc_min2 ?_)
    | (with_reducible show WG _ _ _ _ _ _; first
        | with_reducible refine wg_name ?_
        | with_reducible refine wg_sub ?_)
    | (with_reducible show WU _ _ _ _ _; first
        | with_reducible refine wu_int ?_)
    | (with_reducible show WO _ _ _ _ _; first
        | with_reducible refine wo_none ?_
        | with_reducible refine wo_some ?_)
    | (with_reducible show WSl _ _ _ _ _ _ _; first
        | with_reducible refine wsl_tupE (by with_unfolding_all exact rfl) ?_
        | with_reducible refine wsl_lstE (by with_unfolding_all exact rfl) ?_)
    | (with_reducible show WSet _ _ _ _ _ _ _; first
        | with_reducible refine wset_list (by first | exact updC_same | assumption) (by with_unfolding_all exact rfl) ?_)
    | with_reducible refine ex_bl ?_
    | with_reducible refine tru_bl ?_
    | (with_reducible show ∃ _, _ ∧ _; with_reducible refine Exists.intro _ (And.intro (by with_unfolding_all first | exact rfl | exact SeqF.tup | exact SeqF.lst) ?_))
    | ((first | with_reducible show _ ≤ _ ∧ _ | with_reducible show _ < _ ∧ _); with_reducible refine And.intro (by with_unfolding_all exact Nat.le_of_ble_eq_true rfl) ?_)
    | with_reducible refine nx_show ?_
    | with_reducible refine rt_show ?_
    | with_reducible refine ct_show ?_
    | with_reducible refine bk_show ?_))
/-! a test's two ways; one that cannot be goes away -/
set_option hygiene false in
local macro_rules
  | `(tactic| kwd_less) => `(tactic| (refine ite_two (fun hc => ?_) (fun hc => ?_) <;> first | (exact absurd hc (by with_unfolding_all exact Bool.false_ne_true)) | (exact absurd hc (by with_unfolding_all exact Bool.noConfusion)) | (exact absurd hc (by decide +kernel)) | skip))
section
variable {P : Program} {w : World} {K : PySem.W.Frag} {mg : Str → Option Value} {base : Heap}
/-! parts_of -/
abbrev sparts_of : Stmt := topS 5
theorem scparts_of : FnScope ["box"] ["box"] (defScope sparts_of) := ⟨rfl, rfl, rfl, by decide +kernel, rfl, by decide +kernel, by decide +kernel⟩
def fParts : SpD := fun ds C P => ∃ b : Box, ds = [encB b] ∧ P (.tup (encBs b.parts)) C
theorem ok_parts_of (Df : DefAt K mg "parts_of" sparts_of ["box"]) (T : Top mg) : Has P w K mg base 1 "parts_of" ["box"] (spD fParts) := by
  refine has_of Df scparts_of (fun ds C P ⟨b, h, _⟩ => by rw [h]; rfl) fun f cdv A outer s H E hr => ⟨_, 
    (pss_one (ps_ret (pe_ifExp (pt_cmpR (op_eqK K hr) (pe_ix (ix_seqK K) (pv 0) pe_int (fun _ _ => rfl)) pe_str (nomark _)) (pe_ix (ix_seqK K) (pv 0) pe_int (fun _ _ => rfl)) (pe_tup pa_nil)))), fun B ds C P ⟨b, hd, k⟩ => ?_⟩
  subst hd
  cases b with
  | block n h =>
    kwd_rel
    kwd_less
    kwd_rel
    exact k
  | scroller n h ps =>
    kwd_rel
    kwd_less
    kwd_rel
    exact k
/-! all_boxes -/
abbrev sall_boxes : Stmt := topS 6
theorem scall_boxes : FnScope ["document", "found", "part"] ["document"] (defScope sall_boxes) := ⟨rfl, rfl, rfl, by decide +kernel, rfl, by decide +kernel, by decide +kernel⟩
def fAllB (n : Nat) : SpD := fun ds C P => ∃ b : Box, b.lev ≤ n ∧ b.all.length ≤ 100000 ∧ ds = [encB b] ∧ P (.lst (encBs b.all)) C
theorem ok_all_boxes (Df : DefAt K mg "all_boxes" sall_boxes ["document"]) (T : Top mg) (h_parts_of : Has P w K mg base 1 "parts_of" ["box"] (spD fParts)) : ∀ n, Has P w K mg base (n+2) "all_boxes" ["document"] (spD (fAllB n)) := by
  intro n
  induction n with
  | zero =>
    refine has_of Df scall_boxes (fun ds C P ⟨b, _, _, h, _⟩ => by rw [h]; rfl) fun f cdv A outer s H E hr => ⟨_, pss_never, fun B ds C P ⟨b, hl, _⟩ => ws_never ?_⟩
    cases b <;> simp [Box.lev] at hl
  | succ n h_all_boxes =>
    refine has_of Df scall_boxes (fun ds C P ⟨b, _, _, h, _⟩ => by rw [h]; rfl) fun f cdv A outer s H E hr => ⟨_, 
    (pss_cons (ps_nm 1 scall_boxes.nd (pe_lst (pa_cons (pv 0) pa_nil)))
    (pss_cons (ps_for PassesOwn.never rfl (pi_seqK K (pe_def h_parts_of (hr.mono (by omega)) (pa_cons (pv 0) pa_nil))) (pg_nm 2 scall_boxes.nd) 
      (pss_one (ps_expr (pe_bmK K PySem.F.plainAttrs_list PySem.F.slot_list_extend PySem.F.type_list_extend mt_extend (pv 1) (pa_cons (pe_def h_all_boxes (hr.mono (by omega)) (pa_cons (pv 2) pa_nil)) pa_nil)))))
    (pss_one (ps_ret (pv 1))))), fun B ds C P ⟨b, hl, hz, hd, k⟩ => ?_⟩
    subst hd
    kwd_rel
    refine w_lstC ?_
    kwd_rel
    intro a ha
    kwd_rel
    refine ws_for (fun rest E1 C1 => ∃ pre post x, b.parts = pre ++ post ∧ rest = encBs post ∧ E1 = [some (encB b), some (.ref a), x] ∧ C1 = updC C a (.lst (encBs (b :: alls pre)))) (wi_seq ?_) ?_ ?_
    · kwd_rel
      refine ⟨b, rfl, ?_⟩
      kwd_rel
      exact ⟨[], b.parts, none, rfl, rfl, rfl, rfl⟩
    · rintro E1 C1 ⟨pre, post, x, h1, h2, rfl, rfl⟩
      have e := encBs_nil h2
      subst e
      refine ws_ret (w_varF rfl updC_same ?_)
      rw [delC_updC ha]
      rw [List.append_nil] at h1
      rw [← h1, ← all_eq]
      exact k
    · rintro x xs E1 C1 ⟨pre, post, y, h1, h2, rfl, rfl⟩
      obtain ⟨p, q, rfl, rfl, rfl⟩ := encBs_cons h2
      have hp := all_len_part h1
      kwd_rel
      refine w_bmL ?_
      kwd_rel
      refine ⟨⟨_, .cell updC_same⟩, ?_⟩
      kwd_rel
      refine ⟨p, lev_parts hl (by rw [h1]; simp), by omega, rfl, ?_⟩
      kwd_rel
      refine wm_extend updC_same .lst (by rw [encBs_length, encBs_length]; omega) ?_
      rw [updC_updC]
      refine ⟨pre ++ [p], q, _, by simp [h1], rfl, rfl, ?_⟩
      rw [alls_append, ← encBs_append]
      simp [alls]
end
section
variable {P : Program} {w : World} {K : PySem.W.Frag} {mg : Str → Option Value} {base : Heap}
abbrev sdepth_of : Stmt := topS 7
theorem scdepth_of : FnScope ["box", "part"] ["box"] (defScope sdepth_of) := ⟨rfl, rfl, rfl, by decide +kernel, rfl, by decide +kernel, by decide +kernel⟩
theorem ok_depth_of (Df : DefAt K mg "depth_of" sdepth_of ["box"]) (T : Top mg) : ∀ n, Has P w K mg base (n+1) "depth_of" ["box"] (spD (fDepth n)) := by
  intro n
  induction n with
  | zero =>
    refine has_of Df scdepth_of (fun ds C P ⟨b, _, _, h, _⟩ => by rw [h]; rfl) fun f cdv A outer s H E hr => ⟨_, pss_never, fun B ds C P ⟨b, hl, _⟩ => ws_never ?_⟩
    cases b <;> simp [Box.lev] at hl
  | succ n h_depth_of =>
    refine has_of Df scdepth_of (fun ds C P ⟨b, _, _, h, _⟩ => by rw [h]; rfl) fun f cdv A outer s H E hr => ⟨_, 
    (pss_cons (ps_if (pt_cmpR (op_eqK K hr) (pe_ix (ix_seqK K) (pv 0) pe_int (fun _ _ => rfl)) pe_str (nomark _)) 
      (pss_one (ps_ret pe_int)) pss_nil)
    (pss_one (ps_ret (pe_op (op_addK K) pe_int (pe_callB (call_maxK K) (by rfl) T.max bt_max (pa_cons (pe_op (op_addK K) (pe_lst (pa_cons pe_int pa_nil)) (pe_lc (own := [("part", 1)]) rfl scdepth_of.nd (pi_seqK K (pe_ix (ix_seqK K) (pv 0) pe_int (fun _ _ => rfl))) (blkOk_by (N := ["box", "part"]) (sc := defScope sdepth_of) (by decide +kernel)) (fun _ _ _ _ _ => pg_nm 1 scdepth_of.nd) (fun _ _ _ _ _ => pts_nil) (fun _ _ _ _ _ => (pe_def h_depth_of (hr.mono (by omega)) (pa_cons (pv 1) pa_nil))))) pa_nil)))))), fun B ds C P ⟨b, hl, hz, hd, k⟩ => ?_⟩
    subst hd
    cases b with
    | block m h =>
      kwd_rel
      kwd_less
      kwd_rel
      exact k
    | scroller m h ps =>
      have hps : ∀ p ∈ ps, p.lev ≤ n ∧ p.all.length ≤ 100000 := fun p hp => ⟨lev_parts hl hp, Nat.le_trans (all_len_sub (b := .scroller m h ps) hp) hz⟩
      have hlen : ps.length ≤ 100000 := Nat.le_trans (parts_len (b := .scroller m h ps) (p := .scroller m h ps) (by rw [all_eq]; simp)) hz
      kwd_rel
      kwd_less
      kwd_rel
      refine w_lst ?_
      kwd_rel
      refine w_lc (fun rest acc C1 => ∃ pre post, ps = pre ++ post ∧ rest = encBs post ∧ acc = pre.map (fun p => D.int (p.deep : Nat)) ∧ C1 = C) (sets_name (by simp)) (wi_seq ?_) ?_ ?_
      · kwd_rel
        exact ⟨by rw [encBs_length]; omega, [], ps, rfl, rfl, rfl, rfl⟩
      · rintro acc C1 ⟨pre, post, h1, h2, rfl, rfl⟩
        have e := encBs_nil h2
        subst e
        rw [List.append_nil] at h1
        subst h1
        refine wr_addL .lst .lst (by simp; omega) ?_
        kwd_rel
        refine wc_maxL (ns := (0 : Int) :: ps.map (fun p => (p.deep : Int))) (by simp [List.map_map, Function.comp_def]; exact .lst) (by simp) (fun m hm hle => ?_)
        have e := deeps_max ps m hm hle
        kwd_rel
        rw [Box.deep] at k
        rw [e]
        have : (1 : Int) + (deeps ps : Nat) = ((deeps ps + 1 : Nat) : Int) := by omega
        rw [this]
        exact k
      · rintro x xs acc C1 ⟨pre, post, h1, h2, rfl, rfl⟩
        obtain ⟨p, q, rfl, rfl, rfl⟩ := encBs_cons h2
        kwd_rel
        refine ⟨fun _ => ?_, fun z => by cases z⟩
        kwd_rel
        obtain ⟨l1, l2⟩ := hps p (by rw [h1]; simp)
        exact ⟨p, l1, l2, rfl, pre ++ [p], q, by simp [h1], rfl, by simp, rfl⟩
end
structure TopK (K : PySem.W.Frag) (mg : Str → Option Value) : Prop where
  k_Reader : ClsOk K mg "Reader" ["tokens", "length", "at", "wrong", "numbers"]
/-- the classes of errors -/
structure TopX (K : PySem.W.Frag) (mg : Str → Option Value) : Prop where
  g_TextError : ClsG mg "TextError"
  g_FrameError : ClsG mg "FrameError"
  b_FrameError : BaseC K (clsAd mg "FrameError")
  x_TextError : XfC K (clsAd mg "TextError")
  n_place : PySem.W.findIn K (.ref (clsAd mg "TextError")) "place" = some none
  n_message : PySem.W.findIn K (.ref (clsAd mg "TextError")) "message" = some none
  m_TT : PySem.W.exmOne K (.ref (clsAd mg "TextError")) (.ref (clsAd mg "TextError")) = some true
  c_T : ExcC K (clsAd mg "TextError")
  k_T : PySem.W.kitOne K (.ref (clsAd mg "TextError")) (.ref (clsAd mg "FrameError")) = some true
  s_T : StrC K (clsAd mg "TextError")
section
variable {P : Program} {w : World} {K : PySem.W.Frag} {mg : Str → Option Value} {base : Heap}
/-! ### TextError(place, message) -/
abbrev sTextError_init : Stmt := inClass (topS 10) 0
theorem scTextError_init : FnScope ["self", "place", "message"] ["self", "place", "message"] (defScope sTextError_init) := ⟨rfl, rfl, rfl, by decide +kernel, rfl, by decide +kernel, by decide +kernel⟩
theorem ok_TextError_init {k : Nat} (Df : EiniAt K mg "TextError" "TextError.__init__" sTextError_init ["self", "place", "message"]) (T : Top mg) (TX : TopX K mg) : HasE P w K mg base (k+1) "TextError" ["self", "place", "message"] (spTT K) := by
  refine has_ofT Df scTextError_init rfl fun f cdv A outer s H E hr => ⟨_, 
    (pss_cons (ps_expr (pe_feinitT TX.g_FrameError.at TX.b_FrameError (pa_cons (pv 0) (pa_cons (pe_joinedN (PJ.cons (pe_fmt (pv 2)) (PJ.cons pe_str (PJ.cons (pe_fmt (pv 1)) PJ.nil)))) pa_nil))))
    (pss_cons (ps_ostT (pv 0) (pv 1))
    (pss_one (ps_ostT (pv 0) (pv 2))))), fun vs Q h => ?_⟩
  obtain ⟨a, C, p, m, rfl, T1, n1, n2, hp, hm, ha, q⟩ := h
  have la : ∀ x y : Str, (x ++ y).length = x.length + y.length := fun x y => by rw [str_app, mkS_len, List.length_append, ← str_len, ← str_len]
  have lp : (numS p).length ≤ 10 := by rw [numS_num, mkS_len]; exact num_len hp.1 hp.2
  have l0 : (Str.empty : Str).length = 0 := rfl
  have lc : (" at " : Str).length = 4 := by decide +kernel
  have big : ∀ n : Nat, n ≤ 5000 → n ≤ sizeLine := fun n h => Nat.le_trans h (by decide)
  refine ⟨.ref a, rfl, ⟨.str m, rfl, .inl ⟨m, rfl, big _ (by omega), m, rfl, big _ (by rw [la]; omega), " at ", rfl, big _ (by rw [la, la]; omega), .int p, rfl, .inr ⟨p, rfl, log_small (by omega), numS p, rfl, big _ (by rw [la, la, la]; omega), ?_⟩⟩⟩⟩
  refine ⟨a, C, _, rfl, T1, ha, fun n hn na => ?_⟩
  refine ⟨.int p, rfl, .ref a, rfl, a, C, n, rfl, T1, n1, .inl ⟨upd_same, fun dx hdx nd => ?_⟩⟩
  have ne : dx ≠ n := fun z => by rw [z, upd_ne na, upd_same] at hdx; cases hdx
  refine ⟨.str m, rfl, .ref a, rfl, a, C, n, rfl, T1, n2, .inr ⟨dx, [("place", .int p)], upd_same, ?_, ?_, ?_⟩⟩
  · rw [upd_ne nd, upd_same]
  · exact Nat.le_of_ble_eq_true rfl
  · have hd1 : _ = none := hdx
    rw [upd_ne nd, upd_ne ne] at hd1
    have e0 : (Str.empty ++ m : Str) = m := by
      rw [str_app]
      exact mkS_of m
    rw [e0]
    exact q n dx hn na hd1 nd ne
end
section
variable {P : Program} {w : World} {K : PySem.W.Frag} {mg : Str → Option Value} {base : Heap}
/-! ### texts: runs of figures, tokens -/
def fBehind : SpD := fun ds C P => ∃ u l r : List Nat, ds = [.str (mkS (u ++ l ++ r)), .int ((u.length : Nat) : Int), .str "0123456789"] ∧ PySem.NumText.AllDigits l ∧ (r = [] ∨ ∃ c t, r = c :: t ∧ ¬ (48 ≤ c ∧ c ≤ 57)) ∧ (u ++ l ++ r).length ≤ 100000 ∧ P (.int ((u.length + l.length : Nat) : Int)) C
abbrev sbehind_run : Stmt := topS 14
theorem scbehind_run : FnScope ["text", "place", "characters"] ["text", "place", "characters"] (defScope sbehind_run) := ⟨rfl, rfl, rfl, by decide +kernel, rfl, by decide +kernel, by decide +kernel⟩
theorem ok_behind_run {k : Nat} (Df : DefAt K mg "behind_run" sbehind_run ["text", "place", "characters"]) (T : Top mg) : Has P w K mg base (k+1) "behind_run" ["text", "place", "characters"] (spD fBehind) := by
  refine has_of Df scbehind_run (fun ds C P ⟨_, _, _, h, _⟩ => by rw [h]; rfl) fun f cdv A outer s H E hr => ⟨_, 
    (pss_cons (ps_while PassesOwn.never (PW.pt (pw_and (pt_cmpR op_lt (pv 1) (pe_callB (call_lenK K) (by rfl) T.len bt_len (pa_cons (pv 0) pa_nil)) (nomark _)) (pw_and1 (pt_cmpR (op_inK K) (pe_ix (ix_seqK K) (pv 0) (pv 1) (fun _ _ => rfl)) (pv 2) (by rfl))))) 
      (pss_one (ps_au 1 scbehind_run.nd pe_int ip_add)))
    (pss_one (ps_ret (pv 1)))), fun B ds C P ⟨u, l, r, hd, hl, hr2, hz, q⟩ => ?_⟩
  subst hd
  kwd_rel
  refine ws_while (fun mm E1 C1 => ∃ i, i ≤ l.length ∧ mm = l.length - i ∧ E1 = [some (.str (mkS (u ++ l ++ r))), some (.int ((u.length + i : Nat) : Int)), some (.str "0123456789")] ∧ C1 = C) l.length ⟨0, Nat.zero_le _, rfl, rfl, rfl⟩ ?_
  rintro mm E1 C1 ⟨i, hi, rfl, rfl, rfl⟩
  have hlen : (mkS (u ++ l ++ r)).length ≤ 1000000 := by rw [mkS_len]; omega
  have hL : (u ++ l ++ r).length = u.length + l.length + r.length := by rw [List.length_append, List.length_append]
  kwd_rel
  refine wc_lenS hlen ?_
  rw [mkS_len]
  kwd_rel
  by_cases h1 : i < l.length
  · refine ite_two (fun _ => ?_) (fun z => absurd (of_decide_eq_false z) (by omega))
    kwd_rel
    have hc : (u ++ l ++ r)[u.length + i]? = some l[i] := by
      rw [List.append_assoc, List.getElem?_append_right (by omega), List.getElem?_append_left (by omega), show u.length + i - u.length = i by omega, List.getElem?_eq_getElem h1]
    refine wr_ixS hlen (by rw [mkS_list]; exact atI_nat hc) ?_
    kwd_rel
    refine wr_inC ?_
    rw [dig_mem, decide_eq_true (hl _ (List.getElem_mem h1))]
    kwd_rel
    kwd_less
    kwd_rel
    exact ⟨l.length - (i + 1), by omega, i + 1, by omega, rfl, rfl, rfl⟩
  · have hil : i = l.length := by omega
    subst hil
    rcases hr2 with rfl | ⟨c, t, rfl, hc⟩
    · refine ite_two (fun z => absurd (of_decide_eq_true z) (by rw [List.length_nil] at hL; omega)) (fun _ => ?_)
      kwd_rel
      kwd_less
      kwd_rel
      exact q
    · refine ite_two (fun _ => ?_) (fun z => absurd (of_decide_eq_false z) (by rw [List.length_cons] at hL; omega))
      kwd_rel
      have e : atI (u ++ l ++ c :: t) ((u.length + l.length : Nat) : Int) = some c := by
        have := at_head (u ++ l) c t
        rw [List.length_append] at this
        exact this
      refine wr_ixS hlen (by rw [mkS_list]; exact e) ?_
      kwd_rel
      refine wr_inC ?_
      rw [dig_mem, decide_eq_false hc]
      kwd_rel
      kwd_less
      kwd_rel
      exact q
def BadI (i : It) : Prop := i = .sgn 45 ∨ i = .sgn 120
theorem sep_headX {l : List Nat} {r : List It} (h : Sep (.dig l :: r)) (ok : ∀ i ∈ r, i.Ok ∨ BadI i) : r = [] ∨ ∃ c t, txts r = c :: t ∧ ¬ (48 ≤ c ∧ c ≤ 57) := by
  cases r with
  | nil => exact .inl rfl
  | cons i r =>
    rw [Sep] at h
    have hi := h.1 rfl
    rcases ok i (by simp) with oki | rfl | rfl
    · cases i with
      | gap c => exact .inr ⟨c, txts r, rfl, by rcases oki with rfl | rfl <;> omega⟩
      | sgn c => exact .inr ⟨c, txts r, rfl, by rcases oki with rfl | rfl | rfl | rfl | rfl <;> omega⟩
      | dig l => cases hi
    · exact .inr ⟨45, txts r, rfl, by omega⟩
    · exact .inr ⟨120, txts r, rfl, by omega⟩
def fCutX : SpX := fun ds C P PX => ∃ its : List It, ds = [.str (mkS (txts its))] ∧ (∀ i ∈ its, i.Ok ∨ BadI i) ∧ Sep its ∧ (txts its).length ≤ 100000 ∧ ((∀ i ∈ its, i.Ok) → ∀ a, C a = none → P (.ref a) (updC C a (.lst ((toks 0 its).map tokD)))) ∧
  ∀ pre i post, its = pre ++ i :: post → (∀ i ∈ pre, i.Ok) → BadI i → ∀ C', (∀ z x, C z = some x → C' z = some x) → PX (.fld "TextError" [("message", .str "unknown character"), ("place", .int ((txts pre).length : Nat))]) C'
theorem toks_len : ∀ (its : List It) (k : Nat), (∀ i ∈ its, i.Ok) → (toks k its).length ≤ (txts its).length
  | [], _, _ => Nat.le_refl _
  | .gap c :: r, k, h => by
    have := toks_len r (k + 1) fun i hi => h i (by simp [hi])
    rw [toks, txts, It.txt, List.length_append]
    simp
    omega
  | .sgn c :: r, k, h => by
    have := toks_len r (k + 1) fun i hi => h i (by simp [hi])
    rw [toks, txts, It.txt, List.length_append]
    simp
    omega
  | .dig l :: r, k, h => by
    have := toks_len r (k + l.length) fun i hi => h i (by simp [hi])
    have hl := (h (.dig l) (by simp)).2
    have : 1 ≤ l.length := by cases l with | nil => exact absurd rfl hl | cons _ _ => simp
    rw [toks, txts, It.txt, List.length_append, List.length_cons]
    omega
abbrev scut : Stmt := topS 15
theorem sccut : FnScope ["text", "found", "place", "end"] ["text"] (defScope scut) := ⟨rfl, rfl, rfl, by decide +kernel, rfl, by decide +kernel, by decide +kernel⟩
theorem ok_cut {k : Nat} (Df : DefAt K mg "cut" scut ["text"]) (T : Top mg) (TX : TopX K mg) (h_TextError : HasE P w K mg base k "TextError" ["self", "place", "message"] (spTT K)) (h_behind_run : Has P w K mg base k "behind_run" ["text", "place", "characters"] (spD fBehind)) : HasA P w K mg base (k+2) "cut" ["text"] (spX mg fCutX) := by
  refine has_ofA Df sccut (fun ds C P PX ⟨_, h, _⟩ => by rw [h]; rfl) fun f cdv A outer s H E hr => ⟨_, (have tk := tkA_of (P := P) (w := w) (K := K) (mg := mg) (base := base); 
    (pss_cons (ps_nm 1 sccut.nd (pe_lst pa_nil))
    (pss_cons (ps_nm 2 sccut.nd pe_int)
    (pss_cons (ps_while PassesOwn.leaving (pt_cmpR op_lt (pv 2) (pe_callB (call_lenK K) (by rfl) T.len bt_len (pa_cons (pv 0) pa_nil)) (nomark _)) 
      (pss_cons (ps_nm 3 sccut.nd (pe_op (op_addK K) (pv 2) pe_int))
      (pss_cons (ps_if (pt_cmpR (op_inK K) (pe_ix (ix_seqK K) (pv 0) (pv 2) (fun _ _ => rfl)) (pe_globS T.c_DIGITS) (by rfl)) 
        (pss_one (ps_nm 3 sccut.nd (pe_def h_behind_run (hr.mono (by omega)) (pa_cons (pv 0) (pa_cons (pv 2) (pa_cons (pe_globS T.c_DIGITS) pa_nil)))))) 
        (pss_one (ps_if (PW.pt (pw_and (pt_cmpR (op_ninK K) (pe_ix (ix_seqK K) (pv 0) (pv 2) (fun _ _ => rfl)) (pe_globS T.c_SIGNS) (by rfl)) (pw_and1 (pt_cmpR (op_ninK K) (pe_ix (ix_seqK K) (pv 0) (pv 2) (fun _ _ => rfl)) pe_str (by rfl))))) 
          (pss_one (ps_rsA h_TextError (hr.mono (by omega)) tk (pa_cons (pv 2) (pa_cons pe_str pa_nil)))) pss_nil)))
      (pss_cons (ps_if (pt_cmpR (op_ninK K) (pe_ix (ix_seqK K) (pv 0) (pv 2) (fun _ _ => rfl)) pe_str (by rfl)) 
        (pss_one (ps_expr (pe_bmK K PySem.F.plainAttrs_list PySem.F.slot_list_append PySem.F.type_list_append mt_append (pv 1) (pa_cons (pe_tup (pa_cons (pv 2) (pa_cons (pe_slice (sl_K K) (pv 0) (po_some (pv 2)) (po_some (pv 3))) pa_nil))) pa_nil)))) pss_nil)
      (pss_one (ps_nm 2 sccut.nd (pv 3)))))))
    (pss_one (ps_ret (pv 1))))))), fun B ds C P PX ⟨its, hd, hok, hsep, hz, q, qx⟩ hX => ?_⟩
  subst hd
  have hlen : (mkS (txts its)).length ≤ 1000000 := by rw [mkS_len]; omega
  kwd_rel
  refine w_lstC ?_
  kwd_rel
  intro a ha
  kwd_rel
  refine ws_while (fun mm E1 C1 => ∃ (pre post : List It) (x3 : Option D), its = pre ++ post ∧ mm = post.length ∧ Sep post ∧ (∀ i ∈ pre, i.Ok) ∧ E1 = [some (.str (mkS (txts its))), some (.ref a), some (.int (((txts pre).length : Nat) : Int)), x3] ∧ C1 = updC C a (.lst ((toks 0 pre).map tokD))) its.length ⟨[], its, none, rfl, rfl, hsep, (fun i hi => by cases hi), rfl, rfl⟩ ?_
  rintro mm E1 C1 ⟨pre, post, x3, h1, rfl, hs, hpre, rfl, rfl⟩
  have htx : txts its = txts pre ++ txts post := by rw [h1, txts_app]
  have hpl := toks_len pre 0 hpre
  kwd_rel
  refine wc_lenS hlen ?_
  rw [mkS_len]
  kwd_rel
  cases post with
  | nil =>
    rw [List.append_nil] at h1
    subst h1
    refine ⟨fun z => absurd (of_decide_eq_true z) (by omega), fun _ => ?_⟩
    refine ws_ret (w_var rfl ?_)
    exact q hpre a ha
  | cons it rest =>
    have oki0 := hok it (by rw [h1]; simp)
    have hl1 : 1 ≤ it.txt.length := by
      cases it with
      | gap c => exact Nat.le_refl _
      | sgn c => exact Nat.le_refl _
      | dig l =>
        rcases oki0 with oki | oki | oki
        · have := oki.2
          cases l with
          | nil => exact absurd rfl this
          | cons _ _ => simp [It.txt]
        · cases oki
        · cases oki
    have hlt : (txts its).length = (txts pre).length + it.txt.length + (txts rest).length := by rw [htx, txts]; simp [Nat.add_assoc]
    refine ⟨fun _ => ?_, fun z => absurd (of_decide_eq_false z) (by omega)⟩
    have hsr := sep_tail hs
    have one : ∀ c, it.txt = [c] → atI (mkS (txts its)).cps.toList (((txts pre).length : Nat) : Int) = some c := fun c hc => by
      rw [mkS_list, htx, txts, hc]
      exact at_head _ _ _
    kwd_rel
    have fin : it.Ok → ∀ (L : List Tok') (e : Nat) (E2 : EnvD), it.txt.length = e → toks (txts pre).length (it :: rest) = L ++ toks ((txts pre).length + e) rest → E2 = [some (.str (mkS (txts its))), some (.ref a), some (.int (((txts pre).length + e : Nat) : Int)), some (.int (((txts pre).length + e : Nat) : Int))] → ∃ m', m' < (it :: rest).length ∧ ∃ (pre' post' : List It) (x3 : Option D), its = pre' ++ post' ∧ m' = post'.length ∧ Sep post' ∧ (∀ i ∈ pre', i.Ok) ∧
        E2 = [some (.str (mkS (txts its))), some (.ref a), some (.int (((txts pre').length : Nat) : Int)), x3] ∧ updC C a (.lst ((toks 0 pre).map tokD ++ L.map tokD)) = updC C a (.lst ((toks 0 pre').map tokD)) := fun oki L e E2 he ht hE => by
      subst hE
      refine ⟨rest.length, by simp, pre ++ [it], rest, some (.int (((txts pre).length + e : Nat) : Int)), by simp [h1], rfl, hsr, (fun i hi => by
        rcases List.mem_append.mp hi with hi | hi
        · exact hpre i hi
        · simp at hi; subst hi; exact oki), ?_, ?_⟩
      · have : (txts (pre ++ [it])).length = (txts pre).length + e := by rw [txts_app, txts, txts]; simp [he]
        rw [this]
      · have h2 := toks_app pre [it] 0
        have h3 := toks_app [it] rest (txts pre).length
        rw [List.singleton_append, ht, txts, txts, List.append_nil, he] at h3
        rw [h2, Nat.zero_add, ← List.append_cancel_right h3, List.map_append]
    by_cases hbad : BadI it
    · obtain ⟨c, rfl, hc⟩ : ∃ c, it = .sgn c ∧ (c = 45 ∨ c = 120) := by
        rcases hbad with rfl | rfl
        · exact ⟨45, rfl, .inl rfl⟩
        · exact ⟨120, rfl, .inr rfl⟩
      have hch := one c rfl
      have b1 : decide (c ∈ ("0123456789" : Str).cps.toList) = false := by rcases hc with rfl | rfl <;> decide +kernel
      have b2 : (!decide (c ∈ (":[]" : Str).cps.toList)) = true := by rcases hc with rfl | rfl <;> decide +kernel
      have b3 : (!decide (c ∈ ("bs \n" : Str).cps.toList)) = true := by rcases hc with rfl | rfl <;> decide +kernel
      refine wr_ixS hlen hch ?_
      kwd_rel
      refine wr_inC ?_
      rw [b1]
      kwd_rel
      kwd_less
      kwd_rel
      refine wr_ixS hlen hch ?_
      kwd_rel
      refine wr_ninC ?_
      rw [b2]
      kwd_rel
      kwd_less
      kwd_rel
      refine wr_ixS hlen hch ?_
      kwd_rel
      refine wr_ninC ?_
      rw [b3]
      kwd_rel
      kwd_less
      refine ws_raiseA h_TextError hX.ok ?_
      kwd_rel
      refine ⟨_, _, rfl, ⟨by omega, by omega⟩, by decide +kernel, qx pre _ rest h1 hpre hbad _ fun z x hz => ?_⟩
      rw [updC_ne (fun e => by rw [e, ha] at hz; cases hz)]
      exact hz
    have oki : it.Ok := oki0.elim id fun z => absurd z hbad
    cases it with
    | gap c =>
      have hch := one c rfl
      have b1 : decide (c ∈ ("0123456789" : Str).cps.toList) = false := by rcases oki with rfl | rfl <;> decide +kernel
      have b2 : (!decide (c ∈ (":[]" : Str).cps.toList)) = true := by rcases oki with rfl | rfl <;> decide +kernel
      have b3 : (!decide (c ∈ ("bs \n" : Str).cps.toList)) = false := by rcases oki with rfl | rfl <;> decide +kernel
      have b4 : (!decide (c ∈ (" \n" : Str).cps.toList)) = false := by rcases oki with rfl | rfl <;> decide +kernel
      refine wr_ixS hlen hch ?_
      kwd_rel
      refine wr_inC ?_
      rw [b1]
      kwd_rel
      kwd_less
      kwd_rel
      refine wr_ixS hlen hch ?_
      kwd_rel
      refine wr_ninC ?_
      rw [b2]
      kwd_rel
      kwd_less
      kwd_rel
      refine wr_ixS hlen hch ?_
      kwd_rel
      refine wr_ninC ?_
      rw [b3]
      kwd_rel
      kwd_less
      kwd_rel
      refine wr_ixS hlen hch ?_
      kwd_rel
      refine wr_ninC ?_
      rw [b4]
      kwd_rel
      kwd_less
      kwd_rel
      have := fin oki [] 1 _ rfl rfl rfl
      rw [List.map_nil, List.append_nil] at this
      exact this
    | sgn c =>
      have hch := one c rfl
      have hcut : cutS (mkS (txts its)) (some (((txts pre).length : Nat) : Int)) (some (((txts pre).length : Nat) + 1 : Int)) = mkS [c] := by
        have := cutS_mid (txts pre) [c] (txts rest)
        rw [htx, txts, It.txt, ← List.append_assoc]
        exact this
      have b1 : decide (c ∈ ("0123456789" : Str).cps.toList) = false := by rcases oki with rfl | rfl | rfl | rfl | rfl <;> decide +kernel
      have b4 : (!decide (c ∈ (" \n" : Str).cps.toList)) = true := by rcases oki with rfl | rfl | rfl | rfl | rfl <;> decide +kernel
      refine wr_ixS hlen hch ?_
      kwd_rel
      refine wr_inC ?_
      rw [b1]
      kwd_rel
      kwd_less
      kwd_rel
      refine wr_ixS hlen hch ?_
      kwd_rel
      refine wr_ninC ?_
      by_cases b2 : (!decide (c ∈ (":[]" : Str).cps.toList)) = true
      · have b3 : (!decide (c ∈ ("bs \n" : Str).cps.toList)) = false := by
          rcases oki with rfl | rfl | rfl | rfl | rfl
          · decide +kernel
          · decide +kernel
          · exact absurd b2 (by decide +kernel)
          · exact absurd b2 (by decide +kernel)
          · exact absurd b2 (by decide +kernel)
        rw [b2]
        kwd_rel
        kwd_less
        kwd_rel
        refine wr_ixS hlen hch ?_
        kwd_rel
        refine wr_ninC ?_
        rw [b3]
        kwd_rel
        kwd_less
        kwd_rel
        refine wr_ixS hlen hch ?_
        kwd_rel
        refine wr_ninC ?_
        rw [b4]
        kwd_rel
        kwd_less
        kwd_rel
        refine w_bmL ?_
        kwd_rel
        refine ⟨⟨_, .cell updC_same⟩, ?_⟩
        kwd_rel
        refine wsl_str hlen ?_
        rw [hcut]
        kwd_rel
        refine wm_append updC_same (by rw [List.length_map]; omega) ?_
        kwd_rel
        rw [updC_updC]
        exact fin oki [((txts pre).length, [c])] 1 _ rfl rfl rfl
      · rw [show (!decide (c ∈ (":[]" : Str).cps.toList)) = false by simpa using b2]
        kwd_rel
        kwd_less
        kwd_rel
        kwd_less
        kwd_rel
        refine wr_ixS hlen hch ?_
        kwd_rel
        refine wr_ninC ?_
        rw [b4]
        kwd_rel
        kwd_less
        kwd_rel
        refine w_bmL ?_
        kwd_rel
        refine ⟨⟨_, .cell updC_same⟩, ?_⟩
        kwd_rel
        refine wsl_str hlen ?_
        rw [hcut]
        kwd_rel
        refine wm_append updC_same (by rw [List.length_map]; omega) ?_
        kwd_rel
        rw [updC_updC]
        exact fin oki [((txts pre).length, [c])] 1 _ rfl rfl rfl
    | dig l =>
      obtain ⟨c, l', rfl⟩ : ∃ c l', l = c :: l' := by
        cases l with
        | nil => exact absurd rfl oki.2
        | cons c l' => exact ⟨c, l', rfl⟩
      have hch : atI (mkS (txts its)).cps.toList (((txts pre).length : Nat) : Int) = some c := by
        rw [mkS_list, htx, txts, It.txt, List.cons_append]
        exact at_head _ _ _
      have b1 : decide (c ∈ ("0123456789" : Str).cps.toList) = true := by rw [dig_mem]; exact decide_eq_true (oki.1 c (by simp))
      have b4 : (!decide (c ∈ (" \n" : Str).cps.toList)) = true := by
        have := oki.1 c (by simp)
        have e : (" \n" : Str).cps.toList = [32, 10] := by decide +kernel
        rw [e, decide_eq_false]
        · rfl
        · simp
          omega
      have hcut := cutS_mid (txts pre) (c :: l') (txts rest)
      have htx2 : txts its = txts pre ++ (c :: l') ++ txts rest := by rw [htx, txts, It.txt, List.append_assoc]
      rw [← htx2] at hcut
      refine wr_ixS hlen hch ?_
      kwd_rel
      refine wr_inC ?_
      rw [b1]
      kwd_rel
      kwd_less
      kwd_rel
      refine ⟨txts pre, c :: l', txts rest, by rw [htx2], oki.1, ?_, by rw [← htx2]; exact hz, ?_⟩
      · rcases sep_headX hs (fun i hi => hok i (by rw [h1]; simp [hi])) with rfl | ⟨c2, t2, h2, h3⟩
        · exact .inl rfl
        · exact .inr ⟨c2, t2, h2, h3⟩
      kwd_rel
      refine wr_ixS hlen hch ?_
      kwd_rel
      refine wr_ninC ?_
      rw [b4]
      kwd_rel
      kwd_less
      kwd_rel
      refine w_bmL ?_
      kwd_rel
      refine ⟨⟨_, .cell updC_same⟩, ?_⟩
      kwd_rel
      refine wsl_str hlen ?_
      rw [hcut]
      kwd_rel
      refine wm_append updC_same (by rw [List.length_map]; omega) ?_
      kwd_rel
      rw [updC_updC]
      exact fin oki [((txts pre).length, c :: l')] (c :: l').length _ rfl rfl rfl
end
/-! steps as long as they are plain -/
set_option hygiene false in
local macro_rules
  | `(tactic| kwd_rel) => `(tactic| repeat (first
    | (with_reducible show W _ _ _ _ _; first
        | with_reducible refine w_var (by with_unfolding_all exact rfl) ?_
        | with_reducible refine w_int ?_
        | with_reducible refine w_op ?_
        | with_reducible refine w_str ?_
        | with_reducible refine w_cb ?_
        | with_reducible refine w_call ?_
        | with_reducible refine w_tup ?_
        | with_reducible refine w_ifExp ?_
        | with_reducible refine w_un ?_
        | with_reducible refine w_bl ?_
        | with_reducible refine w_non ?_
        | with_reducible refine w_ref ?_
        | with_reducible refine w_ty ?_
        | with_reducible refine w_notV ?_
        | with_reducible refine w_andV ?_
        | with_reducible refine w_orV ?_
        | with_reducible refine w_slice ?_
        | with_reducible refine w_chain ?_
        | with_reducible refine w_isN ?_
        | with_reducible refine w_notN ?_
        | with_reducible refine w_fld ?_
        | with_reducible refine w_meth ?_)
    | (with_reducible show WA _ _ _ _ _; first
        | with_reducible refine wa_cons ?_
        | with_reducible refine wa_nil ?_)
    | (with_reducible show WR _ _ _ _ _ _; first
        | with_reducible refine wr_bn ?_
        | with_reducible refine wr_bh ?_
        | (with_reducible show WR _ (rIx _) _ _ _ _; with_reducible refine wr_ix (by with_unfolding_all first | exact SeqD.tup | exact SeqD.lst | exact SeqD.cell updC_same | exact SeqD.cell (by assumption)) (by with_unfolding_all exact rfl) ?_)
        | with_reducible refine wr_intB ?_
        | with_reducible refine wr_ip ?_
        | with_reducible refine wr_int ?_
        | with_reducible refine wr_add ?_
        | (with_reducible show WR _ (rEqU _) _ _ _ _; with_reducible refine wr_eq (by with_unfolding_all exact rfl) ?_)
        | (with_reducible show WR _ (rNeU _) _ _ _ _; with_reducible refine wr_ne (by with_unfolding_all exact rfl) ?_)
        | (with_reducible show WR _ (rI _ _) _ _ _ _; with_reducible refine wr_mod (by first | assumption | decide | omega) ?_)
        | (with_reducible show WR _ (rI _ _) _ _ _ _; with_reducible refine wr_fdiv (by first | assumption | decide | omega) (by first | assumption | decide | omega) ?_)
        | (with_reducible show WR _ (rI _ _) _ _ _ _; with_reducible refine wr_mul (by omega) ?_)
        | with_reducible refine wr_pow (by decide) ?_
        | with_reducible refine wr_isN ?_
        | with_reducible refine wr_notN ?_)
    | (with_reducible show WS _ _ _ _ _; first
        | with_reducible refine ws_seq ?_
        | with_reducible refine ws_set ?_
        | with_reducible refine ws_ret ?_
        | with_reducible refine ws_if ?_
        | with_reducible refine ws_drop ?_
        | with_reducible refine ws_retN ?_
        | with_reducible refine ws_next ?_
        | with_reducible refine ws_break ?_
        | with_reducible refine ws_cont ?_
        | with_reducible refine ws_asg ?_
        | with_reducible refine ws_aug (by with_unfolding_all exact rfl) ?_
        | with_reducible refine ws_fldS ?_
        | with_reducible refine ws_fldAug ?_)
    | (with_reducible show WT _ _ _ _ _; first
        | with_reducible refine wt_test ?_
        | with_reducible refine wt_B ?_
        | with_reducible refine wt_truth ?_
        | with_reducible refine wt_and ?_
        | with_reducible refine wt_or ?_
        | with_reducible refine wt_not ?_
        | with_reducible refine wt_yes ?_)
    | (with_reducible show WC _ _ _ _ _; first
        | (with_reducible show WC _ (rLenU _) _ _ _; with_reducible refine wc_len (by with_unfolding_all first | exact SeqD.tup | exact SeqD.lst | exact SeqD.cell updC_same | exact SeqD.cell (by assumption)) ?_)
        | with_reducible refine wc_int ?_
        | (with_reducible show WC _ (rIsiU _) _ _ _; with_reducible refine wc_isi2 (by with_unfolding_all exact rfl) (by with_reducible first | exact kit_NoneType_list | exact kit_NoneType_tuple | exact kit_NoneType_bool | exact kit_NoneType_str | exact kit_NoneType_int | exact kit_NoneType_dict | exact kit_bool_list | exact kit_bool_tuple | exact kit_bool_bool | exact kit_bool_str | exact kit_bool_int | exact kit_bool_dict | exact kit_int_list | exact kit_int_tuple | exact kit_int_bool | exact kit_int_str | exact kit_int_int | exact kit_int_dict | exact kit_str_list | exact kit_str_tuple | exact kit_str_bool | exact kit_str_str | exact kit_str_int | exact kit_str_dict | exact kit_tuple_list | exact kit_tuple_tuple | exact kit_tuple_bool | exact kit_tuple_str | exact kit_tuple_int | exact kit_tuple_dict | exact kit_list_list | exact kit_list_tuple | exact kit_list_bool | exact kit_list_str | exact kit_list_int | exact kit_list_dict | exact kit_dict_list | exact kit_dict_tuple | exact kit_dict_bool | exact kit_dict_str | exact kit_dict_int | exact kit_dict_dict) (by with_reducible first | exact kit_NoneType_list | exact kit_NoneType_tuple | exact kit_NoneType_bool | exact kit_NoneType_str | exact kit_NoneType_int | exact kit_NoneType_dict | exact kit_bool_list | exact kit_bool_tuple | exact kit_bool_bool | exact kit_bool_str | exact kit_bool_int | exact kit_bool_dict | exact kit_int_list | exact kit_int_tuple | exact kit_int_bool | exact kit_int_str | exact kit_int_int | exact kit_int_dict | exact kit_str_list | exact kit_str_tuple | exact kit_str_bool | exact kit_str_str | exact kit_str_int | exact kit_str_dict | exact kit_tuple_list | exact kit_tuple_tuple | exact kit_tuple_bool | exact kit_tuple_str | exact kit_tuple_int | exact kit_tuple_dict | exact kit_list_list | exact kit_list_tuple | exact kit_list_bool | exact kit_list_str | exact kit_list_int | exact kit_list_dict | exact kit_dict_list | exact kit_dict_tuple | exact kit_dict_bool | exact kit_dict_str | exact kit_dict_int | exact kit_dict_dict) ?_)
        | (with_reducible show WC _ (rIsiU _) _ _ _; with_reducible refine wc_isi (by with_unfolding_all exact rfl) (by with_reducible first | exact kit_NoneType_list | exact kit_NoneType_tuple | exact kit_NoneType_bool | exact kit_NoneType_str | exact kit_NoneType_int | exact kit_NoneType_dict | exact kit_bool_list | exact kit_bool_tuple | exact kit_bool_bool | exact kit_bool_str | exact kit_bool_int | exact kit_bool_dict | exact kit_int_list | exact kit_int_tuple | exact kit_int_bool | exact kit_int_str | exact kit_int_int | exact kit_int_dict | exact kit_str_list | exact kit_str_tuple | exact kit_str_bool | exact kit_str_str | exact kit_str_int | exact kit_str_dict | exact kit_tuple_list | exact kit_tuple_tuple | exact kit_tuple_bool | exact kit_tuple_str | exact kit_tuple_int | exact kit_tuple_dict | exact kit_list_list | exact kit_list_tuple | exact kit_list_bool | exact kit_list_str | exact kit_list_int | exact kit_list_dict | exact kit_dict_list | exact kit_dict_tuple | exact kit_dict_bool | exact kit_dict_str | exact kit_dict_int | exact kit_dict_dict) ?_)
        | with_reducible refine wc_abs ?_
        | with_reducible refine wc_max2 ?_
        | with_reducible refine wc_min2 ?_)
    | (with_reducible show WG _ _ _ _ _ _; first
        | with_reducible refine wg_name ?_
        | with_reducible refine wg_sub ?_)
    | (with_reducible show WU _ _ _ _ _; first
        | with_reducible refine wu_int ?_)
    | (with_reducible show WO _ _ _ _ _; first
        | with_reducible refine wo_none ?_
        | with_reducible refine wo_some ?_)
    | (with_reducible show WSl _ _ _ _ _ _ _; first
        | with_reducible refine wsl_tupE (by with_unfolding_all exact rfl) ?_
        | with_reducible refine wsl_lstE (by with_unfolding_all exact rfl) ?_)
    | (with_reducible show WSet _ _ _ _ _ _ _; first
        | with_reducible refine wset_list (by first | exact updC_same | assumption) (by with_unfolding_all exact rfl) ?_)
    | with_reducible refine ex_bl ?_
    | with_reducible refine tru_bl ?_
    | (with_reducible show ∃ _, ∃ _, (_ = some (Cell.ins _ _)) ∧ _; with_reducible refine Exists.intro _ (Exists.intro _ (And.intro (by first | exact (insAny updC_same) | exact (insAny (by assumption))) ?_)))
    | (with_reducible show ∃ _, (_ = some (Cell.ins _ _)) ∧ _; with_reducible refine Exists.intro _ (And.intro (by first | exact (insAny updC_same) | exact (insAny (by assumption))) ?_))
    | (with_reducible show FldOk _ _ _ ∧ _; with_reducible refine And.intro (by first | exact ClsOk.fld kA (by decide +kernel) | exact ClsOk.fld kB (by decide +kernel) | exact ClsOk.fld kC (by decide +kernel)) ?_)
    | (with_reducible show _ = none ∧ _; with_reducible refine And.intro (by with_unfolding_all exact lookN rfl) ?_)
    | (with_reducible show ∃ _, _ ∧ _; with_reducible refine Exists.intro _ (And.intro (by with_unfolding_all first | exact rfl | exact SeqF.tup | exact SeqF.lst) ?_))
    | ((first | with_reducible show _ ≤ _ ∧ _ | with_reducible show _ < _ ∧ _); with_reducible refine And.intro (by with_unfolding_all exact Nat.le_of_ble_eq_true rfl) ?_)
    | with_reducible refine nx_show ?_
    | with_reducible refine rt_show ?_
    | with_reducible refine ct_show ?_
    | with_reducible refine bk_show ?_))
/-! a test's two ways; one that cannot be goes away -/
set_option hygiene false in
local macro_rules
  | `(tactic| kwd_less) => `(tactic| (refine ite_two (fun hc => ?_) (fun hc => ?_) <;> first | (exact absurd hc (by with_unfolding_all exact Bool.false_ne_true)) | (exact absurd hc (by with_unfolding_all exact Bool.noConfusion)) | (exact absurd hc (by decide +kernel)) | skip))
section
variable {P : Program} {w : World} {K : PySem.W.Frag} {mg : Str → Option Value} {base : Heap}
/-! ### the reader of tokens, that refuses -/
structure Rd where
  r : Addr
  t : Addr
  w : Addr
  m : Addr
def rdF (R : Rd) (len : Nat) (i : Nat) : List (Str × D) := [("tokens", .ref R.t), ("length", .int (len : Nat)), ("at", .int (i : Nat)), ("wrong", .ref R.w), ("numbers", .ref R.m)]
def dblD (p : Int × Nat) : D := .tup [.int p.1, .int (p.2 : Nat)]
def plcD (n : Nat) : D := .int (n : Nat)
def TkT (t : List Nat) : Prop := (∃ n : Int, Numl n t) ∨ t = [98] ∨ t = [115] ∨ t = [58] ∨ t = [91] ∨ t = [93]
structure RdW (mg : Str → Option Value) (C : CH) (R : Rd) (T : List Tok') (len i : Nat) (ws : List Nat) (ns : List (Int × Nat)) : Prop where
  cr : C R.r = some (.ins (clsA mg "Reader") (rdF R len i))
  ct : C R.t = some (.lst (T.map tokD))
  cw : C R.w = some (.lst (ws.map plcD))
  cm : C R.m = some (.lst (ns.map dblD))
  mt : R.m ≠ R.t
  mw : R.m ≠ R.w
  wt : R.w ≠ R.t
  ok : ∀ t ∈ T, TkT t.2
  tl : T.length ≤ 50000
  il : i ≤ T.length
  wl : ws.length ≤ i
  nl : ns.length ≤ i
  pl : ∀ t ∈ T, t.1 ≤ 100000
  ll : len ≤ 100000
section
variable {C C' : CH} {R : Rd} {T : List Tok'} {len i : Nat} {ws : List Nat} {ns : List (Int × Nat)}
theorem RdW.rt (h : RdW mg C R T len i ws ns) : R.r ≠ R.t ∧ R.r ≠ R.w ∧ R.r ≠ R.m := by
  refine ⟨fun z => ?_, fun z => ?_, fun z => ?_⟩
  · have := h.cr; rw [z, h.ct] at this; cases this
  · have := h.cr; rw [z, h.cw] at this; cases this
  · have := h.cr; rw [z, h.cm] at this; cases this
theorem RdW.go (h : RdW mg C R T len i ws ns) (hi : i < T.length) : RdW mg (updC C R.r (.ins (clsA mg "Reader") (rdF R len (i + 1)))) R T len (i + 1) ws ns := by
  obtain ⟨a, b, c⟩ := h.rt
  have := h.wl
  have := h.nl
  exact ⟨updC_same, by rw [updC_ne (Ne.symm a)]; exact h.ct, by rw [updC_ne (Ne.symm b)]; exact h.cw, by rw [updC_ne (Ne.symm c)]; exact h.cm, h.mt, h.mw, h.wt, h.ok, h.tl, hi, by omega, by omega, h.pl, h.ll⟩
theorem RdW.wrong {x : Nat} (h : RdW mg C R T len i ws ns) (hi : i < T.length) : RdW mg (updC (updC C R.w (.lst ((ws ++ [x]).map plcD))) R.r (.ins (clsA mg "Reader") (rdF R len (i + 1)))) R T len (i + 1) (ws ++ [x]) ns := by
  obtain ⟨a, b, c⟩ := h.rt
  have := h.wl
  have := h.nl
  exact ⟨updC_same, by rw [updC_ne (Ne.symm a), updC_ne (Ne.symm h.wt)]; exact h.ct, by rw [updC_ne (Ne.symm b), updC_same], by rw [updC_ne (Ne.symm c), updC_ne h.mw]; exact h.cm, h.mt, h.mw, h.wt, h.ok, h.tl, hi, by rw [List.length_append, List.length_singleton]; omega, by omega, h.pl, h.ll⟩
theorem RdW.note {m : List (Int × Nat)} (h : RdW mg C R T len i ws ns) (hm : m.length ≤ i) : RdW mg (updC C R.m (.lst (m.map dblD))) R T len i ws m := by
  obtain ⟨a, b, c⟩ := h.rt
  exact ⟨by rw [updC_ne c]; exact h.cr, by rw [updC_ne (Ne.symm h.mt)]; exact h.ct, by rw [updC_ne (Ne.symm h.mw)]; exact h.cw, updC_same, h.mt, h.mw, h.wt, h.ok, h.tl, h.il, h.wl, hm, h.pl, h.ll⟩
theorem RdW.keep (h : RdW mg C R T len i ws ns) (k : ∀ z c, C z = some c → C' z = some c) : RdW mg C' R T len i ws ns := ⟨k _ _ h.cr, k _ _ h.ct, k _ _ h.cw, k _ _ h.cm, h.mt, h.mw, h.wt, h.ok, h.tl, h.il, h.wl, h.nl, h.pl, h.ll⟩
end
/-- what the reading leaves alone -/
def Keep (C C' : CH) (R : Rd) : Prop := ∀ z, z ≠ R.r → z ≠ R.m → z ≠ R.w → C' z = C z
def KeepX (C C' : CH) (R : Rd) : Prop := ∀ z x, z ≠ R.r → z ≠ R.m → z ≠ R.w → C z = some x → C' z = some x
theorem Keep.trans {C C1 C2 : CH} {R : Rd} (a : Keep C C1 R) (b : Keep C1 C2 R) : Keep C C2 R := fun z h1 h2 h3 => (b z h1 h2 h3).trans (a z h1 h2 h3)
theorem Keep.x {C C1 C2 : CH} {R : Rd} (a : Keep C C1 R) (b : KeepX C1 C2 R) : KeepX C C2 R := fun z x h1 h2 h3 e => b z x h1 h2 h3 ((a z h1 h2 h3).trans e)
theorem KeepX.refl {C : CH} {R : Rd} : KeepX C C R := fun _ _ _ _ _ e => e
def tokAt (T : List Tok') (i : Nat) : List Nat := match T[i]? with
  | some t => t.2
  | none => []
def plcAt (T : List Tok') (len i : Nat) : Nat := match T[i]? with
  | some t => t.1
  | none => len
theorem tokD_at {T : List Tok'} {i : Nat} {t : Tok'} (h : T[i]? = some t) : atI (T.map tokD) ((i : Nat) : Int) = some (tokD t) := by
  refine atI_nat ?_
  rw [List.getElem?_map, h]
  rfl
theorem lt_of_at {T : List Tok'} {i : Nat} {t : Tok'} (h : T[i]? = some t) : i < T.length := (List.getElem?_eq_some_iff.mp h).1
theorem tok_lt {T : List Tok'} {i : Nat} (h : tokAt T i ≠ []) : i < T.length := by
  unfold tokAt at h
  cases e : T[i]? with
  | none => rw [e] at h; exact absurd rfl h
  | some t => exact lt_of_at e
theorem tok_ge {T : List Tok'} {i : Nat} (h : tokAt T i = []) (ok : ∀ t ∈ T, TkT t.2) : T.length ≤ i := by
  unfold tokAt at h
  cases e : T[i]? with
  | none => exact List.getElem?_eq_none_iff.mp e
  | some t =>
    rw [e] at h
    replace h : t.2 = [] := h
    rcases ok t (List.mem_of_getElem? e) with ⟨n, hn⟩ | h1 | h1 | h1 | h1 | h1
    · exact absurd h hn.ne
    all_goals rw [h] at h1; cases h1
theorem tok_ok {T : List Tok'} {i : Nat} (h : tokAt T i ≠ []) (ok : ∀ t ∈ T, TkT t.2) : TkT (tokAt T i) := by
  unfold tokAt at h ⊢
  cases e : T[i]? with
  | none => rw [e] at h; exact absurd rfl h
  | some t => exact ok t (List.mem_of_getElem? e)
theorem plc_le {T : List Tok'} {len i : Nat} (pl : ∀ t ∈ T, t.1 ≤ 100000) (ll : len ≤ 100000) : plcAt T len i ≤ 100000 := by
  unfold plcAt
  cases e : T[i]? with
  | none => exact ll
  | some t => exact pl t (List.mem_of_getElem? e)
/-- the error of a token that cannot stand at i -/
def unexp (T : List Tok') (i : Nat) : Str := if i < T.length then "unexpected token" else "unexpected end"
def errT (T : List Tok') (len i : Nat) : Exn := .fld "TextError" [("message", .str (unexp T i)), ("place", .int (plcAt T len i : Nat))]
def isDgT : List Nat → Bool
  | c :: _ => decide (48 ≤ c ∧ c ≤ 57)
  | [] => false
def fTokenW (mg : Str → Option Value) : SpD := fun ds C P => ∃ (R : Rd) (T : List Tok') (len i : Nat) (ws : List Nat) (ns : List (Int × Nat)), ds = [.ref R.r] ∧ RdW mg C R T len i ws ns ∧ P (.str (mkS (tokAt T i))) C
def fPlaceW (mg : Str → Option Value) : SpD := fun ds C P => ∃ (R : Rd) (T : List Tok') (len i : Nat) (ws : List Nat) (ns : List (Int × Nat)), ds = [.ref R.r] ∧ RdW mg C R T len i ws ns ∧ P (.int ((plcAt T len i : Nat) : Int)) C
abbrev sReader_token : Stmt := inClass (topS 16) 1
theorem scReader_token : FnScope ["self"] ["self"] (defScope sReader_token) := ⟨rfl, rfl, rfl, by decide +kernel, rfl, by decide +kernel, by decide +kernel⟩
theorem ok_Reader_token {k : Nat} (Df : MetAt K mg "Reader" "token" "Reader.token" sReader_token ["self"]) (T : Top mg) (TK : TopK K mg) : HasM P w K mg base (k+1) "Reader" "token" ["self"] (spD (fTokenW mg)) := by
  refine has_ofM Df scReader_token (fun ds C P ⟨_, _, _, _, _, _, h, _⟩ => by rw [h]; rfl) fun f cdv A outer s H E hr => ⟨_, 
    (pss_one (ps_ret (pe_ifExp (pt_cmpR op_lt (pe_fldK K (pv 0) rfl) (pe_callB (call_lenK K) (by rfl) T.len bt_len (pa_cons (pe_fldK K (pv 0) rfl) pa_nil)) (nomark _)) (pe_ix (ix_seqK K) (pe_ix (ix_seqK K) (pe_fldK K (pv 0) rfl) (pe_fldK K (pv 0) rfl) (fun _ _ => rfl)) pe_int (fun _ _ => rfl)) pe_str))), fun B ds C P ⟨R, Tk, len, i, ws, ns, hd, hR, q⟩ => ?_⟩
  subst hd
  have kA := TK.k_Reader
  have h1 := hR.cr
  have h2 := hR.ct
  kwd_rel
  rw [List.length_map]
  cases e : Tk[i]? with
  | none =>
    have hl : Tk.length ≤ i := List.getElem?_eq_none_iff.mp e
    refine ite_two (fun z => absurd (of_decide_eq_true z) (by omega)) (fun _ => ?_)
    kwd_rel
    rw [tokAt, e] at q
    exact q
  | some t =>
    have hl := lt_of_at e
    refine ite_two (fun _ => ?_) (fun z => absurd (of_decide_eq_false z) (by omega))
    kwd_rel
    refine wr_ix (.cell h2) (tokD_at e) ?_
    unfold tokD
    kwd_rel
    rw [tokAt, e] at q
    exact q
abbrev sReader_place : Stmt := inClass (topS 16) 2
theorem scReader_place : FnScope ["self"] ["self"] (defScope sReader_place) := ⟨rfl, rfl, rfl, by decide +kernel, rfl, by decide +kernel, by decide +kernel⟩
theorem ok_Reader_place {k : Nat} (Df : MetAt K mg "Reader" "place" "Reader.place" sReader_place ["self"]) (T : Top mg) (TK : TopK K mg) : HasM P w K mg base (k+1) "Reader" "place" ["self"] (spD (fPlaceW mg)) := by
  refine has_ofM Df scReader_place (fun ds C P ⟨_, _, _, _, _, _, h, _⟩ => by rw [h]; rfl) fun f cdv A outer s H E hr => ⟨_, 
    (pss_one (ps_ret (pe_ifExp (pt_cmpR op_lt (pe_fldK K (pv 0) rfl) (pe_callB (call_lenK K) (by rfl) T.len bt_len (pa_cons (pe_fldK K (pv 0) rfl) pa_nil)) (nomark _)) (pe_ix (ix_seqK K) (pe_ix (ix_seqK K) (pe_fldK K (pv 0) rfl) (pe_fldK K (pv 0) rfl) (fun _ _ => rfl)) pe_int (fun _ _ => rfl)) (pe_fldK K (pv 0) rfl)))), fun B ds C P ⟨R, Tk, len, i, ws, ns, hd, hR, q⟩ => ?_⟩
  subst hd
  have kA := TK.k_Reader
  have h1 := hR.cr
  have h2 := hR.ct
  kwd_rel
  rw [List.length_map]
  cases e : Tk[i]? with
  | none =>
    have hl : Tk.length ≤ i := List.getElem?_eq_none_iff.mp e
    refine ite_two (fun z => absurd (of_decide_eq_true z) (by omega)) (fun _ => ?_)
    kwd_rel
    rw [plcAt, e] at q
    exact q
  | some t =>
    have hl := lt_of_at e
    refine ite_two (fun _ => ?_) (fun z => absurd (of_decide_eq_false z) (by omega))
    kwd_rel
    refine wr_ix (.cell h2) (tokD_at e) ?_
    unfold tokD
    kwd_rel
    rw [plcAt, e] at q
    exact q
def fRefuse (mg : Str → Option Value) : SpX := fun ds C P PX => ∃ (R : Rd) (T : List Tok') (len i : Nat) (ws : List Nat) (ns : List (Int × Nat)), ds = [.ref R.r] ∧ RdW mg C R T len i ws ns ∧ PX (errT T len i) C
theorem tru_mk {C : CH} {l : List Nat} (h : l.length ≤ 100000) : TruD C (.str (mkS l)) = some (decide (l ≠ [])) := by
  show (if _ then _ else _) = _
  rw [if_pos (by rw [mkS_len]; omega), mkS_len]
  cases l with
  | nil => rfl
  | cons c l =>
    rw [decide_eq_true (by simp : (c :: l) ≠ [])]
    rfl
theorem tkT_len {t : List Nat} (h : TkT t) : t.length ≤ 100 := by
  rcases h with ⟨n, hn⟩ | rfl | rfl | rfl | rfl | rfl
  · exact hn.len
  all_goals exact Nat.le_of_ble_eq_true rfl
theorem tokAt_len {T : List Tok'} {i : Nat} (ok : ∀ t ∈ T, TkT t.2) : (tokAt T i).length ≤ 100 := by
  by_cases e : tokAt T i = []
  · rw [e]; exact Nat.zero_le _
  · exact tkT_len (tok_ok e ok)
abbrev sReader_refuse : Stmt := inClass (topS 16) 3
theorem scReader_refuse : FnScope ["self"] ["self"] (defScope sReader_refuse) := ⟨rfl, rfl, rfl, by decide +kernel, rfl, by decide +kernel, by decide +kernel⟩
theorem ok_Reader_refuse {k : Nat} (Df : MetAt K mg "Reader" "refuse" "Reader.refuse" sReader_refuse ["self"]) (T : Top mg) (TK : TopK K mg) (TX : TopX K mg) (h_TextError : HasE P w K mg base k "TextError" ["self", "place", "message"] (spTT K)) (h_Reader_token : HasM P w K mg base k "Reader" "token" ["self"] (spD (fTokenW mg))) (h_Reader_place : HasM P w K mg base k "Reader" "place" ["self"] (spD (fPlaceW mg))) : HasMA P w K mg base (k+2) "Reader" "refuse" ["self"] (spX mg (fRefuse mg)) := by
  refine has_ofMA Df scReader_refuse (fun ds C P PX ⟨_, _, _, _, _, _, h, _⟩ => by rw [h]; rfl) fun f cdv A outer s H E hr => ⟨_, (have tk := tkA_of (P := P) (w := w) (K := K) (mg := mg) (base := base); 
    (pss_one (ps_rsA h_TextError (hr.mono (by omega)) tk (pa_cons (pe_mt0 mg h_Reader_place TK.k_Reader.cls (hr.mono (by omega)) (pv 0)) (pa_cons (pe_ifExp (pt_truK K (pe_mt0 mg h_Reader_token TK.k_Reader.cls (hr.mono (by omega)) (pv 0))) pe_str pe_str) pa_nil))))), fun B ds C P PX ⟨R, Tk, len, i, ws, ns, hd, hR, q⟩ hX => ?_⟩
  subst hd
  have kA := TK.k_Reader
  have h1 := hR.cr
  have hp := plc_le (i := i) hR.pl hR.ll
  have htl := tokAt_len (i := i) hR.ok
  refine ws_raiseA h_TextError hX.ok ?_
  kwd_rel
  refine ⟨R, Tk, len, i, ws, ns, rfl, hR, ?_⟩
  kwd_rel
  refine ⟨R, Tk, len, i, ws, ns, rfl, hR, ?_⟩
  refine ⟨_, tru_mk (by omega), ?_⟩
  by_cases e : tokAt Tk i = []
  · rw [e]
    refine ite_two (fun z => by cases z) (fun _ => ?_)
    kwd_rel
    refine ⟨_, _, rfl, ⟨by omega, by omega⟩, by decide +kernel, ?_⟩
    unfold errT unexp at q
    rw [if_neg (by have := tok_ge e hR.ok; omega)] at q
    exact q
  · rw [decide_eq_true e]
    refine ite_two (fun _ => ?_) (fun z => by cases z)
    kwd_rel
    refine ⟨_, _, rfl, ⟨by omega, by omega⟩, by decide +kernel, ?_⟩
    unfold errT unexp at q
    rw [if_pos (tok_lt e)] at q
    exact q
def fNeedX (mg : Str → Option Value) : SpX := fun ds C P PX => ∃ (R : Rd) (T : List Tok') (len i : Nat) (ws : List Nat) (ns : List (Int × Nat)) (l : List Nat), ds = [.ref R.r, .str (mkS l)] ∧ l ≠ [] ∧ RdW mg C R T len i ws ns ∧
  (tokAt T i = l → ∀ C', RdW mg C' R T len (i + 1) ws ns → Keep C C' R → P .non C') ∧ (tokAt T i ≠ l → PX (errT T len i) C)
abbrev sReader_need : Stmt := inClass (topS 16) 4
theorem scReader_need : FnScope ["self", "token"] ["self", "token"] (defScope sReader_need) := ⟨rfl, rfl, rfl, by decide +kernel, rfl, by decide +kernel, by decide +kernel⟩
theorem ok_Reader_need {k : Nat} (Df : MetAt K mg "Reader" "need" "Reader.need" sReader_need ["self", "token"]) (T : Top mg) (TK : TopK K mg) (h_Reader_token : HasM P w K mg base k "Reader" "token" ["self"] (spD (fTokenW mg))) (h_Reader_refuse : HasMA P w K mg base k "Reader" "refuse" ["self"] (spX mg (fRefuse mg))) : HasMA P w K mg base (k+1) "Reader" "need" ["self", "token"] (spX mg (fNeedX mg)) := by
  refine has_ofMA Df scReader_need (fun ds C P PX ⟨_, _, _, _, _, _, _, h, _⟩ => by rw [h]; rfl) fun f cdv A outer s H E hr => ⟨_, (have tk := tkA_of (P := P) (w := w) (K := K) (mg := mg) (base := base); 
    (pss_cons (ps_if (pt_cmpR (op_neK K hr) (pe_mt0 mg h_Reader_token TK.k_Reader.cls (hr.mono (by omega)) (pv 0)) (pv 1) (nomark _)) 
      (pss_one (ps_expr (pe_mtA0 mg h_Reader_refuse TK.k_Reader.cls (hr.mono (by omega)) (pv 0) tk))) pss_nil)
    (pss_one (ps_fldaugK K (pv 0) pe_int in_add)))), fun B ds C P PX ⟨R, Tk, len, i, ws, ns, l, hd, hl, hR, q, qx⟩ hX => ?_⟩
  subst hd
  have kA := TK.k_Reader
  have h1 := hR.cr
  kwd_rel
  refine ⟨R, Tk, len, i, ws, ns, rfl, hR, ?_⟩
  kwd_rel
  by_cases e : tokAt Tk i = l
  · rw [e]
    refine ite_two (fun z => ?_) (fun _ => ?_)
    · simp at z
    kwd_rel
    refine wr_inAdd ?_
    kwd_rel
    exact q e _ (hR.go (tok_lt (by rw [e]; exact hl))) fun z hz _ _ => updC_ne hz
  · refine ite_two (fun _ => ?_) (fun z => ?_)
    · refine ws_drop (w_methX hX.ok ?_)
      kwd_rel
      exact ⟨R, Tk, len, i, ws, ns, rfl, hR, qx e⟩
    · have z2 : decide (mkS (tokAt Tk i) = mkS l) = true := by simpa using z
      exact absurd (mkS_inj (of_decide_eq_true z2)) e
def outW (T : List Tok') (len i : Nat) (lo hi n : Int) : List Nat := if lo ≤ n ∧ n ≤ hi then [] else [plcAt T len i]
def fNumberX (mg : Str → Option Value) : SpX := fun ds C P PX => ∃ (R : Rd) (T : List Tok') (len i : Nat) (ws : List Nat) (ns : List (Int × Nat)) (lo hi : Int), ds = [.ref R.r, .int lo, .int hi] ∧ RdW mg C R T len i ws ns ∧
  (∀ n, Numl n (tokAt T i) → ∀ C', RdW mg C' R T len (i + 1) (ws ++ outW T len i lo hi n) ns → Keep C C' R → P (.int n) C') ∧ (isDgT (tokAt T i) = false → PX (errT T len i) C)
abbrev sReader_number : Stmt := inClass (topS 16) 5
theorem scReader_number : FnScope ["self", "least", "most", "number"] ["self", "least", "most"] (defScope sReader_number) := ⟨rfl, rfl, rfl, by decide +kernel, rfl, by decide +kernel, by decide +kernel⟩
theorem ok_Reader_number {k : Nat} (Df : MetAt K mg "Reader" "number" "Reader.number" sReader_number ["self", "least", "most"]) (T : Top mg) (TK : TopK K mg) (h_Reader_token : HasM P w K mg base k "Reader" "token" ["self"] (spD (fTokenW mg))) (h_Reader_place : HasM P w K mg base k "Reader" "place" ["self"] (spD (fPlaceW mg))) (h_Reader_refuse : HasMA P w K mg base k "Reader" "refuse" ["self"] (spX mg (fRefuse mg))) : HasMA P w K mg base (k+1) "Reader" "number" ["self", "least", "most"] (spX mg (fNumberX mg)) := by
  refine has_ofMA Df scReader_number (fun ds C P PX ⟨_, _, _, _, _, _, _, _, h, _⟩ => by rw [h]; rfl) fun f cdv A outer s H E hr => ⟨_, (have tk := tkA_of (P := P) (w := w) (K := K) (mg := mg) (base := base); 
    (pss_cons (ps_if (PW.pt (pw_or (pt_not (pt_truK K (pe_mt0 mg h_Reader_token TK.k_Reader.cls (hr.mono (by omega)) (pv 0)))) (pw_or1 (pt_cmpR (op_ninK K) (pe_ix (ix_seqK K) (pe_mt0 mg h_Reader_token TK.k_Reader.cls (hr.mono (by omega)) (pv 0)) pe_int (fun _ _ => rfl)) (pe_globS T.c_DIGITS) (by rfl))))) 
      (pss_one (ps_expr (pe_mtA0 mg h_Reader_refuse TK.k_Reader.cls (hr.mono (by omega)) (pv 0) tk))) pss_nil)
    (pss_cons (ps_nm 3 scReader_number.nd (pe_callTy call_intU (by rfl) T.int bt_int (pa_cons (pe_mt0 mg h_Reader_token TK.k_Reader.cls (hr.mono (by omega)) (pv 0)) pa_nil)))
    (pss_cons (ps_if (pt_not (pt_chain op_le op_le (pv 1) (pv 3) (pv 2))) 
      (pss_one (ps_expr (pe_bmK K PySem.F.plainAttrs_list PySem.F.slot_list_append PySem.F.type_list_append mt_append (pe_fldK K (pv 0) rfl) (pa_cons (pe_mt0 mg h_Reader_place TK.k_Reader.cls (hr.mono (by omega)) (pv 0)) pa_nil)))) pss_nil)
    (pss_cons (ps_fldaugK K (pv 0) pe_int in_add)
    (pss_one (ps_ret (pv 3)))))))), fun B ds C P PX ⟨R, Tk, len, i, ws, ns, lo, hi, hd, hR, q, qx⟩ hX => ?_⟩
  subst hd
  have kA := TK.k_Reader
  have h1 := hR.cr
  have hz0 := tokAt_len (i := i) hR.ok
  have tok : ∀ l, tokAt Tk i = l → l ≠ [] → TkT l := fun l e hl => by rw [← e]; exact tok_ok (by rw [e]; exact hl) hR.ok
  have hlt : tokAt Tk i ≠ [] → i < Tk.length := tok_lt
  generalize htk : tokAt Tk i = l at q qx hz0 tok hlt
  replace tok := tok l rfl
  cases l with
  | nil =>
    kwd_rel
    refine ⟨R, Tk, len, i, ws, ns, rfl, hR, ?_⟩
    rw [htk]
    refine ⟨_, tru_mk (by simp), ?_⟩
    kwd_rel
    kwd_less
    kwd_rel
    kwd_less
    refine ws_drop (w_methX hX.ok ?_)
    kwd_rel
    exact ⟨R, Tk, len, i, ws, ns, rfl, hR, qx rfl⟩
  | cons c l' =>
    have hz : (mkS (c :: l')).length ≤ 1000000 := by rw [mkS_len]; omega
    have hat : atI (mkS (c :: l')).cps.toList 0 = some c := by rw [mkS_list]; exact atI_zero
    kwd_rel
    refine ⟨R, Tk, len, i, ws, ns, rfl, hR, ?_⟩
    rw [htk]
    refine ⟨_, tru_mk (by omega), ?_⟩
    kwd_rel
    kwd_less
    kwd_rel
    refine ⟨R, Tk, len, i, ws, ns, rfl, hR, ?_⟩
    rw [htk]
    kwd_rel
    refine wr_ixS hz hat ?_
    kwd_rel
    refine wr_ninC ?_
    rw [dig_mem]
    by_cases hdg : 48 ≤ c ∧ c ≤ 57
    · obtain ⟨n, hn⟩ : ∃ n : Int, Numl n (c :: l') := by
        rcases tok (by simp) with h | h | h | h | h | h
        · exact h
        all_goals
          injection h with h _
          omega
      have hrd := hn.reads
      rw [decide_eq_true hdg]
      kwd_rel
      kwd_less
      kwd_rel
      refine ⟨R, Tk, len, i, ws, ns, rfl, hR, ?_⟩
      rw [htk]
      kwd_rel
      refine wc_intS hrd (by rw [mkS_len]; omega) ?_
      have hil := hlt (by simp)
      have hwl := hR.wl
      have htl := hR.tl
      kwd_rel
      by_cases hin : lo ≤ n ∧ n ≤ hi
      · refine ite_two (fun _ => ?_) (fun z => absurd (of_decide_eq_false z) (by omega))
        kwd_rel
        refine ite_two (fun z => ?_) (fun _ => ?_)
        · rw [decide_eq_true hin.2] at z
          cases z
        kwd_rel
        refine wr_inAdd ?_
        kwd_rel
        refine q n hn _ ?_ fun z hz _ _ => updC_ne hz
        unfold outW
        rw [if_pos hin, List.append_nil]
        exact hR.go hil
      · have cw := hR.cw
        obtain ⟨a1, a2, a3⟩ := hR.rt
        by_cases hlo : lo ≤ n
        · refine ite_two (fun _ => ?_) (fun z => absurd hlo (of_decide_eq_false z))
          kwd_rel
          refine ite_two (fun _ => ?_) (fun z => ?_)
          rotate_left
          · rw [decide_eq_false (fun y => hin ⟨hlo, y⟩)] at z
            cases z
          kwd_rel
          refine w_bmL ?_
          kwd_rel
          refine ⟨⟨_, .cell cw⟩, ?_⟩
          kwd_rel
          refine ⟨R, Tk, len, i, ws, ns, rfl, hR, ?_⟩
          kwd_rel
          refine wm_append cw (by rw [List.length_map]; omega) ?_
          have c2 : updC C R.w (.lst (ws.map plcD ++ [.int ((plcAt Tk len i : Nat) : Int)])) R.r = some (.ins (clsA mg "Reader") (rdF R len i)) := by
            rw [updC_ne a2]
            exact h1
          kwd_rel
          refine wr_inAdd ?_
          kwd_rel
          refine q n hn _ ?_ fun z z1 z2 z3 => by rw [updC_ne z1, updC_ne z3]
          unfold outW
          rw [if_neg hin]
          have := hR.wrong (x := plcAt Tk len i) hil
          rw [List.map_append] at this
          exact this
        · refine ite_two (fun z => absurd (of_decide_eq_true z) hlo) (fun _ => ?_)
          kwd_rel
          kwd_less
          refine ws_drop (w_bmL ?_)
          kwd_rel
          refine ⟨⟨_, .cell cw⟩, ?_⟩
          kwd_rel
          refine ⟨R, Tk, len, i, ws, ns, rfl, hR, ?_⟩
          kwd_rel
          refine wm_append cw (by rw [List.length_map]; omega) ?_
          have c2 : updC C R.w (.lst (ws.map plcD ++ [.int ((plcAt Tk len i : Nat) : Int)])) R.r = some (.ins (clsA mg "Reader") (rdF R len i)) := by
            rw [updC_ne a2]
            exact h1
          kwd_rel
          refine wr_inAdd ?_
          kwd_rel
          refine q n hn _ ?_ fun z z1 z2 z3 => by rw [updC_ne z1, updC_ne z3]
          unfold outW
          rw [if_neg hin]
          have := hR.wrong (x := plcAt Tk len i) hil
          rw [List.map_append] at this
          exact this
    · rw [decide_eq_false hdg]
      kwd_rel
      kwd_less
      refine ws_drop (w_methX hX.ok ?_)
      kwd_rel
      exact ⟨R, Tk, len, i, ws, ns, rfl, hR, qx (by simp [isDgT, hdg])⟩
end
section
/-! ### what the reader finds: an error's index, or a thing, the next index, what is out of range, the numbers -/
inductive Rs (α : Type) where
  | er (e : Nat)
  | ok (a : α) (j : Nat) (w : List Nat) (m : List (Int × Nat))
theorem numl_dg {n : Int} {l : List Nat} (h : Numl n l) : isDgT l = true := by
  cases l with
  | nil => exact absurd rfl h.ne
  | cons c r => exact decide_eq_true (h.dig c (by simp))
theorem dg_numl {l : List Nat} (k : TkT l) (h : isDgT l = true) : ∃ n, Numl n l := by
  rcases k with k | rfl | rfl | rfl | rfl | rfl
  · exact k
  all_goals exact absurd h (by decide)
theorem numl_eq {a b : Int} {l : List Nat} (h : Numl a l) (k : Numl b l) : a = b := h.val.symm.trans k.val
inductive HeadR (T : List Tok') (len i : Nat) : Rs (Int × Int) → Prop
  | e1 : isDgT (tokAt T i) = false → HeadR T len i (.er i)
  | e2 {n : Int} : Numl n (tokAt T i) → tokAt T (i + 1) ≠ [58] → HeadR T len i (.er (i + 1))
  | e3 {n : Int} : Numl n (tokAt T i) → tokAt T (i + 1) = [58] → isDgT (tokAt T (i + 2)) = false → HeadR T len i (.er (i + 2))
  | ok {n h : Int} : Numl n (tokAt T i) → tokAt T (i + 1) = [58] → Numl h (tokAt T (i + 2)) → HeadR T len i (.ok (n, h) (i + 3) (outW T len i 1 999 n ++ outW T len (i + 2) 0 1000 h) [(n, plcAt T len i)])
def addsR (pre : List Box) (w : List Nat) (m : List (Int × Nat)) : Rs (List Box) → Rs (List Box)
  | .er e => .er e
  | .ok ps j w2 m2 => .ok (pre ++ ps) j (w ++ w2) (m ++ m2)
def scrR (n h : Int) (w : List Nat) (m : List (Int × Nat)) : Rs (List Box) → Rs Box
  | .er e => .er e
  | .ok ps j w2 m2 => .ok (.scroller n h ps) (j + 1) (w ++ w2) (m ++ m2)
theorem addsR_addsR (pre pre2 : List Box) (w w2 : List Nat) (m m2 : List (Int × Nat)) (r : Rs (List Box)) : addsR pre w m (addsR pre2 w2 m2 r) = addsR (pre ++ pre2) (w ++ w2) (m ++ m2) r := by
  cases r with
  | er e => rfl
  | ok ps j a b => simp only [addsR, List.append_assoc]
inductive PPs (T : List Tok') (Q : Nat → Rs Box → Prop) : Nat → Rs (List Box) → Prop
  | nil {i : Nat} : tokAt T i = [93] → PPs T Q i (.ok [] i [] [])
  | er {i e : Nat} : tokAt T i ≠ [93] → Q i (.er e) → PPs T Q i (.er e)
  | cons {i j : Nat} {p : Box} {w : List Nat} {z : List (Int × Nat)} {r r0 : Rs (List Box)} : tokAt T i ≠ [93] → Q i (.ok p j w z) → PPs T Q j r0 → r = addsR [p] w z r0 → PPs T Q i r
inductive PBs (T : List Tok') (len : Nat) (Q : Nat → Rs Box → Prop) : Nat → Rs Box → Prop
  | bE {i e : Nat} : tokAt T i = [98] → HeadR T len (i + 1) (.er e) → PBs T len Q i (.er e)
  | blk {i j : Nat} {m h : Int} {w : List Nat} {z : List (Int × Nat)} : tokAt T i = [98] → HeadR T len (i + 1) (.ok (m, h) j w z) → PBs T len Q i (.ok (.block m h) j w z)
  | no {i : Nat} : tokAt T i ≠ [98] → tokAt T i ≠ [115] → PBs T len Q i (.er i)
  | sE {i e : Nat} : tokAt T i = [115] → HeadR T len (i + 1) (.er e) → PBs T len Q i (.er e)
  | sO {i j : Nat} {m h : Int} {w : List Nat} {z : List (Int × Nat)} : tokAt T i = [115] → HeadR T len (i + 1) (.ok (m, h) j w z) → tokAt T j ≠ [91] → PBs T len Q i (.er j)
  | scr {i j : Nat} {m h : Int} {w : List Nat} {z : List (Int × Nat)} {r : Rs Box} {r0 : Rs (List Box)} : tokAt T i = [115] → HeadR T len (i + 1) (.ok (m, h) j w z) → tokAt T j = [91] → PPs T Q (j + 1) r0 → r = scrR m h w z r0 → PBs T len Q i r
/-- what read_box finds at i; the scrollers lie at most n deep -/
def PB (T : List Tok') (len : Nat) : Nat → Nat → Rs Box → Prop
  | 0, _, _ => False
  | n + 1, i, r => PBs T len (PB T len n) i r
theorem scrR_inv {n h : Int} {w : List Nat} {m : List (Int × Nat)} {r0 : Rs (List Box)} {b : Box} {j : Nat} {w' : List Nat} {m' : List (Int × Nat)} (e : scrR n h w m r0 = .ok b j w' m') : ∃ ps j0 w2 m2, r0 = .ok ps j0 w2 m2 ∧ b = .scroller n h ps ∧ j = j0 + 1 ∧ w' = w ++ w2 ∧ m' = m ++ m2 := by
  cases r0 with
  | er _ => cases e
  | ok ps j0 w2 m2 => cases e; exact ⟨ps, j0, w2, m2, rfl, rfl, rfl, rfl, rfl⟩
theorem scrR_er {n h : Int} {w : List Nat} {m : List (Int × Nat)} {r0 : Rs (List Box)} {x : Nat} (e : scrR n h w m r0 = .er x) : r0 = .er x := by
  cases r0 with
  | er _ => cases e; rfl
  | ok ps j0 w2 m2 => cases e
theorem HeadR.adv {T : List Tok'} {len i j : Nat} {a : Int × Int} {w : List Nat} {z : List (Int × Nat)} (h : HeadR T len i (.ok a j w z)) : j = i + 3 := by cases h; rfl
theorem PPs.adv {T : List Tok'} {Q : Nat → Rs Box → Prop} (hQ : ∀ i a j w z, Q i (.ok a j w z) → i < j) {i : Nat} {r : Rs (List Box)} (h : PPs T Q i r) : ∀ {a j w z}, r = .ok a j w z → i ≤ j := by
  induction h with
  | nil _ => intro a j w z e; cases e; exact Nat.le_refl _
  | er _ _ => intro a j w z e; cases e
  | @cons i j p w z r r0 _ h _ e1 ih =>
    intro a j2 w2 z2 e
    rw [e1] at e
    cases r0 with
    | er _ => cases e
    | ok ps j w2 m2 =>
      have := ih rfl
      have := hQ _ _ _ _ _ h
      cases e
      omega
theorem PB.adv {T : List Tok'} {len : Nat} (n : Nat) : ∀ (i : Nat) (a : Box) (j : Nat) (w : List Nat) (z : List (Int × Nat)), PB T len n i (.ok a j w z) → i < j := by
  induction n with
  | zero => intro _ _ _ _ _ h; exact h.elim
  | succ n ih =>
    intro i a j w z (h' : PBs T len (PB T len n) i (.ok a j w z))
    generalize hr : (Rs.ok a j w z : Rs Box) = r at h'
    cases h' with
    | bE _ _ => cases hr
    | blk _ h => cases hr; have := h.adv; omega
    | no _ _ => cases hr
    | sE _ _ => cases hr
    | sO _ _ _ => cases hr
    | scr _ hd _ hp e1 =>
      obtain ⟨ps, j0, w2, m2, rfl, _, rfl, _, _⟩ := scrR_inv (e1.symm.trans hr.symm)
      have := hp.adv ih rfl
      have := HeadR.adv hd
      omega
end
section
variable {P : Program} {w : World} {K : PySem.W.Frag} {mg : Str → Option Value} {base : Heap}
theorem str_b : ("b" : Str) = mkS [98] := by decide +kernel
theorem str_s : ("s" : Str) = mkS [115] := by decide +kernel
theorem str_o : ("[" : Str) = mkS [91] := by decide +kernel
theorem str_c : ("]" : Str) = mkS [93] := by decide +kernel
theorem str_k : (":" : Str) = mkS [58] := by decide +kernel
theorem mk_dec {a b : List Nat} : decide (mkS a = mkS b) = decide (a = b) := by
  by_cases e : a = b
  · rw [e, decide_eq_true rfl, decide_eq_true rfl]
  · rw [decide_eq_false e, decide_eq_false fun z => e (mkS_inj z)]
def OutX {α : Type} (enc : α → D) (mg : Str → Option Value) (C : CH) (R : Rd) (T : List Tok') (len : Nat) (ws : List Nat) (ns : List (Int × Nat)) (P : D → CH → Prop) (PX : Exn → CH → Prop) : Rs α → Prop
  | .er e => ∀ C', KeepX C C' R → PX (errT T len e) C'
  | .ok a j w m => ∀ C', RdW mg C' R T len j (ws ++ w) (ns ++ m) → KeepX C C' R → P (enc a) C'
def fHeadX (mg : Str → Option Value) : SpX := fun ds C P PX => ∃ (R : Rd) (T : List Tok') (len i : Nat) (ws : List Nat) (ns : List (Int × Nat)) (r : Rs (Int × Int)), ds = [.ref R.r] ∧ RdW mg C R T len i ws ns ∧ HeadR T len i r ∧ OutX (fun a => .tup [.int a.1, .int a.2]) mg C R T len ws ns P PX r
theorem Keep.toX {C C' : CH} {R : Rd} (h : Keep C C' R) : KeepX C C' R := fun z x a b c e => (h z a b c).trans e
abbrev sread_head : Stmt := topS 17
theorem scread_head : FnScope ["reader", "place", "number"] ["reader"] (defScope sread_head) := ⟨rfl, rfl, rfl, by decide +kernel, rfl, by decide +kernel, by decide +kernel⟩
theorem ok_read_head {k : Nat} (Df : DefAt K mg "read_head" sread_head ["reader"]) (T : Top mg) (TK : TopK K mg) (h_Reader_place : HasM P w K mg base k "Reader" "place" ["self"] (spD (fPlaceW mg))) (h_Reader_number : HasMA P w K mg base k "Reader" "number" ["self", "least", "most"] (spX mg (fNumberX mg))) (h_Reader_need : HasMA P w K mg base k "Reader" "need" ["self", "token"] (spX mg (fNeedX mg))) : HasA P w K mg base (k+1) "read_head" ["reader"] (spX mg (fHeadX mg)) := by
  refine has_ofA Df scread_head (fun ds C P PX ⟨_, _, _, _, _, _, _, h, _⟩ => by rw [h]; rfl) fun f cdv A outer s H E hr => ⟨_, (have tk := tkA_of (P := P) (w := w) (K := K) (mg := mg) (base := base); 
    (pss_cons (ps_nm 1 scread_head.nd (pe_mt0 mg h_Reader_place TK.k_Reader.cls (hr.mono (by omega)) (pv 0)))
    (pss_cons (ps_nm 2 scread_head.nd (pe_mtA mg h_Reader_number TK.k_Reader.cls (hr.mono (by omega)) (pv 0) (pa_cons pe_int (pa_cons (pe_globI T.c_MOST_NUMBER) pa_nil)) tk))
    (pss_cons (ps_expr (pe_bmK K PySem.F.plainAttrs_list PySem.F.slot_list_append PySem.F.type_list_append mt_append (pe_fldK K (pv 0) rfl) (pa_cons (pe_tup (pa_cons (pv 2) (pa_cons (pv 1) pa_nil))) pa_nil)))
    (pss_cons (ps_expr (pe_mtA mg h_Reader_need TK.k_Reader.cls (hr.mono (by omega)) (pv 0) (pa_cons pe_str pa_nil) tk))
    (pss_one (ps_ret (pe_tup (pa_cons (pv 2) (pa_cons (pe_mtA mg h_Reader_number TK.k_Reader.cls (hr.mono (by omega)) (pv 0) (pa_cons pe_int (pa_cons (pe_globI T.c_MOST_HEIGHT) pa_nil)) tk) pa_nil)))))))))), fun B ds C P PX ⟨R, Tk, len, i, ws, ns, r, hd, hR, hh, q⟩ hX => ?_⟩
  subst hd
  have kA := TK.k_Reader
  have c1 := hR.cr
  obtain ⟨tmost, hmost⟩ := T.c_MOST_NUMBER
  kwd_rel
  refine ⟨R, Tk, len, i, ws, ns, rfl, hR, ?_⟩
  kwd_rel
  refine w_methX hX.ok ?_
  kwd_rel
  refine ⟨R, Tk, len, i, ws, ns, 1, 999, rfl, hR, fun n hn C1 R1 k1 => ?_, fun hf => ?_⟩
  rotate_left
  · cases hh with
    | e1 _ => exact q C (Keep.toX fun _ _ _ _ => rfl)
    | e2 h _ => rw [numl_dg h] at hf; cases hf
    | e3 h _ _ => rw [numl_dg h] at hf; cases hf
    | ok h _ _ => rw [numl_dg h] at hf; cases hf
  have d1 := R1.cr
  have m1 := R1.cm
  have n1 := hR.nl
  have n2 := hR.tl
  have n3 := hR.il
  kwd_rel
  refine w_bmL ?_
  kwd_rel
  refine ⟨⟨_, .cell m1⟩, ?_⟩
  kwd_rel
  refine wm_append m1 (by rw [List.length_map]; omega) ?_
  have e1 : ns.map dblD ++ [D.tup [.int n, .int ((plcAt Tk len i : Nat) : Int)]] = (ns ++ [(n, plcAt Tk len i)]).map dblD := by simp [dblD]
  rw [e1]
  have R2 := R1.note (m := ns ++ [(n, plcAt Tk len i)]) (by rw [List.length_append, List.length_singleton]; omega)
  have d2 := R2.cr
  have k2 : Keep C1 (updC C1 R.m (.lst ((ns ++ [(n, plcAt Tk len i)]).map dblD))) R := fun z _ hz _ => updC_ne hz
  generalize updC C1 R.m (.lst ((ns ++ [(n, plcAt Tk len i)]).map dblD)) = C2 at R2 d2 k2 ⊢
  kwd_rel
  refine w_methX hX.ok ?_
  kwd_rel
  refine ⟨R, Tk, len, i + 1, _, _, [58], by rw [str_k], by simp, R2, fun t2 C3 R3 k3 => ?_, fun t2 => ?_⟩
  rotate_left
  · cases hh with
    | e1 hf => rw [numl_dg hn] at hf; cases hf
    | e2 _ _ => exact q C2 (k1.trans k2).toX
    | e3 _ t3 _ => exact absurd t3 t2
    | ok _ t3 _ => exact absurd t3 t2
  have d3 := R3.cr
  kwd_rel
  refine w_methX hX.ok ?_
  kwd_rel
  refine ⟨R, Tk, len, i + 2, _, _, 0, 1000, rfl, R3, fun h hh2 C4 R4 k4 => ?_, fun hf => ?_⟩
  rotate_left
  · cases hh with
    | e1 hf => rw [numl_dg hn] at hf; cases hf
    | e2 _ t3 => exact absurd t2 t3
    | e3 _ _ _ => exact q C3 ((k1.trans k2).trans k3).toX
    | ok _ _ h3 => rw [numl_dg h3] at hf; cases hf
  kwd_rel
  cases hh with
  | e1 hf => rw [numl_dg hn] at hf; cases hf
  | e2 _ t3 => exact absurd t2 t3
  | e3 _ _ hf => rw [numl_dg hh2] at hf; cases hf
  | ok hn' _ hh' =>
    obtain rfl := numl_eq hn hn'
    obtain rfl := numl_eq hh2 hh'
    refine q C4 ?_ (((k1.trans k2).trans k3).trans k4).toX
    rw [← List.append_assoc]
    exact R4
theorem KeepX.trans {C C1 C2 : CH} {R : Rd} (a : KeepX C C1 R) (b : KeepX C1 C2 R) : KeepX C C2 R := fun z x h1 h2 h3 e => b z x h1 h2 h3 (a z x h1 h2 h3 e)
theorem HeadR.det {T : List Tok'} {len i : Nat} {r r2 : Rs (Int × Int)} (h : HeadR T len i r) (k : HeadR T len i r2) : r = r2 := by
  cases h with
  | e1 a =>
    cases k with
    | e1 _ => rfl
    | e2 b _ => rw [numl_dg b] at a; cases a
    | e3 b _ _ => rw [numl_dg b] at a; cases a
    | ok b _ _ => rw [numl_dg b] at a; cases a
  | e2 a1 a2 =>
    cases k with
    | e1 b => rw [numl_dg a1] at b; cases b
    | e2 _ _ => rfl
    | e3 _ b _ => exact absurd b a2
    | ok _ b _ => exact absurd b a2
  | e3 a1 a2 a3 =>
    cases k with
    | e1 b => rw [numl_dg a1] at b; cases b
    | e2 _ b => exact absurd a2 b
    | e3 _ _ _ => rfl
    | ok _ _ b => rw [numl_dg b] at a3; cases a3
  | ok a1 a2 a3 =>
    cases k with
    | e1 b => rw [numl_dg a1] at b; cases b
    | e2 _ b => exact absurd a2 b
    | e3 _ _ b => rw [numl_dg a3] at b; cases b
    | ok b1 _ b3 => obtain rfl := numl_eq a1 b1; obtain rfl := numl_eq a3 b3; rfl
def fReadBoxX (mg : Str → Option Value) (n : Nat) : SpX := fun ds C P PX => ∃ (R : Rd) (T : List Tok') (len i : Nat) (ws : List Nat) (ns : List (Int × Nat)) (r : Rs Box), ds = [.ref R.r] ∧ RdW mg C R T len i ws ns ∧ PB T len n i r ∧ OutX encB mg C R T len ws ns P PX r
theorem PB.lt {T : List Tok'} {len n i : Nat} {r : Rs Box} (h : PB T len (n + 1) i r) : tokAt T i = [98] ∨ tokAt T i = [115] ∨ (tokAt T i ≠ [98] ∧ tokAt T i ≠ [115] ∧ r = .er i) := by
  cases (show PBs T len (PB T len n) i r from h) with
  | bE a _ => exact .inl a
  | blk a _ => exact .inl a
  | no a b => exact .inr (.inr ⟨a, b, rfl⟩)
  | sE a _ => exact .inr (.inl a)
  | sO a _ _ => exact .inr (.inl a)
  | scr a _ _ _ _ => exact .inr (.inl a)
theorem PB.b {T : List Tok'} {len n i : Nat} {r : Rs Box} (h : PB T len (n + 1) i r) (e : tokAt T i = [98]) : ∃ r1, HeadR T len (i + 1) r1 ∧ ((∃ x, r1 = .er x ∧ r = .er x) ∨ ∃ m h j w z, r1 = .ok (m, h) j w z ∧ r = .ok (.block m h) j w z) := by
  cases (show PBs T len (PB T len n) i r from h) with
  | bE a k => exact ⟨_, k, .inl ⟨_, rfl, rfl⟩⟩
  | blk a k => exact ⟨_, k, .inr ⟨_, _, _, _, _, rfl, rfl⟩⟩
  | no a b => exact absurd e a
  | sE a _ => rw [e] at a; cases a
  | sO a _ _ => rw [e] at a; cases a
  | scr a _ _ _ _ => rw [e] at a; cases a
theorem PB.s {T : List Tok'} {len n i : Nat} {r : Rs Box} (h : PB T len (n + 1) i r) (e : tokAt T i = [115]) : ∃ r1, HeadR T len (i + 1) r1 ∧ ((∃ x, r1 = .er x ∧ r = .er x) ∨ ∃ m h j w z, r1 = .ok (m, h) j w z ∧ ((tokAt T j ≠ [91] ∧ r = .er j) ∨ (tokAt T j = [91] ∧ ∃ r0, PPs T (PB T len n) (j + 1) r0 ∧ r = scrR m h w z r0))) := by
  cases (show PBs T len (PB T len n) i r from h) with
  | bE a _ => rw [e] at a; cases a
  | blk a k => rw [e] at a; cases a
  | no _ b => exact absurd e b
  | sE a k => exact ⟨_, k, .inl ⟨_, rfl, rfl⟩⟩
  | sO a k b => exact ⟨_, k, .inr ⟨_, _, _, _, _, rfl, .inl ⟨b, rfl⟩⟩⟩
  | scr a k b p q => exact ⟨_, k, .inr ⟨_, _, _, _, _, rfl, .inr ⟨b, _, p, q⟩⟩⟩
theorem PPs.inv {T : List Tok'} {Q : Nat → Rs Box → Prop} {i : Nat} {r : Rs (List Box)} (h : PPs T Q i r) : (tokAt T i = [93] ∧ r = .ok [] i [] []) ∨ (tokAt T i ≠ [93] ∧ ((∃ x, Q i (.er x) ∧ r = .er x) ∨ ∃ p j w z r0, Q i (.ok p j w z) ∧ PPs T Q j r0 ∧ r = addsR [p] w z r0)) := by
  cases h with
  | nil a => exact .inl ⟨a, rfl⟩
  | er a b => exact .inr ⟨a, .inl ⟨_, b, rfl⟩⟩
  | cons a b c d => exact .inr ⟨a, .inr ⟨_, _, _, _, _, b, c, d⟩⟩
abbrev sread_box : Stmt := topS 18
theorem scread_box : FnScope ["reader", "number", "height", "parts"] ["reader"] (defScope sread_box) := ⟨rfl, rfl, rfl, by decide +kernel, rfl, by decide +kernel, by decide +kernel⟩
theorem ok_read_box (Df : DefAt K mg "read_box" sread_box ["reader"]) (T : Top mg) (TK : TopK K mg) (h_Reader_token : HasM P w K mg base 10 "Reader" "token" ["self"] (spD (fTokenW mg))) (h_Reader_need : HasMA P w K mg base 10 "Reader" "need" ["self", "token"] (spX mg (fNeedX mg))) (h_read_head : HasA P w K mg base 10 "read_head" ["reader"] (spX mg (fHeadX mg))) : ∀ n, HasA P w K mg base (n+11) "read_box" ["reader"] (spX mg (fReadBoxX mg n)) := by
  intro n
  induction n with
  | zero =>
    refine has_ofA Df scread_box (fun ds C P PX ⟨_, _, _, _, _, _, _, h, _⟩ => by rw [h]; rfl) fun f cdv A outer s H E hr => ⟨_, pss_never, fun B ds C P PX ⟨_, _, _, _, _, _, _, _, _, hl, _⟩ _ => hl.elim⟩
  | succ n h_read_box =>
    refine has_ofA Df scread_box (fun ds C P PX ⟨_, _, _, _, _, _, _, h, _⟩ => by rw [h]; rfl) fun f cdv A outer s H E hr => ⟨_, (have tk := tkA_of (P := P) (w := w) (K := K) (mg := mg) (base := base); 
    (pss_cons (ps_if (pt_cmpR (op_eqK K hr) (pe_mt0 mg h_Reader_token TK.k_Reader.cls (hr.mono (by omega)) (pv 0)) pe_str (nomark _)) 
      (pss_cons (ps_expr (pe_mtA mg h_Reader_need TK.k_Reader.cls (hr.mono (by omega)) (pv 0) (pa_cons pe_str pa_nil) tk))
      (pss_cons (ps_asg (pe_defA h_read_head (hr.mono (by omega)) (pa_cons (pv 0) pa_nil) tk) (pg_tupK K (n := 2) (pgs_cons (pg_nm 1 scread_box.nd) (pgs_cons (pg_nm 2 scread_box.nd) pgs_nil))))
      (pss_one (ps_ret (pe_tup (pa_cons pe_str (pa_cons (pv 1) (pa_cons (pv 2) pa_nil)))))))) pss_nil)
    (pss_cons (ps_expr (pe_mtA mg h_Reader_need TK.k_Reader.cls (hr.mono (by omega)) (pv 0) (pa_cons pe_str pa_nil) tk))
    (pss_cons (ps_asg (pe_defA h_read_head (hr.mono (by omega)) (pa_cons (pv 0) pa_nil) tk) (pg_tupK K (n := 2) (pgs_cons (pg_nm 1 scread_box.nd) (pgs_cons (pg_nm 2 scread_box.nd) pgs_nil))))
    (pss_cons (ps_expr (pe_mtA mg h_Reader_need TK.k_Reader.cls (hr.mono (by omega)) (pv 0) (pa_cons pe_str pa_nil) tk))
    (pss_cons (ps_nm 3 scread_box.nd (pe_lst pa_nil))
    (pss_cons (ps_while PassesOwn.leaving (pt_cmpR (op_neK K hr) (pe_mt0 mg h_Reader_token TK.k_Reader.cls (hr.mono (by omega)) (pv 0)) pe_str (nomark _)) 
      (pss_one (ps_expr (pe_bmK K PySem.F.plainAttrs_list PySem.F.slot_list_append PySem.F.type_list_append mt_append (pv 3) (pa_cons (pe_defA h_read_box (hr.mono (by omega)) (pa_cons (pv 0) pa_nil) tk) pa_nil)))))
    (pss_cons (ps_expr (pe_mtA mg h_Reader_need TK.k_Reader.cls (hr.mono (by omega)) (pv 0) (pa_cons pe_str pa_nil) tk))
    (pss_one (ps_ret (pe_tup (pa_cons pe_str (pa_cons (pv 1) (pa_cons (pv 2) (pa_cons (pe_callTy (call_tupK K) (by rfl) T.tuple bt_tuple (pa_cons (pv 3) pa_nil)) pa_nil))))))))))))))), fun B ds C P PX ⟨R, Tk, len, i, ws, ns, r, hd, hR, hp, q⟩ hX => ?_⟩
    subst hd
    have kA := TK.k_Reader
    have c1 := hR.cr
    have htl := hR.tl
    kwd_rel
    refine ⟨R, Tk, len, i, ws, ns, rfl, hR, ?_⟩
    by_cases hb : tokAt Tk i = [98]
    · rw [hb, ← str_b]
      obtain ⟨r1, hh, hr1⟩ := hp.b hb
      kwd_rel
      kwd_less
      kwd_rel
      refine w_methX hX.ok ?_
      kwd_rel
      refine ⟨R, Tk, len, i, ws, ns, [98], by rw [str_b], by simp, hR, fun _ C1 R1 k1 => ?_, fun z => absurd hb z⟩
      have d1 := R1.cr
      kwd_rel
      refine w_callX hX.ok ?_
      kwd_rel
      refine ⟨R, Tk, len, i + 1, ws, ns, r1, rfl, R1, hh, ?_⟩
      rcases hr1 with ⟨x, rfl, rfl⟩ | ⟨m, h, j, w2, z, rfl, rfl⟩
      · exact fun C2 k2 => q C2 (k1.toX.trans k2)
      intro C2 R2 k2
      refine wg_tup rfl (wgs_cons (wg_name (wgs_cons (wg_name (wgs_nil ?_)))))
      kwd_rel
      exact q C2 R2 (k1.toX.trans k2)
    have hb2 : decide (mkS (tokAt Tk i) = ("b" : Str)) = false := by rw [str_b, mk_dec, decide_eq_false hb]
    kwd_rel
    rw [hb2]
    kwd_less
    kwd_rel
    refine w_methX hX.ok ?_
    kwd_rel
    refine ⟨R, Tk, len, i, ws, ns, [115], by rw [str_s], by simp, hR, fun hs C1 R1 k1 => ?_, fun z => ?_⟩
    rotate_left
    · rcases hp.lt with y | y | ⟨_, _, rfl⟩
      · exact absurd y hb
      · exact absurd y z
      · exact q C (Keep.toX fun _ _ _ _ => rfl)
    obtain ⟨r1, hh, hr1⟩ := hp.s hs
    have d1 := R1.cr
    kwd_rel
    refine w_callX hX.ok ?_
    kwd_rel
    refine ⟨R, Tk, len, i + 1, ws, ns, r1, rfl, R1, hh, ?_⟩
    rcases hr1 with ⟨x, rfl, rfl⟩ | ⟨m, h, j, w2, z, rfl, hr2⟩
    · exact fun C2 k2 => q C2 (k1.toX.trans k2)
    intro C2 R2 k2
    refine wg_tup rfl (wgs_cons (wg_name (wgs_cons (wg_name (wgs_nil ?_)))))
    have d2 := R2.cr
    kwd_rel
    refine w_methX hX.ok ?_
    kwd_rel
    refine ⟨R, Tk, len, j, _, _, [91], by rw [str_o], by simp, R2, fun ho C3 R3 k3 => ?_, fun z => ?_⟩
    rotate_left
    · rcases hr2 with ⟨_, rfl⟩ | ⟨y, _⟩
      · exact q C2 (k1.toX.trans k2)
      · exact absurd y z
    obtain ⟨_, r0, hpp, rfl⟩ : tokAt Tk j = [91] ∧ ∃ r0, PPs Tk (PB Tk len n) (j + 1) r0 ∧ r = scrR m h w2 z r0 := by
      rcases hr2 with ⟨y, _⟩ | y
      · exact absurd ho y
      · exact y
    kwd_rel
    refine w_lstC ?_
    kwd_rel
    intro a hca
    kwd_rel
    have k13 := (k1.toX.trans k2).trans k3.toX
    have hne : a ≠ R.r ∧ a ≠ R.t ∧ a ≠ R.w ∧ a ≠ R.m := by
      refine ⟨fun z => ?_, fun z => ?_, fun z => ?_, fun z => ?_⟩
      · rw [z, R3.cr] at hca; cases hca
      · rw [z, R3.ct] at hca; cases hca
      · rw [z, R3.cw] at hca; cases hca
      · rw [z, R3.cm] at hca; cases hca
    have up : ∀ {C9 : CH} {v : Cell} {i9 : Nat} {ws9 : List Nat} {ns9 : List (Int × Nat)}, RdW mg C9 R Tk len i9 ws9 ns9 → RdW mg (updC C9 a v) R Tk len i9 ws9 ns9 := fun h => ⟨by rw [updC_ne (Ne.symm hne.1)]; exact h.cr, by rw [updC_ne (Ne.symm hne.2.1)]; exact h.ct, by rw [updC_ne (Ne.symm hne.2.2.1)]; exact h.cw, by rw [updC_ne (Ne.symm hne.2.2.2)]; exact h.cm, h.mt, h.mw, h.wt, h.ok, h.tl, h.il, h.wl, h.nl, h.pl, h.ll⟩
    have kx : KeepX C (updC C3 a (.lst [])) R := fun y x y1 y2 y3 e => by
      have := k13 y x y1 y2 y3 e
      rw [updC_ne (fun y => by rw [y, hca] at this; cases this)]
      exact this
    refine ws_while (fun mm E1 C4 => ∃ (pre : List Box) (w1 : List Nat) (n1 : List (Int × Nat)) (j1 : Nat) (r9 : Rs (List Box)), r0 = addsR pre w1 n1 r9 ∧ mm = Tk.length - j1 ∧ pre.length ≤ j1 ∧ PPs Tk (PB Tk len n) j1 r9 ∧ RdW mg C4 R Tk len j1 (ws ++ w2 ++ w1) (ns ++ z ++ n1) ∧
      C4 a = some (.lst (encBs pre)) ∧ (∀ y x, y ≠ a → y ≠ R.r → y ≠ R.m → y ≠ R.w → C y = some x → C4 y = some x) ∧ E1 = [some (.ref R.r), some (.int m), some (.int h), some (.ref a)]) (Tk.length - (j + 1)) ⟨[], [], [], j + 1, r0, by cases r0 <;> rfl, rfl, Nat.zero_le _, hpp, up (by rw [List.append_nil, List.append_nil]; exact R3), updC_same, fun y x _ y1 y2 y3 e => kx y x y1 y2 y3 e, rfl⟩ ?_
    rintro mm E1 C4 ⟨pre, w1, n1, j1, r9, e0, rfl, hpj, hp9, R4, ca, k4, rfl⟩
    have hj1 := R4.il
    have hCa : ∀ {y x}, C y = some x → y ≠ R.r → y ≠ R.m → y ≠ R.w → y ≠ a := fun {y x} e y1 y2 y3 z => by
      have := k13 y x y1 y2 y3 e
      rw [z, hca] at this
      cases this
    have kx4 : KeepX C C4 R := fun y x y1 y2 y3 e => k4 y x (hCa e y1 y2 y3) y1 y2 y3 e
    have d4 := R4.cr
    kwd_rel
    refine ⟨R, Tk, len, j1, _, _, rfl, R4, ?_⟩
    kwd_rel
    rcases hp9.inv with ⟨t6, rfl⟩ | ⟨t6, hp9⟩
    · rw [t6, ← str_c]
      refine ⟨fun z => absurd z (by decide +kernel), fun _ => ?_⟩
      kwd_rel
      refine w_methX hX.ok ?_
      kwd_rel
      refine ⟨R, Tk, len, j1, _, _, [93], by rw [str_c], by simp, R4, fun _ C5 R5 k5 => ?_, fun z => absurd t6 z⟩
      have d5 : C5 a = some (.lst (encBs pre)) := by rw [k5 a hne.1 hne.2.2.2 hne.2.2.1]; exact ca
      kwd_rel
      refine wc_tuple (.cell d5) ?_
      kwd_rel
      rw [addsR, List.append_nil, List.append_nil, List.append_nil] at e0
      subst e0
      refine q C5 ?_ (kx4.trans k5.toX)
      rw [← List.append_assoc, ← List.append_assoc]
      exact R5
    have hc2 : (!decide (mkS (tokAt Tk j1) = ("]" : Str))) = true := by rw [str_c, mk_dec, decide_eq_false t6]; rfl
    rw [hc2]
    refine ⟨fun _ => ?_, fun z => by cases z⟩
    kwd_rel
    refine w_bmL ?_
    kwd_rel
    refine ⟨⟨_, .cell ca⟩, ?_⟩
    kwd_rel
    refine w_callX hX.ok ?_
    kwd_rel
    rcases hp9 with ⟨x, hx, rfl⟩ | ⟨p, j2, w3, z3, r8, hx, hp8, rfl⟩
    · refine ⟨R, Tk, len, j1, _, _, _, rfl, R4, hx, fun C5 k5 => ?_⟩
      rw [addsR] at e0
      subst e0
      exact q C5 (kx4.trans k5)
    refine ⟨R, Tk, len, j1, _, _, _, rfl, R4, hx, fun C5 R5 k5 => ?_⟩
    have ca5 : C5 a = some (.lst (encBs pre)) := k5 a _ hne.1 hne.2.2.2 hne.2.2.1 ca
    have hadv := PB.adv _ _ _ _ _ _ hx
    have hj2 := R5.il
    kwd_rel
    refine wm_append ca5 (by rw [encBs_length]; omega) ?_
    kwd_rel
    refine ⟨Tk.length - j2, by omega, pre ++ [p], w1 ++ w3, n1 ++ z3, j2, r8, ?_, rfl, by rw [List.length_append, List.length_singleton]; omega, hp8, up ?_, ?_, fun y x y0 y1 y2 y3 e => ?_, rfl⟩
    · rw [e0, addsR_addsR]
    · rw [← List.append_assoc, ← List.append_assoc]
      exact R5
    · rw [updC_same, encBs_append]; rfl
    · rw [updC_ne y0]
      exact k5 y x y1 y2 y3 (k4 y x y0 y1 y2 y3 e)
end
section
variable {P : Program} {w : World} {K : PySem.W.Frag} {mg : Str → Option Value} {base : Heap}
/-! ### numbers that stand twice; the document of a text -/
def seenD (l : List (Int × Nat)) : List (Int × D) := l.map fun p => (p.1, .bl true)
theorem seen_look (l : List (Int × Nat)) (k : Int) : (lookD (seenD l) k).isSome = decide (k ∈ l.map (·.1)) := by
  unfold seenD lookD
  induction l with
  | nil => rfl
  | cons p r ih =>
    rw [List.map_cons, List.find?_cons, List.map_cons]
    by_cases e : p.1 = k
    · simp [e]
    · have e2 : ¬ k = p.1 := fun z => e z.symm
      simp only [e, decide_false, List.mem_cons, e2, false_or]
      exact ih
theorem seen_put (l : List (Int × Nat)) (p : Int × Nat) (h : p.1 ∉ l.map (·.1)) : putD (seenD l) p.1 (.bl true) = seenD (l ++ [p]) := by
  unfold putD
  rw [if_neg]
  · simp [seenD]
  · intro z
    obtain ⟨q, hq, e⟩ := List.any_eq_true.mp z
    obtain ⟨q', hq', rfl⟩ := List.mem_map.mp hq
    exact h (List.mem_map.mpr ⟨q', hq', by simpa using e⟩)
/-- the place of the first number that stands twice -/
def dblP : List (Int × Nat) → List (Int × Nat) → Option Nat
  | _, [] => none
  | pre, p :: r => if p.1 ∈ pre.map (·.1) then some p.2 else dblP (pre ++ [p]) r
def encON : Option Nat → D
  | none => .non
  | some n => .int (n : Nat)
def fDoubleX : SpD := fun ds C P => ∃ nums : List (Int × Nat), ds = [.lst (nums.map dblD)] ∧ nums.length ≤ 50000 ∧ P (encON (dblP [] nums)) C
abbrev splace_of_double : Stmt := topS 19
theorem scplace_of_double : FnScope ["numbers", "seen", "number", "place"] ["numbers"] (defScope splace_of_double) := ⟨rfl, rfl, rfl, by decide +kernel, rfl, by decide +kernel, by decide +kernel⟩
theorem ok_place_of_double {k : Nat} (Df : DefAt K mg "place_of_double" splace_of_double ["numbers"]) (T : Top mg) : Has P w K mg base (k+1) "place_of_double" ["numbers"] (spD fDoubleX) := by
  refine has_of Df scplace_of_double (fun ds C P ⟨_, h, _⟩ => by rw [h]; rfl) fun f cdv A outer s H E hr => ⟨_, 
    (pss_cons (ps_nm 1 scplace_of_double.nd pe_dnewK)
    (pss_cons (ps_for PassesOwn.never rfl (pi_seqK K (pv 0)) (pg_tupK K (n := 2) (pgs_cons (pg_nm 2 scplace_of_double.nd) (pgs_cons (pg_nm 3 scplace_of_double.nd) pgs_nil))) 
      (pss_cons (ps_if (pt_cmp (pc_din (hu_of hr) (pv 2) (pv 1))) 
        (pss_one (ps_ret (pv 3))) pss_nil)
      (pss_one (ps_dput (hu_of hr) (pv 1) (pv 2) pe_bl rfl))))
    (pss_one (ps_ret pe_non)))), fun B ds C P ⟨nums, hd, hz, q⟩ => ?_⟩
  subst hd
  refine ws_weak ?_
  kwd_rel
  refine w_dnewC ?_
  intro a ha
  kwd_rel
  refine ws_for (fun rest E1 C1 => ∃ (pre post : List (Int × Nat)) (x2 x3 : Option D), nums = pre ++ post ∧ dblP [] nums = dblP pre post ∧ rest = post.map dblD ∧ E1 = [some (.lst (nums.map dblD)), some (.ref a), x2, x3] ∧ C1 = updC C a (.dic (seenD pre))) (wi_seq ?_) ?_ ?_
  · kwd_rel
    exact ⟨[], nums, none, none, rfl, rfl, rfl, rfl, rfl⟩
  · rintro E1 C1 ⟨pre, post, x2, x3, h1, h3, h2, rfl, rfl⟩
    have e : post = [] := by
      cases post with
      | nil => rfl
      | cons _ _ => cases h2
    subst e
    rw [h3] at q
    kwd_rel
    exact ⟨C, sub_updC ha, q⟩
  rintro x xs E1 C1 ⟨pre, post, x2, x3, h1, h3, h2, rfl, rfl⟩
  obtain ⟨p, r, rfl⟩ : ∃ p r, post = p :: r := by
    cases post with
    | nil => cases h2
    | cons p r => exact ⟨p, r, rfl⟩
  injection h2 with g1 g2
  subst g1 g2
  have hpre : pre.length ≤ 50000 := by
    have := congrArg List.length h1
    simp at this
    omega
  rw [dblP] at h3
  unfold dblD
  refine wg_tup rfl (wgs_cons (wg_name (wgs_cons (wg_name (wgs_nil ?_)))))
  kwd_rel
  refine w_din ?_
  kwd_rel
  refine ⟨_, p.1, .cell updC_same, rfl, ?_⟩
  rw [seen_look]
  kwd_rel
  refine ite_two (fun hc => ?_) (fun hc => ?_)
  · have hn : p.1 ∈ pre.map (·.1) := of_decide_eq_true hc
    rw [h3, if_pos hn] at q
    kwd_rel
    exact ⟨C, sub_updC ha, q⟩
  · have hn : p.1 ∉ pre.map (·.1) := of_decide_eq_false hc
    rw [if_neg hn] at h3
    kwd_rel
    refine ws_dput ?_
    kwd_rel
    refine ⟨a, _, p.1, rfl, rfl, updC_same, by simp [seenD]; omega, ?_⟩
    rw [seen_put pre p hn, updC_updC]
    exact ⟨pre ++ [p], r, _, _, by simp [h1], h3, rfl, rfl, rfl⟩
end
section
/-! ### levels and sizes of what the reader finds; that it finds something -/
variable {T : List Tok'} {len : Nat}
def txsOf (T : List Tok') : List (List Nat) := T.map (·.2)
theorem levs_of {n : Nat} : ∀ {ps : List Box}, (∀ p ∈ ps, p.lev ≤ n) → levs ps ≤ n
  | [], _ => by simp [levs]
  | p :: r, h => by
    have h1 := h p (by simp)
    have h2 := levs_of (ps := r) fun q hq => h q (by simp [hq])
    rw [levs]
    omega
theorem PPs.sizes {Q : Nat → Rs Box → Prop} {n : Nat} (hQ : ∀ i b j w z, Q i (.ok b j w z) → b.lev ≤ n ∧ b.all.length + i ≤ j ∧ z.length = b.all.length) {i : Nat} {r : Rs (List Box)} (h : PPs T Q i r) : ∀ {ps j w z}, r = .ok ps j w z → (∀ p ∈ ps, p.lev ≤ n) ∧ (alls ps).length + i ≤ j ∧ z.length = (alls ps).length := by
  induction h with
  | nil _ => intro ps j w z e; cases e; exact ⟨fun p hp => by (cases hp), by simp [alls], rfl⟩
  | er _ _ => intro ps j w z e; cases e
  | @cons i j p w z r r0 _ h _ e1 ih =>
    intro ps j2 w2 z2 e
    rw [e1] at e
    cases r0 with
    | er _ => cases e
    | ok ps0 j0 w0 m0 =>
      obtain ⟨a1, a2, a3⟩ := ih rfl
      obtain ⟨b1, b2, b3⟩ := hQ _ _ _ _ _ h
      cases e
      refine ⟨fun q hq => ?_, ?_, ?_⟩
      · rcases List.mem_append.mp hq with hq | hq
        · rw [List.mem_singleton.mp hq]; exact b1
        · exact a1 q hq
      · show (alls (p :: ps0)).length + i ≤ _
        rw [alls, List.length_append]
        omega
      · show _ = (alls (p :: ps0)).length
        rw [alls, List.length_append, List.length_append, a3, b3]
theorem PB.sizes (n : Nat) : ∀ (i : Nat) (b : Box) (j : Nat) (w : List Nat) (z : List (Int × Nat)), PB T len n i (.ok b j w z) → b.lev ≤ n ∧ b.all.length + i ≤ j ∧ z.length = b.all.length := by
  induction n with
  | zero => intro _ _ _ _ _ h; exact h.elim
  | succ n ih =>
    intro i b j w z (h' : PBs T len (PB T len n) i (.ok b j w z))
    generalize hr : (Rs.ok b j w z : Rs Box) = r at h'
    cases h' with
    | bE _ _ => cases hr
    | blk _ h => cases hr; cases h; exact ⟨by simp [Box.lev], by simp [Box.all]; omega, by simp [Box.all]⟩
    | no _ _ => cases hr
    | sE _ _ => cases hr
    | sO _ _ _ => cases hr
    | scr _ hd _ hp e1 =>
      obtain ⟨ps, j0, w2, m2, rfl, rfl, rfl, rfl, rfl⟩ := scrR_inv (e1.symm.trans hr.symm)
      obtain ⟨a1, a2, a3⟩ := hp.sizes ih rfl
      cases hd
      refine ⟨?_, ?_, ?_⟩
      · have := levs_of a1; rw [Box.lev]; omega
      · rw [Box.all, List.length_cons]; omega
      · rw [Box.all, List.length_cons, List.length_append, a3, List.length_singleton]; omega
def opens (T : List Tok') (i : Nat) : Nat := ((txsOf T).drop i).count [91]
theorem opens_le {i j : Nat} (h : i ≤ j) : opens T j ≤ opens T i := by
  unfold opens
  obtain ⟨k, rfl⟩ := Nat.le.dest h
  rw [← List.drop_drop]
  exact (List.drop_sublist _ _).count_le _
theorem opens_at {i : Nat} (h : tokAt T i = [91]) : opens T (i + 1) + 1 = opens T i := by
  unfold opens
  have hl : i < T.length := tok_lt (by rw [h]; simp)
  have hl2 : i < (txsOf T).length := by simpa [txsOf] using hl
  rw [List.drop_eq_getElem_cons hl2, List.count_cons]
  have e : (txsOf T)[i] = [91] := by
    rw [← h]
    unfold tokAt
    rw [List.getElem?_eq_getElem hl]
    simp [txsOf]
  rw [e]
  simp
theorem HeadR.total (ok : ∀ t ∈ T, TkT t.2) (i : Nat) : ∃ r, HeadR T len i r := by
  have dg : ∀ k, isDgT (tokAt T k) = true → ∃ n, Numl n (tokAt T k) := fun k h => dg_numl (tok_ok (fun e => by rw [e] at h; cases h) ok) h
  cases h1 : isDgT (tokAt T i) with
  | false => exact ⟨_, .e1 h1⟩
  | true =>
    obtain ⟨n, hn⟩ := dg _ h1
    by_cases h2 : tokAt T (i + 1) = [58]
    · cases h3 : isDgT (tokAt T (i + 2)) with
      | false => exact ⟨_, .e3 hn h2 h3⟩
      | true =>
        obtain ⟨h, hh⟩ := dg _ h3
        exact ⟨_, .ok hn h2 hh⟩
    · exact ⟨_, .e2 hn h2⟩
theorem PPs.total (n : Nat) (hQ : ∀ i, opens T i < n → ∃ r, PB T len n i r) : ∀ (m i : Nat), T.length - i ≤ m → opens T i < n → ∃ r, PPs T (PB T len n) i r := by
  intro m
  induction m with
  | zero =>
    intro i h1 h2
    obtain ⟨r, hr⟩ := hQ i h2
    have ht : tokAt T i = [] := by
      unfold tokAt
      rw [List.getElem?_eq_none (by omega)]
    cases n with
    | zero => exact hr.elim
    | succ n =>
      rcases hr.lt with h | h | ⟨_, _, rfl⟩
      · rw [ht] at h; cases h
      · rw [ht] at h; cases h
      · exact ⟨_, .er (by rw [ht]; simp) hr⟩
  | succ m ih =>
    intro i h1 h2
    by_cases h3 : tokAt T i = [93]
    · exact ⟨_, .nil h3⟩
    obtain ⟨r, hr⟩ := hQ i h2
    cases r with
    | er e => exact ⟨_, .er h3 hr⟩
    | ok p j w z =>
      have h4 := PB.adv n _ _ _ _ _ hr
      have h5 := opens_le (T := T) (Nat.le_of_lt h4)
      obtain ⟨r0, h6⟩ := ih j (by omega) (by omega)
      exact ⟨_, .cons h3 hr h6 rfl⟩
theorem PB.total (ok : ∀ t ∈ T, TkT t.2) : ∀ (n i : Nat), opens T i < n → ∃ r, PB T len n i r := by
  intro n
  induction n with
  | zero => intro i h; omega
  | succ n ih =>
    intro i h
    have up : ∀ {r}, PBs T len (PB T len n) i r → ∃ r, PB T len (n + 1) i r := fun h => ⟨_, h⟩
    by_cases h1 : tokAt T i = [98]
    · obtain ⟨r, hr⟩ := HeadR.total (len := len) ok (i + 1)
      cases r with
      | er e => exact up (.bE h1 hr)
      | ok a j w z => obtain ⟨m, k⟩ := a; exact up (.blk h1 hr)
    by_cases h2 : tokAt T i = [115]
    · obtain ⟨r, hr⟩ := HeadR.total (len := len) ok (i + 1)
      cases r with
      | er e => exact up (.sE h2 hr)
      | ok a j w z =>
        obtain ⟨m, k⟩ := a
        by_cases h3 : tokAt T j = [91]
        · have h4 := opens_at h3
          have h5 := hr.adv
          have h6 := opens_le (T := T) (i := i) (j := j) (by omega)
          obtain ⟨r0, hp⟩ := PPs.total n ih (T.length - (j + 1)) (j + 1) (Nat.le_refl _) (by omega)
          exact up (.scr h2 hr h3 hp rfl)
        · exact up (.sO h2 hr h3)
    exact up (.no h1 h2)
/-- the tokens of a text -/
theorem toks_ok : ∀ (its : List It) (k : Nat), (∀ i ∈ its, i.Ok) → (∀ l, .dig l ∈ its → l.length ≤ 100) → ∀ t ∈ toks k its, TkT t.2 ∧ t.1 ≤ k + (txts its).length
  | [], _, _, _, t, h => by cases h
  | .gap c :: r, k, ok, dl, t, h => by
    have := toks_ok r (k + 1) (fun i hi => ok i (by simp [hi])) (fun l hl => dl l (by simp [hl])) t h
    refine ⟨this.1, ?_⟩
    have h2 := this.2
    rw [txts, It.txt, List.length_append, List.length_singleton]
    omega
  | .sgn c :: r, k, ok, dl, t, h => by
    rw [toks] at h
    rcases List.mem_cons.mp h with rfl | h
    · refine ⟨?_, Nat.le_add_right _ _⟩
      rcases ok (.sgn c) (by simp) with rfl | rfl | rfl | rfl | rfl
      · exact .inr (.inl rfl)
      · exact .inr (.inr (.inl rfl))
      · exact .inr (.inr (.inr (.inl rfl)))
      · exact .inr (.inr (.inr (.inr (.inl rfl))))
      · exact .inr (.inr (.inr (.inr (.inr rfl))))
    · have := toks_ok r (k + 1) (fun i hi => ok i (by simp [hi])) (fun l hl => dl l (by simp [hl])) t h
      refine ⟨this.1, ?_⟩
      have h2 := this.2
      rw [txts, It.txt, List.length_append, List.length_singleton]
      omega
  | .dig l :: r, k, ok, dl, t, h => by
    rw [toks] at h
    rcases List.mem_cons.mp h with rfl | h
    · have o := ok (.dig l) (by simp)
      exact ⟨.inl ⟨_, ⟨o.1, o.2, dl l (by simp), rfl⟩⟩, Nat.le_add_right _ _⟩
    · have := toks_ok r (k + l.length) (fun i hi => ok i (by simp [hi])) (fun l hl => dl l (by simp [hl])) t h
      refine ⟨this.1, ?_⟩
      have h2 := this.2
      rw [txts, It.txt, List.length_append]
      omega
/-- what parse_document says of a box that was read, or was not -/
def vdD (T : List Tok') (len : Nat) (b : Box) : Option Nat → Option (Str × Nat)
  | some q => some ("number twice", q)
  | none => if 40 < b.all.length then some ("too many boxes", plcAt T len 0) else if 4 < b.deep then some ("too deep", plcAt T len 0) else none
def vdW (T : List Tok') (len : Nat) (b : Box) (m : List (Int × Nat)) : List Nat → Option (Str × Nat)
  | x :: _ => some ("out of range", x)
  | [] => vdD T len b (dblP [] m)
def vd (T : List Tok') (len : Nat) : Rs Box → Option (Str × Nat)
  | .er e => some (unexp T e, plcAt T len e)
  | .ok b j w m => if j < T.length then some (unexp T j, plcAt T len j) else vdW T len b m w
inductive Vd (N : Nat) (its : List It) : Option (Str × Nat) → Prop
  | bad {pre post : List It} {i : It} : its = pre ++ i :: post → (∀ i ∈ pre, i.Ok) → BadI i → Vd N its (some ("unknown character", (txts pre).length))
  | blk : (∀ i ∈ its, i.Ok) → tokAt (toks 0 its) 0 = [98] → Vd N its (some (unexp (toks 0 its) 0, plcAt (toks 0 its) (txts its).length 0))
  | ok {r : Rs Box} : (∀ i ∈ its, i.Ok) → tokAt (toks 0 its) 0 ≠ [98] → PB (toks 0 its) (txts its).length N 0 r → Vd N its (vd (toks 0 its) (txts its).length r)
end
section
variable {P : Program} {w : World} {K : PySem.W.Frag} {mg : Str → Option Value} {base : Heap}
def fInitX (mg : Str → Option Value) : SpX := fun ds C P PX => ∃ (r : Addr) (its : List It), ds = [.ref r, .str (mkS (txts its))] ∧ C r = some (.ins (clsA mg "Reader") []) ∧ (∀ i ∈ its, i.Ok ∨ BadI i) ∧ (∀ l, .dig l ∈ its → l.length ≤ 100) ∧ Sep its ∧ (txts its).length ≤ 50000 ∧
  ((∀ i ∈ its, i.Ok) → ∀ R C', R.r = r → RdW mg C' R (toks 0 its) (txts its).length 0 [] [] → (∀ z c, C z = some c → z ≠ r → C' z = some c ∧ z ≠ R.m ∧ z ≠ R.w) → P .non C') ∧
  ∀ pre i post, its = pre ++ i :: post → (∀ i ∈ pre, i.Ok) → BadI i → ∀ C', (∀ z x, C z = some x → C' z = some x) → PX (.fld "TextError" [("message", .str "unknown character"), ("place", .int ((txts pre).length : Nat))]) C'
theorem ok_or_bad {its : List It} (h : ∀ i ∈ its, i.Ok ∨ BadI i) : (∀ i ∈ its, i.Ok) ∨ ∃ pre i post, its = pre ++ i :: post ∧ (∀ i ∈ pre, i.Ok) ∧ BadI i := by
  induction its with
  | nil => exact .inl fun i hi => by cases hi
  | cons a r ih =>
    rcases h a (by simp) with ha | ha
    · rcases ih fun i hi => h i (by simp [hi]) with hr | ⟨pre, i, post, rfl, h1, h2⟩
      · refine .inl fun i hi => ?_
        rcases List.mem_cons.mp hi with rfl | hi
        · exact ha
        · exact hr i hi
      · refine .inr ⟨a :: pre, i, post, rfl, fun i hi => ?_, h2⟩
        rcases List.mem_cons.mp hi with rfl | hi
        · exact ha
        · exact h1 i hi
    · exact .inr ⟨[], a, r, rfl, fun i hi => by (cases hi), ha⟩
abbrev sReader_init : Stmt := inClass (topS 16) 0
theorem scReader_init : FnScope ["self", "text"] ["self", "text"] (defScope sReader_init) := ⟨rfl, rfl, rfl, by decide +kernel, rfl, by decide +kernel, by decide +kernel⟩
theorem ok_Reader_init {k : Nat} (Df : IniAt K mg "Reader" "Reader.__init__" sReader_init ["self", "text"]) (T : Top mg) (TK : TopK K mg) (h_cut : HasA P w K mg base k "cut" ["text"] (spX mg fCutX)) : HasIA P w K mg base (k+1) "Reader" ["self", "text"] (spX mg (fInitX mg)) := by
  refine has_ofIA Df scReader_init (fun ds C P PX ⟨_, _, h, _⟩ => by rw [h]; rfl) fun f cdv A outer s H E hr => ⟨_, (have tk := tkA_of (P := P) (w := w) (K := K) (mg := mg) (base := base); 
    (pss_cons (ps_fldK K (pv 0) (pe_defA h_cut (hr.mono (by omega)) (pa_cons (pv 1) pa_nil) tk) rfl)
    (pss_cons (ps_fldK K (pv 0) (pe_callB (call_lenK K) (by rfl) T.len bt_len (pa_cons (pv 1) pa_nil)) rfl)
    (pss_cons (ps_fldK K (pv 0) pe_int rfl)
    (pss_cons (ps_fldK K (pv 0) (pe_lst pa_nil) rfl)
    (pss_one (ps_fldK K (pv 0) (pe_lst pa_nil) rfl))))))), fun B ds C P PX ⟨r, its, hd, hcr, hok, hdl, hsep, hz, q, qx⟩ hX => ?_⟩
  subst hd
  have kA := TK.k_Reader
  have hlen : (mkS (txts its)).length ≤ 1000000 := by rw [mkS_len]; omega
  kwd_rel
  refine w_callX hX.ok ?_
  kwd_rel
  refine ⟨its, rfl, hok, hsep, by omega, fun hgood t ht => ?_, qx⟩
  have tr : r ≠ t := fun z => by rw [z, ht] at hcr; cases hcr
  have c1 : updC C t (.lst ((toks 0 its).map tokD)) r = some (.ins (clsA mg "Reader") []) := by rw [updC_ne tr]; exact hcr
  kwd_rel
  refine wc_lenS hlen ?_
  rw [mkS_len]
  kwd_rel
  refine w_lstC ?_
  kwd_rel
  intro w1 hw
  have rw1 : w1 ≠ r := fun z => by rw [z, updC_same] at hw; cases hw
  have tw : w1 ≠ t := fun z => by
    rw [updC_ne rw1, updC_ne rw1, updC_ne rw1, z, updC_same] at hw
    cases hw
  have hwC : C w1 = none := by rw [updC_ne rw1, updC_ne rw1, updC_ne rw1, updC_ne tw] at hw; exact hw
  simp only [updC_updC]
  have c2 : updC (updC (updC C t (.lst ((toks 0 its).map tokD))) r (.ins (clsA mg "Reader") (putFD "at" (.int 0) (putFD "length" (.int ((txts its).length : Nat)) (putFD "tokens" (.ref t) []))))) w1 (.lst []) r = some (.ins (clsA mg "Reader") (putFD "at" (.int 0) (putFD "length" (.int ((txts its).length : Nat)) (putFD "tokens" (.ref t) [])))) := by
    rw [updC_ne (Ne.symm rw1), updC_same]
  kwd_rel
  refine w_lstC ?_
  kwd_rel
  intro m hm
  have rm : m ≠ r := fun z => by rw [z, updC_same] at hm; cases hm
  have wm : m ≠ w1 := fun z => by rw [updC_ne rm, z, updC_same] at hm; cases hm
  have tm : m ≠ t := fun z => by rw [updC_ne rm, updC_ne wm, updC_ne rm, z, updC_same] at hm; cases hm
  have hmC : C m = none := by rw [updC_ne rm, updC_ne wm, updC_ne rm, updC_ne tm] at hm; exact hm
  generalize hC5 : updC (updC (updC (updC C t (.lst ((toks 0 its).map tokD))) r (.ins (clsA mg "Reader") (putFD "at" (.int 0) (putFD "length" (.int ((txts its).length : Nat)) (putFD "tokens" (.ref t) []))))) w1 (.lst [])) r (.ins (clsA mg "Reader") (putFD "wrong" (.ref w1) (putFD "at" (.int 0) (putFD "length" (.int ((txts its).length : Nat)) (putFD "tokens" (.ref t) []))))) = C5
  have c3 : updC C5 m (.lst []) r = some (.ins (clsA mg "Reader") (putFD "wrong" (.ref w1) (putFD "at" (.int 0) (putFD "length" (.int ((txts its).length : Nat)) (putFD "tokens" (.ref t) []))))) := by
    rw [updC_ne (Ne.symm rm), ← hC5, updC_same]
  kwd_rel
  have htk := toks_ok its 0 hgood hdl
  have htl := toks_len its 0 hgood
  refine q hgood ⟨r, t, w1, m⟩ _ rfl ⟨updC_same, ?_, ?_, ?_, tm, wm, tw, fun t ht => (htk t ht).1, by omega, Nat.zero_le _, Nat.le_refl _, Nat.le_refl _, fun t ht => ?_, by omega⟩ fun z c hzc hzr => ⟨?_, ?_, ?_⟩
  · rw [updC_ne (Ne.symm tr), updC_ne (Ne.symm tm), ← hC5, updC_ne (Ne.symm tr), updC_ne (Ne.symm tw), updC_ne (Ne.symm tr), updC_same]
  · rw [updC_ne rw1, updC_ne (Ne.symm wm), ← hC5, updC_ne rw1, updC_same]
    rfl
  · rw [updC_ne rm, updC_same]
    rfl
  · have := (htk t ht).2
    omega
  · have z1 : z ≠ m := fun y => by rw [y, hmC] at hzc; cases hzc
    have z2 : z ≠ w1 := fun y => by rw [y, hwC] at hzc; cases hzc
    have z3 : z ≠ t := fun y => by rw [y, ht] at hzc; cases hzc
    rw [updC_ne hzr, updC_ne z1, ← hC5, updC_ne hzr, updC_ne z2, updC_ne hzr, updC_ne z3]
    exact hzc
  · exact fun y => by rw [y, hmC] at hzc; cases hzc
  · exact fun y => by rw [y, hwC] at hzc; cases hzc
def fParseA (mg : Str → Option Value) (N : Nat) : SpX := fun ds C P PX => ∃ (its : List It) (v : Option (Str × Nat)), ds = [.str (mkS (txts its))] ∧ (∀ i ∈ its, i.Ok ∨ BadI i) ∧ (∀ l, .dig l ∈ its → l.length ≤ 100) ∧ Sep its ∧ (txts its).length ≤ 50000 ∧ Vd N its v ∧
  (∀ s p, v = some (s, p) → ∀ C', (∀ z c, C z = some c → C' z = some c) → PX (.fld "TextError" [("message", .str s), ("place", .int (p : Nat))]) C') ∧ (v = none → ∀ b C', (∀ z c, C z = some c → C' z = some c) → P (encB b) C')
theorem vd_bad {N : Nat} {its : List It} {v : Option (Str × Nat)} (h : Vd N its v) {pre post : List It} {i : It} (e : its = pre ++ i :: post) (ok : ∀ i ∈ pre, i.Ok) (b : BadI i) : v = some (("unknown character" : Str), (txts pre).length) := by
  have hi : ¬ ∀ i ∈ its, i.Ok := fun h => by
    have := h i (by rw [e]; simp)
    rcases b with rfl | rfl
    · rcases this with h | h | h | h | h <;> omega
    · rcases this with h | h | h | h | h <;> omega
  cases h with
  | bad e2 ok2 b2 =>
    have nb : ∀ {i : It}, BadI i → ¬ i.Ok := fun b h => by
      rcases b with rfl | rfl
      · rcases h with h | h | h | h | h <;> omega
      · rcases h with h | h | h | h | h <;> omega
    have key : ∀ (a b : List It) {i j : It} {x y : List It}, a ++ i :: x = b ++ j :: y → (∀ i ∈ a, i.Ok) → (∀ i ∈ b, i.Ok) → BadI i → BadI j → a = b := by
      intro a
      induction a with
      | nil =>
        intro b i j x y e _ h2 h3 _
        cases b with
        | nil => rfl
        | cons c b =>
          injection e with e _
          subst e
          exact absurd (h2 i (by simp)) (nb h3)
      | cons c a ih =>
        intro b i j x y e h1 h2 h3 h4
        cases b with
        | nil =>
          injection e with e _
          subst e
          exact absurd (h1 c (by simp)) (nb h4)
        | cons c' b =>
          injection e with e1 e2
          rw [e1, ih b e2 (fun i hi => h1 i (by simp [hi])) (fun i hi => h2 i (by simp [hi])) h3 h4]
    rw [key _ _ (e.symm.trans e2) ok ok2 b b2]
  | blk h _ => exact absurd h hi
  | ok h _ _ => exact absurd h hi
theorem vd_good {N : Nat} {its : List It} {v : Option (Str × Nat)} (h : Vd N its v) (ok : ∀ i ∈ its, i.Ok) : (tokAt (toks 0 its) 0 = [98] ∧ v = some (unexp (toks 0 its) 0, plcAt (toks 0 its) (txts its).length 0)) ∨ (tokAt (toks 0 its) 0 ≠ [98] ∧ ∃ r, PB (toks 0 its) (txts its).length N 0 r ∧ v = vd (toks 0 its) (txts its).length r) := by
  cases h with
  | @bad pre post i e2 _ b2 =>
    have := ok i (by rw [e2]; simp)
    rcases b2 with rfl | rfl
    · rcases this with h | h | h | h | h <;> omega
    · rcases this with h | h | h | h | h <;> omega
  | blk _ h => exact .inl ⟨h, rfl⟩
  | ok _ h1 h2 => exact .inr ⟨h1, _, h2, rfl⟩
theorem dblP_mem : ∀ {l pre : List (Int × Nat)} {q : Nat}, dblP pre l = some q → ∃ p ∈ l, p.2 = q
  | [], _, _, h => by rw [dblP] at h; cases h
  | p :: r, pre, q, h => by
    rw [dblP] at h
    split at h
    · exact ⟨p, by simp, Option.some.inj h⟩
    · obtain ⟨z, hz, e⟩ := dblP_mem h
      exact ⟨z, by simp [hz], e⟩
theorem HeadR.plcs {T : List Tok'} {len i j : Nat} {a : Int × Int} {w : List Nat} {z : List (Int × Nat)} (h : HeadR T len i (.ok a j w z)) (M : Nat) (hM : ∀ k, plcAt T len k ≤ M) : (∀ x ∈ w, x ≤ M) ∧ ∀ p ∈ z, p.2 ≤ M := by
  cases h with
  | ok _ _ _ =>
    refine ⟨fun x hx => ?_, fun p hp => by rw [List.mem_singleton.mp hp]; exact hM _⟩
    rcases List.mem_append.mp hx with hx | hx
    · unfold outW at hx
      split at hx
      · cases hx
      · rw [List.mem_singleton.mp hx]; exact hM _
    · unfold outW at hx
      split at hx
      · cases hx
      · rw [List.mem_singleton.mp hx]; exact hM _
theorem PPs.plcs {T : List Tok'} {Q : Nat → Rs Box → Prop} {M : Nat} (hQ : ∀ i b j w z, Q i (.ok b j w z) → (∀ x ∈ w, x ≤ M) ∧ ∀ p ∈ z, p.2 ≤ M) {i : Nat} {r : Rs (List Box)} (h : PPs T Q i r) : ∀ {ps j w z}, r = .ok ps j w z → (∀ x ∈ w, x ≤ M) ∧ ∀ p ∈ z, p.2 ≤ M := by
  induction h with
  | nil _ => intro ps j w z e; cases e; exact ⟨fun x hx => (by cases hx), fun x hx => (by cases hx)⟩
  | er _ _ => intro ps j w z e; cases e
  | @cons i j p w z r r0 _ h _ e1 ih =>
    intro ps j2 w2 z2 e
    rw [e1] at e
    cases r0 with
    | er _ => cases e
    | ok ps0 j0 w0 m0 =>
      obtain ⟨a1, a2⟩ := ih rfl
      obtain ⟨b1, b2⟩ := hQ _ _ _ _ _ h
      cases e
      exact ⟨fun x hx => (List.mem_append.mp hx).elim (b1 x) (a1 x), fun x hx => (List.mem_append.mp hx).elim (b2 x) (a2 x)⟩
theorem PB.plcs {T : List Tok'} {len M : Nat} (hM : ∀ k, plcAt T len k ≤ M) (n : Nat) : ∀ (i : Nat) (b : Box) (j : Nat) (w : List Nat) (z : List (Int × Nat)), PB T len n i (.ok b j w z) → (∀ x ∈ w, x ≤ M) ∧ ∀ p ∈ z, p.2 ≤ M := by
  induction n with
  | zero => intro _ _ _ _ _ h; exact h.elim
  | succ n ih =>
    intro i b j w z (h' : PBs T len (PB T len n) i (.ok b j w z))
    generalize hr : (Rs.ok b j w z : Rs Box) = r at h'
    cases h' with
    | bE _ _ => cases hr
    | blk _ h => cases hr; exact h.plcs M hM
    | no _ _ => cases hr
    | sE _ _ => cases hr
    | sO _ _ _ => cases hr
    | scr _ hd _ hp e1 =>
      obtain ⟨ps, j0, w2, m2, rfl, rfl, rfl, rfl, rfl⟩ := scrR_inv (e1.symm.trans hr.symm)
      obtain ⟨a1, a2⟩ := hp.plcs ih rfl
      obtain ⟨b1, b2⟩ := hd.plcs M hM
      exact ⟨fun x hx => (List.mem_append.mp hx).elim (b1 x) (a1 x), fun x hx => (List.mem_append.mp hx).elim (b2 x) (a2 x)⟩
abbrev sparse_document : Stmt := topS 20
theorem scparse_document : FnScope ["text", "reader", "start", "document", "double"] ["text"] (defScope sparse_document) := ⟨rfl, rfl, rfl, by decide +kernel, rfl, by decide +kernel, by decide +kernel⟩
theorem ok_parse_document {k N : Nat} (hN : N ≤ 1000) (Df : DefAt K mg "parse_document" sparse_document ["text"]) (T : Top mg) (TK : TopK K mg) (TX : TopX K mg) (h_TextError : HasE P w K mg base k "TextError" ["self", "place", "message"] (spTT K)) (h_Reader : HasIA P w K mg base k "Reader" ["self", "text"] (spX mg (fInitX mg))) (h_Reader_token : HasM P w K mg base k "Reader" "token" ["self"] (spD (fTokenW mg))) (h_Reader_place : HasM P w K mg base k "Reader" "place" ["self"] (spD (fPlaceW mg))) (h_Reader_refuse : HasMA P w K mg base k "Reader" "refuse" ["self"] (spX mg (fRefuse mg))) (h_read_box : HasA P w K mg base k "read_box" ["reader"] (spX mg (fReadBoxX mg N)))
    (h_place_of_double : Has P w K mg base k "place_of_double" ["numbers"] (spD fDoubleX)) (h_all_boxes : Has P w K mg base k "all_boxes" ["document"] (spD (fAllB N))) (h_depth_of : Has P w K mg base k "depth_of" ["box"] (spD (fDepth N))) : HasA P w K mg base (k+2) "parse_document" ["text"] (spX mg (fParseA mg N)) := by
  refine has_ofA Df scparse_document (fun ds C P PX ⟨_, _, h, _⟩ => by rw [h]; rfl) fun f cdv A outer s H E hr => ⟨_, (have tk := tkA_of (P := P) (w := w) (K := K) (mg := mg) (base := base); 
    (pss_cons (ps_nm 1 scparse_document.nd (pe_mkA mg h_Reader TK.k_Reader.at_ (hr.mono (by omega)) (pa_cons (pv 0) pa_nil) tk))
    (pss_cons (ps_nm 2 scparse_document.nd (pe_mt0 mg h_Reader_place TK.k_Reader.cls (hr.mono (by omega)) (pv 1)))
    (pss_cons (ps_if (pt_cmpR (op_eqK K hr) (pe_mt0 mg h_Reader_token TK.k_Reader.cls (hr.mono (by omega)) (pv 1)) pe_str (nomark _)) 
      (pss_one (ps_expr (pe_mtA0 mg h_Reader_refuse TK.k_Reader.cls (hr.mono (by omega)) (pv 1) tk))) pss_nil)
    (pss_cons (ps_nm 3 scparse_document.nd (pe_defA h_read_box (hr.mono (by omega)) (pa_cons (pv 1) pa_nil) tk))
    (pss_cons (ps_if (pt_truK K (pe_mt0 mg h_Reader_token TK.k_Reader.cls (hr.mono (by omega)) (pv 1))) 
      (pss_one (ps_expr (pe_mtA0 mg h_Reader_refuse TK.k_Reader.cls (hr.mono (by omega)) (pv 1) tk))) pss_nil)
    (pss_cons (ps_if (pt_truK K (pe_fldK K (pv 1) rfl)) 
      (pss_one (ps_rsA h_TextError (hr.mono (by omega)) tk (pa_cons (pe_ix (ix_seqK K) (pe_fldK K (pv 1) rfl) pe_int (fun _ _ => rfl)) (pa_cons pe_str pa_nil)))) pss_nil)
    (pss_cons (ps_nm 4 scparse_document.nd (pe_def h_place_of_double (hr.mono (by omega)) (pa_cons (pe_fldK K (pv 1) rfl) pa_nil)))
    (pss_cons (ps_if (pt_cmpR op_notN (pv 4) pe_non (nomark _)) 
      (pss_one (ps_rsA h_TextError (hr.mono (by omega)) tk (pa_cons (pv 4) (pa_cons pe_str pa_nil)))) pss_nil)
    (pss_cons (ps_if (pt_cmpR op_gt (pe_callB (call_lenK K) (by rfl) T.len bt_len (pa_cons (pe_def h_all_boxes (hr.mono (by omega)) (pa_cons (pv 3) pa_nil)) pa_nil)) (pe_globI T.c_MOST_BOXES) (nomark _)) 
      (pss_one (ps_rsA h_TextError (hr.mono (by omega)) tk (pa_cons (pv 2) (pa_cons pe_str pa_nil)))) pss_nil)
    (pss_cons (ps_if (pt_cmpR op_gt (pe_def h_depth_of (hr.mono (by omega)) (pa_cons (pv 3) pa_nil)) (pe_globI T.c_MOST_DEPTH) (nomark _)) 
      (pss_one (ps_rsA h_TextError (hr.mono (by omega)) tk (pa_cons (pv 2) (pa_cons pe_str pa_nil)))) pss_nil)
    (pss_one (ps_ret (pv 3)))))))))))))), fun B ds C P PX ⟨its, v, hd, hok, hdl, hsep, hz, hv, q1, q2⟩ hX => ?_⟩
  subst hd
  have kA := TK.k_Reader
  kwd_rel
  refine w_makeX hX ?_
  kwd_rel
  intro r hr0
  have sub0 : ∀ z c, C z = some c → updC C r (.ins (clsA mg "Reader") []) z = some c ∧ z ≠ r := fun z c hzc => by
    have zr : z ≠ r := fun y => by rw [y, hr0] at hzc; cases hzc
    exact ⟨by rw [updC_ne zr]; exact hzc, zr⟩
  refine ⟨r, its, rfl, updC_same, hok, hdl, hsep, hz, fun hgood R C1 hRr R1 k1 => ⟨rfl, ?_⟩, fun pre i post e1 e2 e3 C' hC' => q1 _ _ (vd_bad hv e1 e2 e3) C' fun z c hzc => hC' z c (sub0 z c hzc).1⟩
  subst hRr
  have keep1 : KeepX C C1 R ∧ ∀ z c, C z = some c → z ≠ R.r ∧ z ≠ R.m ∧ z ≠ R.w := by
    refine ⟨fun z c _ _ _ hzc => ?_, fun z c hzc => ?_⟩
    · obtain ⟨a, b⟩ := sub0 z c hzc
      exact (k1 z c a b).1
    · obtain ⟨a, b⟩ := sub0 z c hzc
      exact ⟨b, (k1 z c a b).2⟩
  have sub : ∀ {C2 : CH}, KeepX C1 C2 R → ∀ z c, C z = some c → C2 z = some c := fun k2 z c hzc => by
    obtain ⟨a1, a2, a3⟩ := keep1.2 z c hzc
    exact k2 z c a1 a2 a3 (keep1.1 z c a1 a2 a3 hzc)
  have subd : ∀ {C2 : CH}, KeepX C1 C2 R → ∀ z c, C z = some c → delC C2 R.m z = some c := fun k2 z c hzc => by
    unfold delC
    rw [if_neg (keep1.2 z c hzc).2.1]
    exact sub k2 z c hzc
  have d1 := R1.cr
  have hplc : ∀ k, plcAt (toks 0 its) (txts its).length k ≤ 100000 := fun k => plc_le R1.pl R1.ll
  have hp0 := hplc 0
  kwd_rel
  refine ⟨R, _, _, 0, [], [], rfl, R1, ?_⟩
  kwd_rel
  refine ⟨R, _, _, 0, [], [], rfl, R1, ?_⟩
  kwd_rel
  have hdb : decide (mkS (tokAt (toks 0 its) 0) = ("b" : Str)) = decide (tokAt (toks 0 its) 0 = [98]) := by rw [str_b, mk_dec]
  rw [hdb]
  rcases vd_good hv hgood with ⟨tb, rfl⟩ | ⟨tb, r, hpb, rfl⟩
  · rw [decide_eq_true tb]
    kwd_rel
    kwd_less
    kwd_rel
    refine w_methX hX.ok ?_
    kwd_rel
    exact ⟨R, _, _, 0, [], [], rfl, R1, q1 _ _ rfl C1 (sub KeepX.refl)⟩
  rw [decide_eq_false tb]
  kwd_rel
  kwd_less
  kwd_rel
  refine w_callX hX.ok ?_
  kwd_rel
  refine ⟨R, _, _, 0, [], [], r, rfl, R1, hpb, ?_⟩
  cases r with
  | er e => exact fun C2 k2 => q1 _ _ rfl C2 (sub k2)
  | ok b j w m =>
    intro C2 R2 k2
    rw [List.nil_append, List.nil_append] at R2
    have d2 := R2.cr
    have m2 := R2.cm
    have w2 := R2.cw
    obtain ⟨s1, s2, s3⟩ := PB.sizes N _ _ _ _ _ hpb
    obtain ⟨s4, s5⟩ := PB.plcs hplc N _ _ _ _ _ hpb
    have s6 := R2.il
    have s7 := R2.tl
    have htl := tokAt_len (i := j) R2.ok
    kwd_rel
    refine ⟨R, _, _, _, _, _, rfl, R2, ?_⟩
    kwd_rel
    refine ⟨_, tru_mk (by omega), ?_⟩
    by_cases hj : j < (toks 0 its).length
    · have hne : tokAt (toks 0 its) j ≠ [] := fun e => by have := tok_ge e R2.ok; omega
      rw [decide_eq_true hne]
      refine ite_two (fun _ => ?_) (fun z => by cases z)
      kwd_rel
      refine w_methX hX.ok ?_
      kwd_rel
      exact ⟨R, _, _, _, _, _, rfl, R2, q1 _ _ (by rw [vd, if_pos hj]) C2 (sub k2)⟩
    have hne : tokAt (toks 0 its) j = [] := by
      unfold tokAt
      rw [List.getElem?_eq_none (by omega)]
    rw [hne]
    refine ite_two (fun z => by cases z) (fun _ => ?_)
    rw [vd, if_neg hj] at q1 q2
    kwd_rel
    refine ⟨!(w.map plcD).isEmpty, by show (match C2 R.w with | some (.lst l) => some (!l.isEmpty) | some (.dic l) => some (!l.isEmpty) | _ => none) = _; rw [w2], ?_⟩
    cases w with
    | cons x xs =>
      have hx := s4 x (by simp)
      kwd_rel
      kwd_less
      refine ws_raiseA h_TextError hX.ok ?_
      kwd_rel
      refine wr_ix (.cell w2) (show atI _ _ = some (.int (x : Nat)) from atI_zero) ?_
      kwd_rel
      exact ⟨_, _, rfl, ⟨by omega, by omega⟩, by decide +kernel, q1 _ _ rfl C2 (sub k2)⟩
    | nil =>
      rw [vdW] at q1 q2
      kwd_rel
      kwd_less
      refine ws_next (nx_show (ws_seq (ws_set (w_call (wa_cons (w_frzL ?_))))))
      kwd_rel
      refine ⟨R.m, _, rfl, m2, ?_⟩
      kwd_rel
      refine ⟨_, rfl, by omega, ?_⟩
      cases ed : dblP [] m with
      | some n =>
        obtain ⟨p, hp, e⟩ := dblP_mem ed
        have hn := s5 p hp
        rw [e] at hn
        kwd_rel
        kwd_less
        refine ws_raiseA h_TextError hX.ok ?_
        kwd_rel
        refine ⟨_, _, rfl, ⟨by omega, by omega⟩, by decide +kernel, q1 _ _ (by rw [ed, vdD]) _ (subd k2)⟩
      | none =>
        rw [ed, vdD] at q1 q2
        kwd_rel
        kwd_less
        kwd_rel
        refine ⟨b, s1, by omega, rfl, ?_⟩
        kwd_rel
        rw [encBs_length]
        by_cases h40 : 40 < b.all.length
        · refine ite_two (fun _ => ?_) (fun z => absurd (of_decide_eq_false z) (by omega))
          refine ws_raiseA h_TextError hX.ok ?_
          kwd_rel
          exact ⟨_, _, rfl, ⟨by omega, by omega⟩, by decide +kernel, q1 _ _ (if_pos h40) _ (subd k2)⟩
        refine ite_two (fun z => absurd (of_decide_eq_true z) (by omega)) (fun _ => ?_)
        kwd_rel
        refine ⟨b, s1, by omega, rfl, ?_⟩
        kwd_rel
        by_cases h4 : 4 < b.deep
        · refine ite_two (fun _ => ?_) (fun z => absurd (of_decide_eq_false z) (by omega))
          refine ws_raiseA h_TextError hX.ok ?_
          kwd_rel
          exact ⟨_, _, rfl, ⟨by omega, by omega⟩, by decide +kernel, q1 _ _ (by rw [if_neg h40, if_pos h4]) _ (subd k2)⟩
        refine ite_two (fun z => absurd (of_decide_eq_true z) (by omega)) (fun _ => ?_)
        kwd_rel
        exact q2 (by rw [if_neg h40, if_neg h4]) b _ (subd k2)
end
/-! steps as long as they are plain -/
local macro_rules
  | `(tactic| kwd_rel) => `(tactic| repeat (first
    | (with_reducible show W _ _ _ _ _; first
        | with_reducible refine w_var (by with_unfolding_all exact rfl) ?_
        | with_reducible refine w_int ?_
        | with_reducible refine w_op ?_
        | with_reducible refine w_str ?_
        | with_reducible refine w_cb ?_
        | with_reducible refine w_call ?_
        | with_reducible refine w_tup ?_
        | with_reducible refine w_ifExp ?_
        | with_reducible refine w_un ?_
        | with_reducible refine w_bl ?_
        | with_reducible refine w_non ?_
        | with_reducible refine w_ref ?_
        | with_reducible refine w_ty ?_
        | with_reducible refine w_notV ?_
        | with_reducible refine w_andV ?_
        | with_reducible refine w_orV ?_
        | with_reducible refine w_slice ?_
        | with_reducible refine w_chain ?_
        | with_reducible refine w_isN ?_
        | with_reducible refine w_notN ?_)
    | (with_reducible show WA _ _ _ _ _; first
        | with_reducible refine wa_cons ?_
        | with_reducible refine wa_nil ?_)
    | (with_reducible show WR _ _ _ _ _ _; first
        | with_reducible refine wr_bn ?_
        | with_reducible refine wr_bh ?_
        | (with_reducible show WR _ (rIx _) _ _ _ _; with_reducible refine wr_ix (by with_unfolding_all first | exact SeqD.tup | exact SeqD.lst | exact SeqD.cell updC_same | exact SeqD.cell (by assumption)) (by with_unfolding_all exact rfl) ?_)
        | with_reducible refine wr_intB ?_
        | with_reducible refine wr_ip ?_
        | with_reducible refine wr_int ?_
        | with_reducible refine wr_add ?_
        | (with_reducible show WR _ (rEqU _) _ _ _ _; with_reducible refine wr_eq (by with_unfolding_all exact rfl) ?_)
        | (with_reducible show WR _ (rNeU _) _ _ _ _; with_reducible refine wr_ne (by with_unfolding_all exact rfl) ?_)
        | (with_reducible show WR _ (rI _ _) _ _ _ _; with_reducible refine wr_mod (by first | assumption | decide | omega) ?_)
        | (with_reducible show WR _ (rI _ _) _ _ _ _; with_reducible refine wr_fdiv (by first | assumption | decide | omega) (by first | assumption | decide | omega) ?_)
        | (with_reducible show WR _ (rI _ _) _ _ _ _; with_reducible refine wr_mul (by omega) ?_)
        | with_reducible refine wr_pow (by decide) ?_
        | with_reducible refine wr_isN ?_
        | with_reducible refine wr_notN ?_)
    | (with_reducible show WS _ _ _ _ _; first
        | with_reducible refine ws_seq ?_
        | with_reducible refine ws_set ?_
        | with_reducible refine ws_ret ?_
        | with_reducible refine ws_if ?_
        | with_reducible refine ws_drop ?_
        | with_reducible refine ws_retN ?_
        | with_reducible refine ws_next ?_
        | with_reducible refine ws_break ?_
        | with_reducible refine ws_cont ?_
        | with_reducible refine ws_asg ?_
        | with_reducible refine ws_aug (by with_unfolding_all exact rfl) ?_)
    | (with_reducible show WT _ _ _ _ _; first
        | with_reducible refine wt_test ?_
        | with_reducible refine wt_B ?_
        | with_reducible refine wt_truth ?_
        | with_reducible refine wt_and ?_
        | with_reducible refine wt_or ?_
        | with_reducible refine wt_not ?_
        | with_reducible refine wt_yes ?_)
    | (with_reducible show WC _ _ _ _ _; first
        | (with_reducible show WC _ (rLenU _) _ _ _; with_reducible refine wc_len (by with_unfolding_all first | exact SeqD.tup | exact SeqD.lst | exact SeqD.cell updC_same | exact SeqD.cell (by assumption)) ?_)
        | with_reducible refine wc_int ?_
        | (with_reducible show WC _ (rIsiU _) _ _ _; with_reducible refine wc_isi2 (by with_unfolding_all exact rfl) (by with_reducible first | exact kit_NoneType_list | exact kit_NoneType_tuple | exact kit_NoneType_bool | exact kit_NoneType_str | exact kit_NoneType_int | exact kit_NoneType_dict | exact kit_bool_list | exact kit_bool_tuple | exact kit_bool_bool | exact kit_bool_str | exact kit_bool_int | exact kit_bool_dict | exact kit_int_list | exact kit_int_tuple | exact kit_int_bool | exact kit_int_str | exact kit_int_int | exact kit_int_dict | exact kit_str_list | exact kit_str_tuple | exact kit_str_bool | exact kit_str_str | exact kit_str_int | exact kit_str_dict | exact kit_tuple_list | exact kit_tuple_tuple | exact kit_tuple_bool | exact kit_tuple_str | exact kit_tuple_int | exact kit_tuple_dict | exact kit_list_list | exact kit_list_tuple | exact kit_list_bool | exact kit_list_str | exact kit_list_int | exact kit_list_dict | exact kit_dict_list | exact kit_dict_tuple | exact kit_dict_bool | exact kit_dict_str | exact kit_dict_int | exact kit_dict_dict) (by with_reducible first | exact kit_NoneType_list | exact kit_NoneType_tuple | exact kit_NoneType_bool | exact kit_NoneType_str | exact kit_NoneType_int | exact kit_NoneType_dict | exact kit_bool_list | exact kit_bool_tuple | exact kit_bool_bool | exact kit_bool_str | exact kit_bool_int | exact kit_bool_dict | exact kit_int_list | exact kit_int_tuple | exact kit_int_bool | exact kit_int_str | exact kit_int_int | exact kit_int_dict | exact kit_str_list | exact kit_str_tuple | exact kit_str_bool | exact kit_str_str | exact kit_str_int | exact kit_str_dict | exact kit_tuple_list | exact kit_tuple_tuple | exact kit_tuple_bool | exact kit_tuple_str | exact kit_tuple_int | exact kit_tuple_dict | exact kit_list_list | exact kit_list_tuple | exact kit_list_bool | exact kit_list_str | exact kit_list_int | exact kit_list_dict | exact kit_dict_list | exact kit_dict_tuple | exact kit_dict_bool | exact kit_dict_str | exact kit_dict_int | exact kit_dict_dict) ?_)
        | (with_reducible show WC _ (rIsiU _) _ _ _; with_reducible refine wc_isi (by with_unfolding_all exact rfl) (by with_reducible first | exact kit_NoneType_list | exact kit_NoneType_tuple | exact kit_NoneType_bool | exact kit_NoneType_str | exact kit_NoneType_int | exact kit_NoneType_dict | exact kit_bool_list | exact kit_bool_tuple | exact kit_bool_bool | exact kit_bool_str | exact kit_bool_int | exact kit_bool_dict | exact kit_int_list | exact kit_int_tuple | exact kit_int_bool | exact kit_int_str | exact kit_int_int | exact kit_int_dict | exact kit_str_list | exact kit_str_tuple | exact kit_str_bool | exact kit_str_str | exact kit_str_int | exact kit_str_dict | exact kit_tuple_list | exact kit_tuple_tuple | exact kit_tuple_bool | exact kit_tuple_str | exact kit_tuple_int | exact kit_tuple_dict | exact kit_list_list | exact kit_list_tuple | exact kit_list_bool | exact kit_list_str | exact kit_list_int | exact kit_list_dict | exact kit_dict_list | exact kit_dict_tuple | exact kit_dict_bool | exact kit_dict_str | exact kit_dict_int | exact kit_dict_dict) ?_)
        | with_reducible refine wc_abs ?_
        | with_reducible refine wc_max2 ?_
        | with_reducible refine wc_min2 ?_)
    | (with_reducible show WG _ _ _ _ _ _; first
        | with_reducible refine wg_name ?_
        | with_reducible refine wg_sub ?_)
    | (with_reducible show WU _ _ _ _ _; first
        | with_reducible refine wu_int ?_)
    | (with_reducible show WO _ _ _ _ _; first
        | with_reducible refine wo_none ?_
        | with_reducible refine wo_some ?_)
    | (with_reducible show WSl _ _ _ _ _ _ _; first
        | with_reducible refine wsl_tupE (by with_unfolding_all exact rfl) ?_
        | with_reducible refine wsl_lstE (by with_unfolding_all exact rfl) ?_)
    | (with_reducible show WSet _ _ _ _ _ _ _; first
        | with_reducible refine wset_list (by first | exact updC_same | assumption) (by with_unfolding_all exact rfl) ?_)
    | with_reducible refine ex_bl ?_
    | with_reducible refine tru_bl ?_
    | (with_reducible show ∃ _, _ ∧ _; with_reducible refine Exists.intro _ (And.intro (by with_unfolding_all first | exact rfl | exact SeqF.tup | exact SeqF.lst) ?_))
    | ((first | with_reducible show _ ≤ _ ∧ _ | with_reducible show _ < _ ∧ _); with_reducible refine And.intro (by with_unfolding_all exact Nat.le_of_ble_eq_true rfl) ?_)
    | with_reducible refine nx_show ?_
    | with_reducible refine rt_show ?_
    | with_reducible refine ct_show ?_
    | with_reducible refine bk_show ?_))
/-! a test's two ways; one that cannot be goes away -/
set_option hygiene false in
local macro_rules
  | `(tactic| kwd_less) => `(tactic| (refine ite_two (fun hc => ?_) (fun hc => ?_) <;> first | (exact absurd hc (by with_unfolding_all exact Bool.false_ne_true)) | (exact absurd hc (by with_unfolding_all exact Bool.noConfusion)) | (exact absurd hc (by decide +kernel)) | skip))
section
variable {P : Program} {w : World} {K : PySem.W.Frag} {mg : Str → Option Value} {base : Heap}
/-! ### the law's draws: whatever is drawn lies in its range -/
def drC (ns : List Int) (p q s : Int) : Cell := .lst [.lst (ns.map D.int), .int p, .int q, .int s]
def DrawC (c : Cell) : Prop := ∃ ns p q s, c = drC ns p q s ∧ 0 ≤ p
abbrev slaw_draw : Stmt := topS 22
theorem sclaw_draw : FnScope ["_law_script"] ["_law_script"] (defScope slaw_draw) := ⟨rfl, rfl, rfl, by decide +kernel, rfl, by decide +kernel, by decide +kernel⟩
def fDraw : SpS := fun ns C P => ∀ a c, C a = none → DrawC c → P (.ref a) (updC C a c)
theorem ok_law_draw (Df : DefAt K mg "_law_draw" slaw_draw ["_law_script"]) (T : Top mg) : Has P w K mg base 1 "_law_draw" ["_law_script"] (spScr K fDraw) := by
  refine has_ofScr Df sclaw_draw fun f cdv A outer s H E hr => ⟨_, 
    (pss_one (ps_ret (pe_lst (pa_cons (pe_callTy (call_lstK K) (by rfl) T.list bt_list (pa_cons (pv 0) pa_nil)) (pa_cons pe_int (pa_cons pe_int (pa_cons pe_int pa_nil))))))), fun B a ns C P hs k => ?_⟩
  kwd_rel
  refine w_lstC ?_
  kwd_rel
  refine wc_listScr hs ?_
  kwd_rel
  exact fun a ha => k a _ ha ⟨ns, 0, 0, 17, rfl, by decide⟩
abbrev slaw_next : Stmt := topS 23
theorem sclaw_next : FnScope ["_law_draw_here", "_law_many", "_law_found", "_law_cell"] ["_law_draw_here", "_law_many"] (defScope slaw_next) := ⟨rfl, rfl, rfl, by decide +kernel, rfl, by decide +kernel, by decide +kernel⟩
def fNext : SpD := fun ds C P => ∃ (d : Addr) (m : Int) (c : Cell), ds = [.ref d, .int m] ∧ 0 < m ∧ m < 1000000000 ∧ C d = some c ∧ DrawC c ∧ ∀ v c', 0 ≤ v → v < m → DrawC c' → P (.int v) (updC C d c')
theorem ok_law_next (Df : DefAt K mg "_law_next" slaw_next ["_law_draw_here", "_law_many"]) (T : Top mg) : Has P w K mg base 1 "_law_next" ["_law_draw_here", "_law_many"] (spD fNext) := by
  refine has_of Df sclaw_next (fun ds C P ⟨_, _, _, h, _⟩ => by rw [h]; rfl) fun f cdv A outer s H E hr => ⟨_, 
    (pss_cons (ps_if (pt_cmpR op_gt (pe_ix (ix_seqK K) (pv 0) pe_int (fun _ _ => rfl)) pe_int (nomark _)) 
      (pss_cons (ps_nm 2 sclaw_next.nd (pe_op op_mod (pe_callTy call_intU (by rfl) T.int bt_int (pa_cons (pe_ix (ix_seqK K) (pv 0) pe_int (fun _ _ => rfl)) pa_nil)) (pv 1)))
      (pss_cons (ps_asg (pe_op op_fdiv (pe_ix (ix_seqK K) (pv 0) pe_int (fun _ _ => rfl)) (pv 1)) (pg_sub (pv 0) pe_int set_list))
      (pss_one (ps_ret (pv 2))))) pss_nil)
    (pss_cons (ps_if (pt_cmpR op_lt (pe_ix (ix_seqK K) (pv 0) pe_int (fun _ _ => rfl)) (pe_callB (call_lenK K) (by rfl) T.len bt_len (pa_cons (pe_ix (ix_seqK K) (pv 0) pe_int (fun _ _ => rfl)) pa_nil)) (nomark _)) 
      (pss_cons (ps_nm 3 sclaw_next.nd (pe_callB call_absN (by rfl) T.abs bt_abs (pa_cons (pe_ix (ix_seqK K) (pe_ix (ix_seqK K) (pv 0) pe_int (fun _ _ => rfl)) (pe_ix (ix_seqK K) (pv 0) pe_int (fun _ _ => rfl)) (fun _ _ => rfl)) pa_nil)))
      (pss_cons (ps_asg (pe_op (op_addK K) (pe_ix (ix_seqK K) (pv 0) pe_int (fun _ _ => rfl)) pe_int) (pg_sub (pv 0) pe_int set_list))
      (pss_cons (ps_if (pt_cmpR op_ge (pv 3) (pe_op op_pow pe_int pe_int) (nomark _)) 
        (pss_cons (ps_asg (pe_op op_fdiv (pv 3) (pv 1)) (pg_sub (pv 0) pe_int set_list))
        (pss_one (ps_ret (pe_op op_mod (pe_callTy call_intU (by rfl) T.int bt_int (pa_cons (pv 3) pa_nil)) (pv 1))))) pss_nil)
      (pss_one (ps_asg (pe_op op_mod (pe_callTy call_intU (by rfl) T.int bt_int (pa_cons (pe_op (op_addK K) (pe_op (op_addK K) (pe_op op_mul (pe_ix (ix_seqK K) (pv 0) pe_int (fun _ _ => rfl)) pe_int) (pv 3)) pe_int) pa_nil)) pe_int) (pg_sub (pv 0) pe_int set_list)))))) 
      (pss_one (ps_asg (pe_op op_mod (pe_callTy call_intU (by rfl) T.int bt_int (pa_cons (pe_op (op_addK K) (pe_op op_mul (pe_ix (ix_seqK K) (pv 0) pe_int (fun _ _ => rfl)) pe_int) pe_int) pa_nil)) pe_int) (pg_sub (pv 0) pe_int set_list))))
    (pss_one (ps_ret (pe_op op_mod (pe_op op_fdiv (pe_callTy call_intU (by rfl) T.int bt_int (pa_cons (pe_op op_mod (pe_op op_mul (pe_ix (ix_seqK K) (pv 0) pe_int (fun _ _ => rfl)) pe_int) pe_int) pa_nil)) pe_int) (pv 1)))))), fun B ds C P ⟨d, m, c, hd, m0, m1, hc, ⟨ns, p, q, s0, e, hp⟩, k⟩ => ?_⟩
  subst hd e
  unfold drC at hc
  kwd_rel
  kwd_less
  · kwd_rel
    exact k _ _ (Int.emod_nonneg _ (by omega)) (Int.emod_lt_of_pos _ m0) ⟨ns, p, q / m, s0, rfl, hp⟩
  · kwd_rel
    kwd_less
    · have hlt : p < (ns.length : Int) := by
        have e := of_decide_eq_true hc
        rw [List.length_map] at e
        exact e
      obtain ⟨z, hz, hat⟩ := atI_int hp hlt
      kwd_rel
      refine wr_ix .lst hat ?_
      kwd_rel
      kwd_less
      · kwd_rel
        show P _ _
        rw [updC_updC]
        exact k _ _ (Int.emod_nonneg _ (by omega)) (Int.emod_lt_of_pos _ m0) ⟨ns, p + 1, _, s0, rfl, by omega⟩
      · kwd_rel
        show P _ _
        rw [updC_updC]
        exact k _ _ (Int.emod_nonneg _ (by omega)) (Int.emod_lt_of_pos _ m0) ⟨ns, p + 1, q, _, rfl, by omega⟩
    · kwd_rel
      exact k _ _ (Int.emod_nonneg _ (by omega)) (Int.emod_lt_of_pos _ m0) ⟨ns, p, q, _, rfl, hp⟩
end
section
variable {P : Program} {w : World} {K : PySem.W.Frag} {mg : Str → Option Value} {base : Heap}
/-! ### the law's own comparison: the same data are the same -/
inductive GoodD : Nat → D → Prop
  | non {n : Nat} : GoodD n .non
  | bl {n : Nat} {b : Bool} : GoodD n (.bl b)
  | int {n : Nat} {i : Int} : GoodD n (.int i)
  | str {n : Nat} {x : Str} : GoodD n (.str x)
  | tup {n : Nat} {l : List D} : l.length ≤ 100000 → (∀ x ∈ l, GoodD n x) → GoodD (n + 1) (.tup l)
  | lst {n : Nat} {l : List D} : l.length ≤ 100000 → (∀ x ∈ l, GoodD n x) → GoodD (n + 1) (.lst l)
theorem GoodD.mono {n m : Nat} (h : n ≤ m) {x : D} (g : GoodD n x) : GoodD m x := by
  induction g generalizing m with
  | non => exact .non
  | bl => exact .bl
  | int => exact .int
  | str => exact .str
  | tup hl _ ih =>
    obtain ⟨m, rfl⟩ : ∃ k, m = k + 1 := ⟨m - 1, by omega⟩
    exact .tup hl fun x hx => ih x hx (by omega)
  | lst hl _ ih =>
    obtain ⟨m, rfl⟩ : ∃ k, m = k + 1 := ⟨m - 1, by omega⟩
    exact .lst hl fun x hx => ih x hx (by omega)
theorem goodB : ∀ (n : Nat) (b : Box), b.lev ≤ n → b.all.length ≤ 100000 → GoodD (2 * n) (encB b)
  | 0, b, h, _ => by cases b <;> simp [Box.lev] at h
  | n + 1, .block m k, _, _ => by
    rw [encB, Nat.mul_succ]
    refine .tup (by simp) fun x hx => ?_
    simp at hx
    rcases hx with rfl | rfl | rfl
    · exact .str
    · exact .int
    · exact .int
  | n + 1, .scroller m k ps, h, hz => by
    rw [encB, Nat.mul_succ]
    refine .tup (by simp) fun x hx => ?_
    simp at hx
    rcases hx with rfl | rfl | rfl | rfl
    · exact .str
    · exact .int
    · exact .int
    · refine .tup (by rw [encBs_length]; exact Nat.le_trans (parts_len (b := .scroller m k ps) (p := .scroller m k ps) (by rw [all_eq]; simp)) hz) fun x hx => ?_
      rw [encBs_map] at hx
      obtain ⟨p, hp, rfl⟩ := List.mem_map.mp hx
      exact goodB n p (lev_parts h hp) (Nat.le_trans (all_len_sub (b := .scroller m k ps) hp) hz)
theorem mem_lev : ∀ (n : Nat) (b p : Box), b.lev ≤ n → p ∈ b.all → p.lev ≤ n ∧ p.all.length ≤ b.all.length
  | 0, b, p, h, _ => by cases b <;> simp [Box.lev] at h
  | n + 1, b, p, h, hp => by
    rw [all_eq] at hp
    rcases List.mem_cons.mp hp with rfl | hp
    · exact ⟨h, Nat.le_refl _⟩
    · rw [alls_flat] at hp
      obtain ⟨q, hq, hp⟩ := List.mem_flatMap.mp hp
      obtain ⟨a, c⟩ := mem_lev n q p (lev_parts h hq) hp
      have := all_len_sub hq
      exact ⟨by omega, by omega⟩
theorem goodBs {n : Nat} {b : Box} (h : b.lev ≤ n) (hz : b.all.length ≤ 100000) : GoodD (2 * n + 1) (.lst (encBs b.all)) := by
  refine .lst (by rw [encBs_length]; exact hz) fun x hx => ?_
  rw [encBs_map] at hx
  obtain ⟨p, hp, rfl⟩ := List.mem_map.mp hx
  obtain ⟨a, c⟩ := mem_lev n b p h hp
  exact goodB n p a (by omega)
theorem findB_mem : ∀ {l : List Box} {i : Int} {p : Box}, findB l i = some p → p ∈ l
  | [], _, _, h => by cases h
  | q :: r, i, p, h => by
    rw [findB] at h
    split at h
    · cases h; simp
    · exact List.mem_cons_of_mem _ (findB_mem h)
theorem goodO {n : Nat} {b : Box} {i : Int} (h : b.lev ≤ n) (hz : b.all.length ≤ 100000) : GoodD (2 * n) (encO (findB b.all i)) := by
  cases e : findB b.all i with
  | none => exact .non
  | some p =>
    obtain ⟨a, c⟩ := mem_lev n b p h (findB_mem e)
    exact goodB n p a (by omega)
abbrev slaw_same : Stmt := topS 24
theorem sclaw_same : FnScope ["_law_actual", "_law_due_here", "_law_k"] ["_law_actual", "_law_due_here"] (defScope slaw_same) := ⟨rfl, rfl, rfl, by decide +kernel, rfl, by decide +kernel, by decide +kernel⟩
def fSame (n : Nat) : SpD := fun ds C P => ∃ (x : D) (m : Nat), m < n ∧ GoodD m x ∧ ds = [x, x] ∧ P (.bl true) C
theorem ok_law_same (Df : DefAt K mg "_law_same" slaw_same ["_law_actual", "_law_due_here"]) (T : Top mg) : ∀ n, Has P w K mg base (n+1) "_law_same" ["_law_actual", "_law_due_here"] (spD (fSame n)) := by
  intro n
  induction n with
  | zero => exact has_of Df sclaw_same (fun ds C P ⟨_, _, _, _, h, _⟩ => by rw [h]; rfl) fun f cdv A outer s H E hr => ⟨_, pss_never, fun B ds C P ⟨x, m, hm, _⟩ => ws_never (Nat.not_lt_zero _ hm)⟩
  | succ n h_law_same =>
    refine has_of Df sclaw_same (fun ds C P ⟨_, _, _, _, h, _⟩ => by rw [h]; rfl) fun f cdv A outer s H E hr => ⟨_, 
    (pss_cons (ps_if (pt_truK K (pe_callB (call_isiK K) (by rfl) T.isinstance bt_isinstance (pa_cons (pv 1) (pa_cons (pe_tup (pa_cons (pe_bltn (v := .ty "list") (by rfl) T.list bt_list rfl) (pa_cons (pe_bltn (v := .ty "tuple") (by rfl) T.tuple bt_tuple rfl) pa_nil))) pa_nil)))) 
      (pss_cons (ps_if (PW.pt (pw_or (pt_cmpR (op_neK K hr) (pe_callB (call_isiK K) (by rfl) T.isinstance bt_isinstance (pa_cons (pv 1) (pa_cons (pe_bltn (v := .ty "list") (by rfl) T.list bt_list rfl) pa_nil))) (pe_callB (call_isiK K) (by rfl) T.isinstance bt_isinstance (pa_cons (pv 0) (pa_cons (pe_bltn (v := .ty "list") (by rfl) T.list bt_list rfl) pa_nil))) (nomark _)) (pw_or1 (pt_cmpR (op_neK K hr) (pe_callB (call_isiK K) (by rfl) T.isinstance bt_isinstance (pa_cons (pv 1) (pa_cons (pe_bltn (v := .ty "tuple") (by rfl) T.tuple bt_tuple rfl) pa_nil))) (pe_callB (call_isiK K) (by rfl) T.isinstance bt_isinstance (pa_cons (pv 0) (pa_cons (pe_bltn (v := .ty "tuple") (by rfl) T.tuple bt_tuple rfl) pa_nil))) (nomark _))))) 
        (pss_one (ps_ret pe_bl)) pss_nil)
      (pss_cons (ps_if (pt_cmpR (op_neK K hr) (pe_callB (call_lenK K) (by rfl) T.len bt_len (pa_cons (pv 0) pa_nil)) (pe_callB (call_lenK K) (by rfl) T.len bt_len (pa_cons (pv 1) pa_nil)) (nomark _)) 
        (pss_one (ps_ret pe_bl)) pss_nil)
      (pss_one (ps_ret (pe_callB (call_allK K) (by rfl) T.all bt_all (pa_cons (pe_lc (own := [("_law_k", 2)]) rfl sclaw_same.nd (pi_range1 (by rfl) T.range (pa_cons (pe_callB (call_lenK K) (by rfl) T.len bt_len (pa_cons (pv 1) pa_nil)) pa_nil)) (blkOk_by (N := ["_law_actual", "_law_due_here", "_law_k"]) (sc := defScope slaw_same) (by decide +kernel)) (fun _ _ _ _ _ => pg_nm 2 sclaw_same.nd) (fun _ _ _ _ _ => pts_nil) (fun _ _ _ _ _ => (pe_def h_law_same (hr.mono (by omega)) (pa_cons (pe_ix (ix_seqK K) (pv 0) (pv 2) (fun _ _ => rfl)) (pa_cons (pe_ix (ix_seqK K) (pv 1) (pv 2) (fun _ _ => rfl)) pa_nil))))) pa_nil)))))) pss_nil)
    (pss_cons (ps_if (pt_cmpR op_isN (pv 1) pe_non (nomark _)) 
      (pss_one (ps_ret (pe_cmpR op_isN (pv 0) pe_non (nomark _)))) pss_nil)
    (pss_cons (ps_if (pt_cmpR (op_neK K hr) (pe_callB (call_isiK K) (by rfl) T.isinstance bt_isinstance (pa_cons (pv 1) (pa_cons (pe_bltn (v := .ty "bool") (by rfl) T.bool bt_bool rfl) pa_nil))) (pe_callB (call_isiK K) (by rfl) T.isinstance bt_isinstance (pa_cons (pv 0) (pa_cons (pe_bltn (v := .ty "bool") (by rfl) T.bool bt_bool rfl) pa_nil))) (nomark _)) 
      (pss_one (ps_ret pe_bl)) pss_nil)
    (pss_cons (ps_if (pt_truK K (pe_callB (call_isiK K) (by rfl) T.isinstance bt_isinstance (pa_cons (pv 1) (pa_cons (pe_bltn (v := .ty "str") (by rfl) T.str bt_str rfl) pa_nil)))) 
      (pss_one (ps_ret (pe_and (pe_callB (call_isiK K) (by rfl) T.isinstance bt_isinstance (pa_cons (pv 0) (pa_cons (pe_bltn (v := .ty "str") (by rfl) T.str bt_str rfl) pa_nil))) (pe_one (pe_cmpR (op_eqK K hr) (pv 0) (pv 1) (nomark _)))))) pss_nil)
    (pss_one (ps_ret (pe_and (pe_callB (call_isiK K) (by rfl) T.isinstance bt_isinstance (pa_cons (pv 0) (pa_cons (pe_bltn (v := .ty "int") (by rfl) T.int bt_int rfl) pa_nil))) (pe_one (pe_cmpR (op_eqK K hr) (pv 0) (pv 1) (nomark _)))))))))), fun B ds C P ⟨x, m, hm, g, hd, k⟩ => ?_⟩
    subst hd
    have items : ∀ l : List D, l.length ≤ 100000 → (∀ y ∈ l, GoodD (m - 1) y) → 0 < m → ∀ i : Nat, i < l.length → ∃ z, atI l (0 + (i : Int)) = some z ∧ GoodD (m - 1) z := by
      intro l hl hg h0 i hi
      obtain ⟨z, z1, _, z2⟩ := atI_some (ds := l) (i := 0 + (i : Int)) (by omega) (by omega)
      exact ⟨z, z2, hg z z1⟩
    cases g with
    | non =>
      kwd_rel
      kwd_less
      kwd_rel
      kwd_less
      kwd_rel
      exact k
    | bl =>
      kwd_rel
      kwd_less
      kwd_rel
      kwd_less
      kwd_rel
      kwd_less
      kwd_rel
      kwd_less
      kwd_rel
      kwd_less
      kwd_rel
      simpa using k
    | int =>
      kwd_rel
      kwd_less
      kwd_rel
      kwd_less
      kwd_rel
      kwd_less
      kwd_rel
      kwd_less
      kwd_rel
      kwd_less
      kwd_rel
      simpa using k
    | str =>
      kwd_rel
      kwd_less
      kwd_rel
      kwd_less
      kwd_rel
      kwd_less
      kwd_rel
      kwd_less
      kwd_rel
      kwd_less
      kwd_rel
      simpa using k
    | @tup m l h1 h2 =>
      kwd_rel
      kwd_less
      kwd_rel
      kwd_less
      kwd_rel
      kwd_less
      kwd_rel
      refine ite_two (fun hc => ?_) (fun hc => ?_)
      · simp at hc
      · kwd_rel
        refine w_lcMap (fun _ => .bl true) (by simp) (wi_rng1 ?_)
        kwd_rel
        refine ⟨by omega, by omega, by rw [rngD_len]; omega, fun x hx => ?_, ?_⟩
        · obtain ⟨i, hi, rfl⟩ := rngD_mem hx
          obtain ⟨z, z1, z2⟩ := items l h1 h2 (by omega) i (by omega)
          kwd_rel
          refine wr_ix .tup z1 ?_
          kwd_rel
          refine wr_ix .tup z1 ?_
          kwd_rel
          exact ⟨z, m, by omega, z2, rfl, rfl, rfl⟩
        · kwd_rel
          refine wc_all (bs := List.replicate l.length true) (by rw [rngD_const]; simp; exact .lst) ?_
          simpa using k
    | @lst m l h1 h2 =>
      kwd_rel
      kwd_less
      kwd_rel
      kwd_less
      kwd_rel
      kwd_less
      kwd_rel
      refine ite_two (fun hc => ?_) (fun hc => ?_)
      · simp at hc
      · kwd_rel
        refine w_lcMap (fun _ => .bl true) (by simp) (wi_rng1 ?_)
        kwd_rel
        refine ⟨by omega, by omega, by rw [rngD_len]; omega, fun x hx => ?_, ?_⟩
        · obtain ⟨i, hi, rfl⟩ := rngD_mem hx
          obtain ⟨z, z1, z2⟩ := items l h1 h2 (by omega) i (by omega)
          kwd_rel
          refine wr_ix .lst z1 ?_
          kwd_rel
          refine wr_ix .lst z1 ?_
          kwd_rel
          exact ⟨z, m, by omega, z2, rfl, rfl, rfl⟩
        · kwd_rel
          refine wc_all (bs := List.replicate l.length true) (by rw [rngD_const]; simp; exact .lst) ?_
          simpa using k
end
section
variable {P : Program} {w : World} {K : PySem.W.Frag} {mg : Str → Option Value} {base : Heap}
def IsDraw (C : CH) (d : Addr) : Prop := ∃ c, C d = some c ∧ DrawC c
theorem next_call {C : CH} {P : D → CH → Prop} {d : Addr} {m : Int} (h0 : 0 < m) (h1 : m < 1000000000) (h : IsDraw C d) (k : ∀ v C', 0 ≤ v → v < m → IsDraw C' d → (∀ a, a ≠ d → C' a = C a) → P (.int v) C') : fNext [.ref d, .int m] C P := by
  obtain ⟨c, h2, h3⟩ := h
  exact ⟨d, m, c, rfl, h0, h1, h2, h3, fun v c' a b e => k v _ a b ⟨c', updC_same, e⟩ fun x hx => updC_ne hx⟩
theorem isDraw_upd {C : CH} {d l : Addr} {c : Cell} (h : IsDraw C d) (n : d ≠ l) : IsDraw (updC C l c) d := by
  obtain ⟨c', h1, h2⟩ := h
  exact ⟨c', by rw [updC_ne n]; exact h1, h2⟩
theorem rng_cons {lo : Int} {n i : Nat} {x : D} {xs : List D} (h : x :: xs = (rngD lo n).drop i) : i < n ∧ x = .int (lo + (i : Nat)) ∧ xs = (rngD lo n).drop (i + 1) := by
  by_cases hi : i < n
  · rw [rngD_drop hi] at h
    injection h with h1 h2
    exact ⟨hi, h1, h2⟩
  · rw [List.drop_eq_nil_of_le (by rw [rngD_len]; omega)] at h
    cases h
theorem rng_nil {lo : Int} {n i : Nat} (h : [] = (rngD lo n).drop i) : n ≤ i := by
  have := congrArg List.length h
  rw [List.length_drop, rngD_len] at this
  simp at this
  omega
abbrev slaw_box : Stmt := topS 25
theorem sclaw_box : FnScope ["_law_draw_here", "_law_last", "_law_depth", "_law_number", "_law_height", "_law_k"] ["_law_draw_here", "_law_last", "_law_depth"] (defScope slaw_box) := ⟨rfl, rfl, rfl, by decide +kernel, rfl, by decide +kernel, by decide +kernel⟩
def fBox (n : Nat) : SpD := fun ds C P => ∃ (d l : Addr) (k : Nat) (z : Int), k < n ∧ ds = [.ref d, .ref l, .int (k : Nat)] ∧ d ≠ l ∧ IsDraw C d ∧ C l = some (.lst [.int z]) ∧
  ∀ b z' C', DocB k z b z' → IsDraw C' d → C' l = some (.lst [.int z']) → (∀ a, a ≠ d → a ≠ l → C' a = C a) → P (encB b) C'
theorem ok_law_box (Df : DefAt K mg "_law_box" slaw_box ["_law_draw_here", "_law_last", "_law_depth"]) (T : Top mg) (h_law_next : Has P w K mg base 1 "_law_next" ["_law_draw_here", "_law_many"] (spD fNext)) : ∀ n, Has P w K mg base (n+2) "_law_box" ["_law_draw_here", "_law_last", "_law_depth"] (spD (fBox n)) := by
  intro n
  induction n with
  | zero => exact has_of Df sclaw_box (fun ds C P ⟨_, _, _, _, _, h, _⟩ => by rw [h]; rfl) fun f cdv A outer s H E hr => ⟨_, pss_never, fun B ds C P ⟨_, _, k, _, hk, _⟩ => ws_never (Nat.not_lt_zero _ hk)⟩
  | succ n h_law_box =>
    refine has_of Df sclaw_box (fun ds C P ⟨_, _, _, _, _, h, _⟩ => by rw [h]; rfl) fun f cdv A outer s H E hr => ⟨_, 
    (pss_cons (ps_asg (pe_op (op_addK K) (pe_op (op_addK K) (pe_ix (ix_seqK K) (pv 1) pe_int (fun _ _ => rfl)) pe_int) (pe_def h_law_next (hr.mono (by omega)) (pa_cons (pv 0) (pa_cons pe_int pa_nil)))) (pg_sub (pv 1) pe_int set_list))
    (pss_cons (ps_nm 3 sclaw_box.nd (pe_ix (ix_seqK K) (pv 1) pe_int (fun _ _ => rfl)))
    (pss_cons (ps_if (PW.pt (pw_or (pt_cmpR (op_eqK K hr) (pv 2) pe_int (nomark _)) (pw_or1 (pt_cmpR op_gt (pe_def h_law_next (hr.mono (by omega)) (pa_cons (pv 0) (pa_cons pe_int pa_nil))) pe_int (nomark _))))) 
      (pss_one (ps_ret (pe_tup (pa_cons pe_str (pa_cons (pv 3) (pa_cons (pe_def h_law_next (hr.mono (by omega)) (pa_cons (pv 0) (pa_cons pe_int pa_nil))) pa_nil)))))) pss_nil)
    (pss_cons (ps_nm 4 sclaw_box.nd (pe_def h_law_next (hr.mono (by omega)) (pa_cons (pv 0) (pa_cons pe_int pa_nil))))
    (pss_one (ps_ret (pe_tup (pa_cons pe_str (pa_cons (pv 3) (pa_cons (pv 4) (pa_cons (pe_callTy (call_tupK K) (by rfl) T.tuple bt_tuple (pa_cons (pe_lc (own := [("_law_k", 5)]) rfl sclaw_box.nd (pi_range1 (by rfl) T.range (pa_cons (pe_def h_law_next (hr.mono (by omega)) (pa_cons (pv 0) (pa_cons pe_int pa_nil))) pa_nil)) (blkOk_by (N := ["_law_draw_here", "_law_last", "_law_depth", "_law_number", "_law_height", "_law_k"]) (sc := defScope slaw_box) (by decide +kernel)) (fun _ _ _ _ _ => pg_nm 5 sclaw_box.nd) (fun _ _ _ _ _ => pts_nil) (fun _ _ _ _ _ => (pe_def h_law_box (hr.mono (by omega)) (pa_cons (pv 0) (pa_cons (pv 1) (pa_cons (pe_op op_sub (pv 2) pe_int) pa_nil)))))) pa_nil)) pa_nil))))))))))), fun B ds C P ⟨d, l, k, z, hk, hd, dl, hD, hL, q⟩ => ?_⟩
    subst hd
    kwd_rel
    refine next_call (by decide) (by decide) hD (fun v1 C1 g1 g2 D1 o1 => ?_)
    have L1 : C1 l = some (.lst [.int z]) := by rw [o1 l (Ne.symm dl)]; exact hL
    kwd_rel
    have D2 : IsDraw (updC C1 l (.lst [.int (z + 1 + v1)])) d := isDraw_upd D1 dl
    have o2 : ∀ a, a ≠ d → a ≠ l → updC C1 l (.lst [.int (z + 1 + v1)]) a = C a := fun a h1 h2 => by rw [updC_ne h2]; exact o1 a h1
    have blk : ∀ (C2 : CH), IsDraw C2 d → C2 l = some (.lst [.int (z + 1 + v1)]) → (∀ a, a ≠ d → a ≠ l → C2 a = C a) → fNext [.ref d, .int 7] C2 (fun x C3 => P (.tup [.str "block", .int (z + 1 + v1), x]) C3) := fun C2 D2 L2 o2 =>
      next_call (by decide) (by decide) D2 (fun v C3 g3 g4 D3 o3 => q (.block (z + 1 + v1) v) _ C3 (.block (by omega) (by omega) g3 g4) D3 (by rw [o3 l (Ne.symm dl)]; exact L2) (fun a h1 h2 => by rw [o3 a h1]; exact o2 a h1 h2))
    kwd_less
    · kwd_less
      kwd_rel
      have := blk _ D2 updC_same o2
      obtain ⟨d', m', c', e, r⟩ := this
      refine ⟨d', m', c', e, r.1, r.2.1, r.2.2.1, r.2.2.2.1, fun v c2 g3 g4 g5 => ?_⟩
      kwd_rel
      exact r.2.2.2.2 v c2 g3 g4 g5
    have hk0 : k ≠ 0 := fun e => by subst e; exact absurd hc (by decide)
    kwd_rel
    refine next_call (by decide) (by decide) D2 (fun v2 C2 g3 g4 D3 o3 => ?_)
    have L2 : C2 l = some (.lst [.int (z + 1 + v1)]) := by rw [o3 l (Ne.symm dl)]; exact updC_same
    have o4 : ∀ a, a ≠ d → a ≠ l → C2 a = C a := fun a h1 h2 => by rw [o3 a h1]; exact o2 a h1 h2
    kwd_rel
    kwd_less
    · kwd_rel
      have := blk _ D3 L2 o4
      obtain ⟨d', m', c', e, r⟩ := this
      refine ⟨d', m', c', e, r.1, r.2.1, r.2.2.1, r.2.2.2.1, fun v c2 g3 g4 g5 => ?_⟩
      kwd_rel
      exact r.2.2.2.2 v c2 g3 g4 g5
    kwd_rel
    refine next_call (by decide) (by decide) D3 (fun h C3 g5 g6 D4 o5 => ?_)
    kwd_rel
    refine w_lc (fun rest acc C4 => ∃ (m i : Nat) (ps : List Box) (z' : Int), rest = (rngD 0 m).drop i ∧ i ≤ m ∧ m ≤ 2 ∧ acc = encBs ps ∧ ps.length = i ∧ DocBs (k - 1) (z + 1 + v1) ps z' ∧ IsDraw C4 d ∧ C4 l = some (.lst [.int z']) ∧ ∀ a, a ≠ d → a ≠ l → C4 a = C a)
      (sets_name (by simp)) (wi_rng1 ?_) ?_ ?_
    · kwd_rel
      refine next_call (by decide) (by decide) D4 (fun v C4 g7 g8 D5 o6 => ?_)
      kwd_rel
      refine ⟨by omega, by omega, by rw [rngD_len]; omega, v.toNat, 0, [], z + 1 + v1, rfl, Nat.zero_le _, by omega, rfl, rfl, .nil, D5, ?_, fun a h1 h2 => ?_⟩
      · rw [o6 l (Ne.symm dl), o5 l (Ne.symm dl)]; exact L2
      · rw [o6 a h1, o5 a h1]; exact o4 a h1 h2
    · rintro acc C4 ⟨m, i, ps, z', h1, h2, h3, rfl, h5, h6, h7, h8, h9⟩
      have := rng_nil h1
      kwd_rel
      refine wc_tuple .lst ?_
      kwd_rel
      obtain ⟨k', rfl⟩ : ∃ k', k = k' + 1 := ⟨k - 1, by omega⟩
      exact q (.scroller (z + 1 + v1) h ps) z' C4 (.scroller (by omega) (by omega) g5 g6 (by omega) h6) h7 h8 h9
    · rintro x xs acc C4 ⟨m, i, ps, z', h1, h2, h3, rfl, h5, h6, h7, h8, h9⟩
      obtain ⟨i1, rfl, rfl⟩ := rng_cons h1
      kwd_rel
      refine ⟨fun _ => ?_, fun z => by cases z⟩
      kwd_rel
      have ek : ((k : Nat) : Int) - 1 = ((k - 1 : Nat) : Int) := by omega
      rw [ek]
      refine ⟨d, l, k - 1, z', by omega, rfl, dl, h7, h8, fun b z2 C5 hb D5 L5 o5 => ?_⟩
      exact ⟨m, i + 1, ps ++ [b], z2, rfl, i1, h3, by rw [encBs_append]; rfl, by simp [h5], h6.snoc hb, D5, L5, fun a h1 h2 => by rw [o5 a h1 h2]; exact h9 a h1 h2⟩
abbrev slaw_document : Stmt := topS 26
theorem sclaw_document : FnScope ["_law_draw_here", "_law_last", "_law_height", "_law_number", "_law_k"] ["_law_draw_here"] (defScope slaw_document) := ⟨rfl, rfl, rfl, by decide +kernel, rfl, by decide +kernel, by decide +kernel⟩
def fDoc : SpD := fun ds C P => ∃ d : Addr, ds = [.ref d] ∧ IsDraw C d ∧ ∀ b C', DocR b → IsDraw C' d → (∀ a, a ≠ d → C' a = C a) → P (encB b) C'
theorem ok_law_document {k : Nat} (Df : DefAt K mg "_law_document" slaw_document ["_law_draw_here"]) (T : Top mg) (h_law_next : Has P w K mg base k "_law_next" ["_law_draw_here", "_law_many"] (spD fNext)) (h_law_box : Has P w K mg base k "_law_box" ["_law_draw_here", "_law_last", "_law_depth"] (spD (fBox 3))) : Has P w K mg base (k+1) "_law_document" ["_law_draw_here"] (spD fDoc) := by
  refine has_of Df sclaw_document (fun ds C P ⟨_, h, _⟩ => by rw [h]; rfl) fun f cdv A outer s H E hr => ⟨_, 
    (pss_cons (ps_nm 1 sclaw_document.nd (pe_lst (pa_cons (pe_op (op_addK K) pe_int (pe_def h_law_next (hr.mono (by omega)) (pa_cons (pv 0) (pa_cons pe_int pa_nil)))) pa_nil)))
    (pss_cons (ps_nm 2 sclaw_document.nd (pe_ix (ix_seqK K) (pe_lst (pa_cons pe_int (pa_cons pe_int (pa_cons pe_int (pa_cons pe_int (pa_cons pe_int (pa_cons pe_int pa_nil))))))) (pe_def h_law_next (hr.mono (by omega)) (pa_cons (pv 0) (pa_cons pe_int pa_nil))) (fun _ _ => rfl)))
    (pss_cons (ps_nm 3 sclaw_document.nd (pe_ix (ix_seqK K) (pv 1) pe_int (fun _ _ => rfl)))
    (pss_one (ps_ret (pe_tup (pa_cons pe_str (pa_cons (pv 3) (pa_cons (pv 2) (pa_cons (pe_callTy (call_tupK K) (by rfl) T.tuple bt_tuple (pa_cons (pe_lc (own := [("_law_k", 4)]) rfl sclaw_document.nd (pi_range1 (by rfl) T.range (pa_cons (pe_def h_law_next (hr.mono (by omega)) (pa_cons (pv 0) (pa_cons pe_int pa_nil))) pa_nil)) (blkOk_by (N := ["_law_draw_here", "_law_last", "_law_height", "_law_number", "_law_k"]) (sc := defScope slaw_document) (by decide +kernel)) (fun _ _ _ _ _ => pg_nm 4 sclaw_document.nd) (fun _ _ _ _ _ => pts_nil) (fun _ _ _ _ _ => (pe_def h_law_box (hr.mono (by omega)) (pa_cons (pv 0) (pa_cons (pv 1) (pa_cons (pe_op (op_addK K) pe_int (pe_def h_law_next (hr.mono (by omega)) (pa_cons (pv 0) (pa_cons pe_int pa_nil)))) pa_nil)))))) pa_nil)) pa_nil)))))))))), fun B ds C P ⟨d, hd, hD, q⟩ => ?_⟩
  subst hd
  refine ws_weak ?_
  kwd_rel
  refine w_lstC ?_
  kwd_rel
  refine next_call (by decide) (by decide) hD (fun v1 C1 g1 g2 D1 o1 => ?_)
  kwd_rel
  intro l hl
  have dl : d ≠ l := fun e => by
    obtain ⟨c, h1, _⟩ := D1
    rw [e, hl] at h1
    cases h1
  kwd_rel
  refine w_lst ?_
  kwd_rel
  refine next_call (by decide) (by decide) (isDraw_upd D1 dl) (fun v2 C2 g3 g4 D2 o2 => ?_)
  have hh : ∃ h : Int, atI [D.int 0, D.int 3, D.int 6, D.int 9, D.int 12, D.int 20] v2 = some (.int h) ∧ 0 ≤ h ∧ h ≤ 20 := by
    have : v2 = 0 ∨ v2 = 1 ∨ v2 = 2 ∨ v2 = 3 ∨ v2 = 4 ∨ v2 = 5 := by omega
    rcases this with rfl | rfl | rfl | rfl | rfl | rfl <;> exact ⟨_, rfl, by decide, by decide⟩
  obtain ⟨h, hat, h0, h20⟩ := hh
  refine wr_ix .lst hat ?_
  have L2 : C2 l = some (.lst [.int (1 + v1)]) := by rw [o2 l (Ne.symm dl)]; exact updC_same
  kwd_rel
  refine w_lc (fun rest acc C4 => ∃ (m i : Nat) (ps : List Box) (z' : Int), rest = (rngD 0 m).drop i ∧ i ≤ m ∧ m ≤ 4 ∧ acc = encBs ps ∧ ps.length = i ∧ DocBs 2 (1 + v1) ps z' ∧ IsDraw C4 d ∧ C4 l = some (.lst [.int z']) ∧ ∀ a, a ≠ d → a ≠ l → C4 a = C a)
    (sets_name (by simp)) (wi_rng1 ?_) ?_ ?_
  · kwd_rel
    refine next_call (by decide) (by decide) D2 (fun v C4 g7 g8 D5 o6 => ?_)
    kwd_rel
    refine ⟨by omega, by omega, by rw [rngD_len]; omega, v.toNat, 0, [], 1 + v1, rfl, Nat.zero_le _, by omega, rfl, rfl, .nil, D5, ?_, fun a h1 h2 => ?_⟩
    · rw [o6 l (Ne.symm dl)]; exact L2
    · rw [o6 a h1, o2 a h1, updC_ne h2, o1 a h1]
  · rintro acc C4 ⟨m, i, ps, z', h1, h2, h3, rfl, h5, h6, h7, h8, h9⟩
    have := rng_nil h1
    kwd_rel
    refine wc_tuple .lst ?_
    kwd_rel
    have hCl : C l = none := by rw [← o1 l (Ne.symm dl)]; exact hl
    refine ⟨fun a => if a = l then none else C4 a, fun a c e => ?_, q (.scroller (1 + v1) h ps) _ ⟨1 + v1, h, ps, z', rfl, by omega, by omega, h0, h20, by omega, h6⟩ ?_ fun a ha => ?_⟩
    · have e : (if a = l then none else C4 a) = some c := e
      split at e
      · cases e
      · exact e
    · obtain ⟨c, e1, e2⟩ := h7
      exact ⟨c, by show (if d = l then none else C4 d) = some c; rw [if_neg dl]; exact e1, e2⟩
    · show (if a = l then none else C4 a) = C a
      by_cases e : a = l
      · rw [if_pos e, e, hCl]
      · rw [if_neg e]; exact h9 a ha e
  · rintro x xs acc C4 ⟨m, i, ps, z', h1, h2, h3, rfl, h5, h6, h7, h8, h9⟩
    obtain ⟨i1, rfl, rfl⟩ := rng_cons h1
    kwd_rel
    refine ⟨fun _ => ?_, fun z => by cases z⟩
    kwd_rel
    refine next_call (by decide) (by decide) h7 (fun v C5 g7 g8 D5 o6 => ?_)
    kwd_rel
    have L5 : C5 l = some (.lst [.int z']) := by rw [o6 l (Ne.symm dl)]; exact h8
    have ev : (1 : Int) + v = ((1 + v.toNat : Nat) : Int) := by omega
    rw [ev]
    refine ⟨d, l, 1 + v.toNat, z', by omega, rfl, dl, D5, L5, fun b z2 C6 hb D6 L6 o7 => ?_⟩
    have hb2 : DocB 2 z' b z2 := by
      have : v.toNat = 0 ∨ v.toNat = 1 := by omega
      rcases this with e | e
      · rw [e] at hb; exact hb.mono
      · rw [e] at hb; exact hb
    exact ⟨m, i + 1, ps ++ [b], z2, rfl, i1, h3, by rw [encBs_append]; rfl, by simp [h5], h6.snoc hb2, D6, L6, fun a h1 h2 => by rw [o7 a h1 h2, o6 a h1]; exact h9 a h1 h2⟩
end
section
theorem mk_b : mkS [98] = ("b" : Str) := str_b.symm
theorem mk_s : mkS [115] = ("s" : Str) := str_s.symm
theorem mk_o : mkS [91] = ("[" : Str) := str_o.symm
theorem mk_c : mkS [93] = ("]" : Str) := str_c.symm
theorem mk_k : mkS [58] = (":" : Str) := str_k.symm
def NumB (b : Box) : Prop := ∀ p ∈ b.all, (0 ≤ p.num ∧ p.num ≤ 1000) ∧ 0 ≤ p.hgt ∧ p.hgt ≤ 1000
theorem NumB.part {b p : Box} (h : NumB b) (hp : p ∈ b.parts) : NumB p := fun q hq => h q (by rw [all_eq, alls_flat]; exact List.mem_cons_of_mem _ (List.mem_flatMap.mpr ⟨p, hp, hq⟩))
end
section
variable {P : Program} {w : World} {K : PySem.W.Frag} {mg : Str → Option Value} {base : Heap}
/-! ### the law's tokens and noise -/
def fTokens (n : Nat) : SpD := fun ds C P => ∃ b : Box, b.lev ≤ n ∧ NumB b ∧ b.all.length ≤ 1000 ∧ ds = [encB b] ∧ P (.lst ((tkB b).map strD)) C
def hdT (m h : Int) (pre : List Box) : List (List Nat) := [[115], num m, [58], num h] ++ if pre.isEmpty then [] else [91] :: tkBs pre
theorem hdT_snoc (m h : Int) (pre : List Box) (p : Box) : hdT m h (pre ++ [p]) = hdT m h pre ++ (if pre.isEmpty then [[91]] else []) ++ tkB p := by
  unfold hdT
  rw [tkBs_app, tkBs, tkBs, List.append_nil]
  cases pre with
  | nil => simp [tkBs]
  | cons q r => simp
theorem hdT_last (m h : Int) (pre : List Box) : ∃ l0 z, (hdT m h pre).map strD = l0 ++ [strD z] ∧ (pre.isEmpty = true → z = num h) := by
  cases pre with
  | nil => exact ⟨[strD [115], strD (num m), strD [58]], num h, rfl, fun _ => rfl⟩
  | cons q r =>
    have hne : hdT m h (q :: r) ≠ [] := by simp [hdT]
    refine ⟨((hdT m h (q :: r)).dropLast).map strD, (hdT m h (q :: r)).getLast hne, ?_, fun z => by cases z⟩
    rw [← List.map_singleton (f := strD), ← List.map_append, List.dropLast_concat_getLast]
theorem hdT_len (m h : Int) (pre : List Box) : (hdT m h pre).length = 4 + if pre.isEmpty then 0 else 1 + (tkBs pre).length := by
  unfold hdT
  cases pre with
  | nil => rfl
  | cons q r => simp; omega
abbrev slaw_tokens : Stmt := topS 33
theorem sclaw_tokens : FnScope ["_law_box_here", "_law_head", "_law_part"] ["_law_box_here"] (defScope slaw_tokens) := ⟨rfl, rfl, rfl, by decide +kernel, rfl, by decide +kernel, by decide +kernel⟩
theorem ok_law_tokens (Df : DefAt K mg "_law_tokens" slaw_tokens ["_law_box_here"]) (T : Top mg) : ∀ n, Has P w K mg base (n+1) "_law_tokens" ["_law_box_here"] (spD (fTokens n)) := by
  intro n
  induction n with
  | zero =>
    refine has_of Df sclaw_tokens (fun ds C P ⟨_, _, _, _, h, _⟩ => by rw [h]; rfl) fun f cdv A outer s H E hr => ⟨_, pss_never, fun B ds C P ⟨b, hl, _⟩ => ws_never ?_⟩
    cases b <;> simp [Box.lev] at hl
  | succ n h_law_tokens =>
    refine has_of Df sclaw_tokens (fun ds C P ⟨_, _, _, _, h, _⟩ => by rw [h]; rfl) fun f cdv A outer s H E hr => ⟨_, 
    (pss_cons (ps_nm 1 sclaw_tokens.nd (pe_lst (pa_cons (pe_ifExp (pt_cmpR (op_eqK K hr) (pe_ix (ix_seqK K) (pv 0) pe_int (fun _ _ => rfl)) pe_str (nomark _)) pe_str pe_str) (pa_cons (pe_callTy call_strN (by rfl) T.str bt_str (pa_cons (pe_ix (ix_seqK K) (pv 0) pe_int (fun _ _ => rfl)) pa_nil)) (pa_cons pe_str (pa_cons (pe_callTy call_strN (by rfl) T.str bt_str (pa_cons (pe_ix (ix_seqK K) (pv 0) pe_int (fun _ _ => rfl)) pa_nil)) pa_nil))))))
    (pss_cons (ps_if (pt_cmpR (op_eqK K hr) (pe_ix (ix_seqK K) (pv 0) pe_int (fun _ _ => rfl)) pe_str (nomark _)) 
      (pss_one (ps_ret (pv 1))) pss_nil)
    (pss_cons (ps_for PassesOwn.never rfl (pi_seqK K (pe_ix (ix_seqK K) (pv 0) pe_int (fun _ _ => rfl))) (pg_nm 2 sclaw_tokens.nd) 
      (pss_one (ps_nm 1 sclaw_tokens.nd (pe_op (op_addK K) (pe_op (op_addK K) (pv 1) (pe_ifExp (PW.pt (pw_and (pt_cmpR (op_eqK K hr) (pe_ix (ix_seqK K) (pv 1) (pe_un un_neg pe_int) (fun _ _ => rfl)) (pe_callTy call_strN (by rfl) T.str bt_str (pa_cons (pe_ix (ix_seqK K) (pv 0) pe_int (fun _ _ => rfl)) pa_nil)) (nomark _)) (pw_and1 (pt_cmpR (op_eqK K hr) (pe_callB (call_lenK K) (by rfl) T.len bt_len (pa_cons (pv 1) pa_nil)) pe_int (nomark _))))) (pe_lst (pa_cons pe_str pa_nil)) (pe_lst pa_nil))) (pe_def h_law_tokens (hr.mono (by omega)) (pa_cons (pv 2) pa_nil))))))
    (pss_one (ps_ret (pe_op (op_addK K) (pe_op (op_addK K) (pv 1) (pe_ifExp (pt_cmpR (op_eqK K hr) (pe_callB (call_lenK K) (by rfl) T.len bt_len (pa_cons (pv 1) pa_nil)) pe_int (nomark _)) (pe_lst (pa_cons pe_str pa_nil)) (pe_lst pa_nil))) (pe_lst (pa_cons pe_str pa_nil)))))))), fun B ds C P ⟨b, hl, hb, hz, hd, q⟩ => ?_⟩
    subst hd
    obtain ⟨⟨i1, i2⟩, i3, i4⟩ := hb b (by rw [all_eq]; simp)
    cases b with
    | block m h =>
      replace i1 : 0 ≤ m := i1
      replace i2 : m ≤ 1000 := i2
      replace i3 : 0 ≤ h := i3
      replace i4 : h ≤ 1000 := i4
      kwd_rel
      refine w_lst ?_
      kwd_rel
      kwd_less
      kwd_rel
      refine wc_strN (by show m.natAbs ≤ _; omega) ?_
      kwd_rel
      refine wc_strN (by show h.natAbs ≤ _; omega) ?_
      kwd_rel
      kwd_less
      kwd_rel
      rw [← mk_b, ← mk_k, numS_num, numS_num]
      exact q
    | scroller m h ps =>
      replace i1 : 0 ≤ m := i1
      replace i2 : m ≤ 1000 := i2
      replace i3 : 0 ≤ h := i3
      replace i4 : h ≤ 1000 := i4
      have htl := tkB_len (.scroller m h ps)
      have htl2 := tkBs_len ps
      have hall : (alls ps).length + 1 = (Box.scroller m h ps).all.length := by rw [Box.all]; rfl
      kwd_rel
      refine w_lst ?_
      kwd_rel
      kwd_less
      kwd_rel
      refine wc_strN (by show m.natAbs ≤ _; omega) ?_
      kwd_rel
      refine wc_strN (by show h.natAbs ≤ _; omega) ?_
      kwd_rel
      kwd_less
      kwd_rel
      rw [← mk_s, ← mk_k, numS_num, numS_num]
      refine ws_for (fun rest E1 C1 => ∃ (pre post : List Box) (x2 : Option D), ps = pre ++ post ∧ rest = encBs post ∧ E1 = [some (encB (.scroller m h ps)), some (.lst ((hdT m h pre).map strD)), x2] ∧ C1 = C) (wi_seq ?_) ?_ ?_
      · kwd_rel
        exact ⟨[], ps, none, rfl, rfl, rfl, rfl⟩
      · rintro E1 C1 ⟨pre, post, x2, h1, h2, rfl, rfl⟩
        have e := encBs_nil h2
        subst e
        rw [List.append_nil] at h1
        subst h1
        have hhl := hdT_len m h ps
        have e0 : tkB (.scroller m h ps) = hdT m h ps ++ ((if ps.isEmpty then [[91]] else []) ++ [[93]]) := by
          rw [tkB]
          unfold hdT
          cases ps with
          | nil => simp [tkBs]
          | cons q r => simp
        rw [e0, List.map_append, List.map_append] at q
        kwd_rel
        rw [List.length_map, hhl]
        cases ps with
        | nil =>
          kwd_rel
          kwd_less
          refine w_lst ?_
          kwd_rel
          refine wr_addL .lst .lst (by simp [hdT]) ?_
          refine w_lst ?_
          kwd_rel
          refine wr_addL .lst .lst (by simp [hdT]) ?_
          rw [List.append_assoc, ← mk_o, ← mk_c]
          exact q
        | cons p0 r0 =>
          refine ite_two (fun z => absurd (of_decide_eq_true z) (by simp; omega)) (fun _ => ?_)
          refine w_lst ?_
          kwd_rel
          have hlen : ((hdT m h (p0 :: r0)).map strD).length ≤ 100000 := by
            rw [List.length_map, hhl]
            simp at htl2 ⊢
            omega
          refine wr_addL .lst .lst (by simp only [List.length_nil]; omega) ?_
          refine w_lst ?_
          kwd_rel
          rw [← mk_c]
          refine wr_addL .lst .lst (by rw [List.append_nil]; simp only [List.length_cons, List.length_nil]; omega) ?_
          rw [List.append_assoc]
          exact q
      rintro x xs E1 C1 ⟨pre, post, x2, h1, h2, rfl, rfl⟩
      obtain ⟨p, r, rfl, rfl, rfl⟩ := encBs_cons h2
      have hp : p ∈ (Box.scroller m h ps).parts := by show p ∈ ps; rw [h1]; simp
      obtain ⟨l0, z, hl0, hlz⟩ := hdT_last m h pre
      have hhl := hdT_len m h pre
      have hpl := tkB_len p
      have hpz := all_len_sub hp
      have hpre : (tkBs pre).length ≤ (tkBs ps).length := by rw [h1, tkBs_app, List.length_append]; omega
      have nextP : ∃ (pre' post' : List Box) (x2' : Option D), ps = pre' ++ post' ∧ encBs r = encBs post' ∧ [some (encB (.scroller m h ps)), some (.lst ((hdT m h pre).map strD ++ ((if pre.isEmpty then [strD [91]] else []) ++ (tkB p).map strD))), some (encB p)] = [some (encB (.scroller m h ps)), some (.lst ((hdT m h pre').map strD)), x2'] ∧ C1 = C1 :=
        ⟨pre ++ [p], r, some (encB p), by simp [h1], rfl, by rw [hdT_snoc, List.map_append, List.map_append, List.append_assoc]; cases pre <;> rfl, rfl⟩
      have hlen : ((hdT m h pre).map strD).length ≤ 100000 := by
        rw [List.length_map, hhl]
        split <;> omega
      have rest2 : ∀ X : List D, X = (if pre.isEmpty then [strD [91]] else []) → (fTokens n [encB p] C1 fun y C4 => WR B (rAddU K) (.lst ((hdT m h pre).map strD ++ X)) y C4 fun d C5 => ∃ (pre' post' : List Box) (x2' : Option D), ps = pre' ++ post' ∧ encBs r = encBs post' ∧ [some (encB (.scroller m h ps)), some d, some (encB p)] = [some (encB (.scroller m h ps)), some (.lst ((hdT m h pre').map strD)), x2'] ∧ C5 = C1) := fun X hX => by
        subst hX
        refine ⟨p, lev_parts hl hp, hb.part hp, Nat.le_trans hpz hz, rfl, ?_⟩
        refine wr_addL .lst .lst ?_ ?_
        · rw [List.length_append, List.length_map (as := tkB p)]
          have : (if pre.isEmpty = true then [strD [91]] else []).length ≤ 1 := by split <;> simp
          omega
        · rw [List.append_assoc]
          exact nextP
      kwd_rel
      rw [hl0]
      refine wr_ix .lst atI_last ?_
      kwd_rel
      refine wc_strN (by show h.natAbs ≤ _; omega) ?_
      rw [← hl0]
      have hhl2 : ((hdT m h pre).map strD).length = 4 + if pre.isEmpty then 0 else 1 + (tkBs pre).length := by rw [List.length_map, hhl]
      kwd_rel
      cases he : pre.isEmpty with
      | true =>
        have hz2 := hlz he
        rw [he, if_pos rfl] at hhl2
        refine ite_two (fun _ => ?_) (fun hc => absurd (of_decide_eq_false hc) (fun y => y (by rw [hz2]; exact (numS_num h).symm)))
        kwd_rel
        rw [hhl2]
        refine ite_two (fun _ => ?_) (fun hc => absurd (of_decide_eq_false hc) (fun y => y rfl))
        refine w_lst ?_
        kwd_rel
        rw [← mk_o]
        refine wr_addL .lst .lst (by rw [hhl2]; decide) ?_
        kwd_rel
        exact rest2 [strD [91]] (by rw [he]; rfl)
      | false =>
        rw [he, if_neg (by decide)] at hhl2
        have nolist : W B (tLst tNil) ([some (encB (.scroller m h ps)), some (.lst ((hdT m h pre).map strD)), x2].set 2 (some (encB p))) C1 fun y C2 => WR B (rAddU K) (.lst ((hdT m h pre).map strD)) y C2 fun x C3 =>
            W B (tCall (spD (fTokens n)) [] E0 (tCons (tVar 2) tNil)) ([some (encB (.scroller m h ps)), some (.lst ((hdT m h pre).map strD)), x2].set 2 (some (encB p))) C3 fun y C4 => WR B (rAddU K) x y C4 fun d C5 =>
              ∃ (pre' post' : List Box) (x2' : Option D), ps = pre' ++ post' ∧ encBs r = encBs post' ∧ [some (encB (.scroller m h ps)), some d, some (encB p)] = [some (encB (.scroller m h ps)), some (.lst ((hdT m h pre').map strD)), x2'] ∧ C5 = C1 := by
          refine w_lst ?_
          kwd_rel
          refine wr_addL .lst .lst (by simp only [List.length_nil]; omega) ?_
          kwd_rel
          exact rest2 [] (by rw [he]; rfl)
        refine ite_two (fun _ => ?_) (fun _ => ?_)
        · kwd_rel
          rw [hhl2]
          refine ite_two (fun hc => absurd (of_decide_eq_true hc) (by omega)) (fun _ => ?_)
          exact nolist
        · exact ⟨fun z => (by cases z), fun _ => nolist⟩
end
section
variable {P : Program} {w : World} {K : PySem.W.Frag} {mg : Str → Option Value} {base : Heap}
/-! ### large boxes; tokens that are changed -/
structure BigB (b : Box) : Prop where
  nb : NumB b
  lev : b.lev ≤ 8
  len : b.all.length ≤ 41
theorem bigB_doc {b : Box} (h : DocR b) : BigB b := by
  have ok := docR_ok h
  have l1 := ok.lev
  have l2 := ok.len
  refine ⟨fun p hp => ?_, by omega, by omega⟩
  have h1 := ok.rg p hp
  have h2 := ok.hg p hp
  omega
def fLarge : SpD := fun ds C P => ∃ d : Addr, ds = [.ref d] ∧ IsDraw C d ∧ ∀ b C', BigB b → IsDraw C' d → P (encB b) C'
def blk38 (n : Nat) : List Box := (List.range n).map fun k => Box.block (10 + (k : Nat)) (k : Nat)
theorem blk_snoc (n : Nat) : blk38 (n + 1) = blk38 n ++ [Box.block (10 + (n : Nat)) (n : Nat)] := by
  unfold blk38
  rw [List.range_succ, List.map_append]
  rfl
theorem blk_all (n : Nat) : alls (blk38 n) = blk38 n := by
  unfold blk38
  generalize List.range n = l
  induction l with
  | nil => rfl
  | cons a l ih =>
    rw [List.map_cons, alls, ih]
    rfl
abbrev slaw_large : Stmt := topS 39
theorem sclaw_large : FnScope ["_law_draw_here", "_law_box_here", "_law_k"] ["_law_draw_here"] (defScope slaw_large) := ⟨rfl, rfl, rfl, by decide +kernel, rfl, by decide +kernel, by decide +kernel⟩
theorem ok_law_large {k : Nat} (Df : DefAt K mg "_law_large" slaw_large ["_law_draw_here"]) (T : Top mg) (h_law_next : Has P w K mg base k "_law_next" ["_law_draw_here", "_law_many"] (spD fNext)) : Has P w K mg base (k+1) "_law_large" ["_law_draw_here"] (spD fLarge) := by
  refine has_of Df sclaw_large (fun ds C P ⟨_, h, _⟩ => by rw [h]; rfl) fun f cdv A outer s H E hr => ⟨_, 
    (pss_cons (ps_if (pt_cmpR (op_eqK K hr) (pe_def h_law_next (hr.mono (by omega)) (pa_cons (pv 0) (pa_cons pe_int pa_nil))) pe_int (nomark _)) 
      (pss_cons (ps_nm 1 sclaw_large.nd (pe_tup (pa_cons pe_str (pa_cons pe_int (pa_cons pe_int pa_nil)))))
      (pss_cons (ps_for PassesOwn.never rfl (pi_range1 (by rfl) T.range (pa_cons (pe_op (op_addK K) pe_int (pe_def h_law_next (hr.mono (by omega)) (pa_cons (pv 0) (pa_cons pe_int pa_nil)))) pa_nil)) (pg_nm 2 sclaw_large.nd) 
        (pss_one (ps_nm 1 sclaw_large.nd (pe_tup (pa_cons pe_str (pa_cons (pe_op (op_addK K) pe_int (pv 2)) (pa_cons pe_int (pa_cons (pe_tup (pa_cons (pv 1) pa_nil)) pa_nil))))))))
      (pss_one (ps_ret (pv 1))))) pss_nil)
    (pss_one (ps_ret (pe_tup (pa_cons pe_str (pa_cons pe_int (pa_cons pe_int (pa_cons (pe_callTy (call_tupK K) (by rfl) T.tuple bt_tuple (pa_cons (pe_lc (own := [("_law_k", 2)]) rfl sclaw_large.nd (pi_range1 (by rfl) T.range (pa_cons (pe_op (op_addK K) pe_int (pe_def h_law_next (hr.mono (by omega)) (pa_cons (pv 0) (pa_cons pe_int pa_nil)))) pa_nil)) (blkOk_by (N := ["_law_draw_here", "_law_box_here", "_law_k"]) (sc := defScope slaw_large) (by decide +kernel)) (fun _ _ _ _ _ => pg_nm 2 sclaw_large.nd) (fun _ _ _ _ _ => pts_nil) (fun _ _ _ _ _ => (pe_tup (pa_cons pe_str (pa_cons (pe_op (op_addK K) pe_int (pv 2)) (pa_cons (pv 2) pa_nil)))))) pa_nil)) pa_nil)))))))), fun B ds C P ⟨d, hd, hD, q⟩ => ?_⟩
  subst hd
  kwd_rel
  refine next_call (by decide) (by decide) hD (fun v C1 g1 g2 D1 o1 => ?_)
  kwd_rel
  kwd_less
  · kwd_rel
    refine ws_for (fun rest E1 C2 => ∃ (m i : Nat) (b : Box) (x2 : Option D), rest = (rngD 0 m).drop i ∧ i ≤ m ∧ m ≤ 6 ∧ NumB b ∧ b.lev ≤ i + 1 ∧ b.all.length = i + 1 ∧ E1 = [some (.ref d), some (encB b), x2] ∧ IsDraw C2 d) (wi_rng1 ?_) ?_ ?_
    · kwd_rel
      refine next_call (by decide) (by decide) D1 (fun v C2 g1 g2 D2 o2 => ?_)
      kwd_rel
      refine ⟨by omega, by omega, (3 + v).toNat, 0, .block 5 3, none, rfl, Nat.zero_le _, by omega, fun p hp => ?_, by simp [Box.lev], by simp [Box.all], rfl, D2⟩
      simp [Box.all] at hp
      subst hp
      exact ⟨⟨by show (0 : Int) ≤ 5; omega, by show (5 : Int) ≤ 1000; omega⟩, by show (0 : Int) ≤ 3; omega, by show (3 : Int) ≤ 1000; omega⟩
    · rintro E1 C2 ⟨m, i, b, x2, h1, h2, h3, h4, h5, h6, rfl, D2⟩
      have := rng_nil h1
      kwd_rel
      exact q b C2 ⟨h4, by omega, by omega⟩ D2
    · rintro x xs E1 C2 ⟨m, i, b, x2, h1, h2, h3, h4, h5, h6, rfl, D2⟩
      obtain ⟨i1, rfl, rfl⟩ := rng_cons h1
      rw [Int.zero_add]
      kwd_rel
      refine ⟨m, i + 1, .scroller (10 + (i : Nat)) 5 [b], _, rfl, i1, h3, fun p hp => ?_, ?_, ?_, rfl, D2⟩
      · rw [Box.all, alls, alls, List.append_nil] at hp
        rcases List.mem_cons.mp hp with rfl | hp
        · exact ⟨⟨by show (0 : Int) ≤ 10 + (i : Nat); omega, by show (10 : Int) + (i : Nat) ≤ 1000; omega⟩, by show (0 : Int) ≤ 5; omega, by show (5 : Int) ≤ 1000; omega⟩
        · exact h4 p hp
      · rw [Box.lev, levs, levs]; omega
      · rw [Box.all, alls, alls, List.append_nil, List.length_cons, h6]
  · kwd_rel
    refine w_lc (fun rest acc C2 => ∃ (m i : Nat), rest = (rngD 0 m).drop i ∧ i ≤ m ∧ m ≤ 40 ∧ acc = encBs (blk38 i) ∧ IsDraw C2 d) (sets_name (by simp)) (wi_rng1 ?_) ?_ ?_
    · kwd_rel
      refine next_call (by decide) (by decide) D1 (fun v C2 g1 g2 D2 o2 => ?_)
      kwd_rel
      exact ⟨by omega, by omega, by rw [rngD_len]; omega, (38 + v).toNat, 0, rfl, Nat.zero_le _, by omega, rfl, D2⟩
    · rintro acc C2 ⟨m, i, h1, h2, h3, rfl, D2⟩
      have := rng_nil h1
      kwd_rel
      refine wc_tuple .lst ?_
      kwd_rel
      refine q (.scroller 1 9 (blk38 i)) C2 ⟨fun p hp => ?_, ?_, ?_⟩ D2
      · rw [Box.all, blk_all] at hp
        rcases List.mem_cons.mp hp with rfl | hp
        · exact ⟨⟨by show (0 : Int) ≤ 1; omega, by show (1 : Int) ≤ 1000; omega⟩, by show (0 : Int) ≤ 9; omega, by show (9 : Int) ≤ 1000; omega⟩
        · obtain ⟨j, hj, rfl⟩ := List.mem_map.mp hp
          have := List.mem_range.mp hj
          exact ⟨⟨by show (0 : Int) ≤ 10 + (j : Nat); omega, by show (10 : Int) + (j : Nat) ≤ 1000; omega⟩, by show (0 : Int) ≤ (j : Nat); omega, by show ((j : Nat) : Int) ≤ 1000; omega⟩
      · have : levs (blk38 i) ≤ 1 := levs_of fun p hp => by
          obtain ⟨j, hj, rfl⟩ := List.mem_map.mp hp
          simp [Box.lev]
        rw [Box.lev]
        omega
      · rw [Box.all, blk_all, List.length_cons]
        simp [blk38]
        omega
    · rintro x xs acc C2 ⟨m, i, h1, h2, h3, rfl, D2⟩
      obtain ⟨i1, rfl, rfl⟩ := rng_cons h1
      rw [Int.zero_add]
      kwd_rel
      refine ⟨fun _ => ?_, fun z => by cases z⟩
      kwd_rel
      exact ⟨m, i + 1, rfl, i1, h3, by rw [blk_snoc, encBs_append]; rfl, D2⟩
def TkX (t : List Nat) : Prop := TkT t ∨ t = [45] ∨ t = [120]
structure TsOk (n : Nat) (ts : List (List Nat)) : Prop where
  ok : ∀ t ∈ ts, TkX t ∧ t.length ≤ 10
  len : ts.length ≤ 250 + n
  op : ts.count [91] ≤ 41 + n
def fChanged : SpD := fun ds C P => ∃ (d : Addr) (ts : List (List Nat)), ds = [.ref d, .lst (ts.map strD)] ∧ IsDraw C d ∧ TsOk 0 ts ∧ ∀ ts' C', TsOk 2 ts' → IsDraw C' d → P (.lst (ts'.map strD)) C'
theorem TsOk.mono {n m : Nat} {ts : List (List Nat)} (h : TsOk n ts) (l : n ≤ m) : TsOk m ts := ⟨h.ok, Nat.le_trans h.len (by omega), Nat.le_trans h.op (by omega)⟩
theorem TsOk.put {n a b : Nat} {ts : List (List Nat)} {t : List Nat} (h : TsOk n ts) (hb : a ≤ b) (ht : TkX t ∧ t.length ≤ 10) : TsOk (n + 1) (ts.take a ++ [t] ++ ts.drop b) := by
  refine ⟨fun x hx => ?_, ?_, ?_⟩
  · rcases List.mem_append.mp hx with hx | hx
    · rcases List.mem_append.mp hx with hx | hx
      · exact h.ok x (List.mem_of_mem_take hx)
      · rw [List.mem_singleton.mp hx]; exact ht
    · exact h.ok x (List.mem_of_mem_drop hx)
  · have := h.len
    simp
    omega
  · have := h.op
    have h1 : ts.count [91] = (ts.take a).count [91] + (ts.drop a).count [91] := by rw [← List.count_append, List.take_append_drop]
    have h2 : (ts.drop b).count [91] ≤ (ts.drop a).count [91] := by
      obtain ⟨k, rfl⟩ := Nat.le.dest hb
      rw [← List.drop_drop]
      exact (List.drop_sublist _ _).count_le _
    have h3 : ([t] : List (List Nat)).count [91] ≤ 1 := List.count_le_length
    rw [List.count_append, List.count_append]
    omega
theorem TsOk.cutL {n a : Nat} {ts : List (List Nat)} (h : TsOk n ts) : TsOk n (ts.take a) := ⟨fun x hx => h.ok x (List.mem_of_mem_take hx), by have := h.len; simp; omega, Nat.le_trans ((List.take_sublist _ _).count_le _) h.op⟩
theorem TsOk.out {n a b : Nat} {ts : List (List Nat)} (h : TsOk n ts) (hb : a ≤ b) : TsOk n (ts.take a ++ ts.drop b) := by
  refine ⟨fun x hx => ?_, ?_, ?_⟩
  · rcases List.mem_append.mp hx with hx | hx
    · exact h.ok x (List.mem_of_mem_take hx)
    · exact h.ok x (List.mem_of_mem_drop hx)
  · have := h.len
    simp
    omega
  · have := h.op
    have h1 : ts.count [91] = (ts.take a).count [91] + (ts.drop a).count [91] := by rw [← List.count_append, List.take_append_drop]
    have h2 : (ts.drop b).count [91] ≤ (ts.drop a).count [91] := by
      obtain ⟨k, rfl⟩ := Nat.le.dest hb
      rw [← List.drop_drop]
      exact (List.drop_sublist _ _).count_le _
    rw [List.count_append]
    omega
theorem signs_at {v : Int} (h0 : 0 ≤ v) (h1 : v < 11) : ∃ t : List Nat, atI [D.str "b", .str "s", .str ":", .str "[", .str "]", .str "7", .str "0", .str "1000", .str "1001", .str "-", .str "x"] v = some (strD t) ∧ TkX t ∧ t.length ≤ 10 := by
  have nm : ∀ n : Int, 0 ≤ n → n ≤ 100000 → TkX (num n) ∧ (num n).length ≤ 10 := fun n a b => ⟨.inl (.inl ⟨n, num_ok a b⟩), by have := num_len a b; omega⟩
  have hv : v = 0 ∨ v = 1 ∨ v = 2 ∨ v = 3 ∨ v = 4 ∨ v = 5 ∨ v = 6 ∨ v = 7 ∨ v = 8 ∨ v = 9 ∨ v = 10 := by omega
  rcases hv with rfl | rfl | rfl | rfl | rfl | rfl | rfl | rfl | rfl | rfl | rfl
  · exact ⟨[98], by unfold strD; rw [← str_b]; rfl, .inl (.inr (.inl rfl)), by decide⟩
  · exact ⟨[115], by unfold strD; rw [← str_s]; rfl, .inl (.inr (.inr (.inl rfl))), by decide⟩
  · exact ⟨[58], by unfold strD; rw [← str_k]; rfl, .inl (.inr (.inr (.inr (.inl rfl)))), by decide⟩
  · exact ⟨[91], by unfold strD; rw [← str_o]; rfl, .inl (.inr (.inr (.inr (.inr (.inl rfl))))), by decide⟩
  · exact ⟨[93], by unfold strD; rw [← str_c]; rfl, .inl (.inr (.inr (.inr (.inr (.inr rfl))))), by decide⟩
  · exact ⟨num 7, by unfold strD; rw [← numS_num]; have : numS 7 = ("7" : Str) := by decide +kernel
                     rw [this]; rfl, nm 7 (by decide) (by decide)⟩
  · exact ⟨num 0, by unfold strD; rw [← numS_num]; have : numS 0 = ("0" : Str) := by decide +kernel
                     rw [this]; rfl, nm 0 (by decide) (by decide)⟩
  · exact ⟨num 1000, by unfold strD; rw [← numS_num]; have : numS 1000 = ("1000" : Str) := by decide +kernel
                        rw [this]; rfl, nm 1000 (by decide) (by decide)⟩
  · exact ⟨num 1001, by unfold strD; rw [← numS_num]; have : numS 1001 = ("1001" : Str) := by decide +kernel
                        rw [this]; rfl, nm 1001 (by decide) (by decide)⟩
  · exact ⟨[45], by unfold strD; have : ("-" : Str) = mkS [45] := by decide +kernel
                    rw [← this]; rfl, .inr (.inl rfl), by decide⟩
  · exact ⟨[120], by unfold strD; have : ("x" : Str) = mkS [120] := by decide +kernel
                     rw [← this]; rfl, .inr (.inr rfl), by decide⟩
abbrev slaw_changed : Stmt := topS 34
theorem sclaw_changed : FnScope ["_law_draw_here", "_law_tokens_here", "_law_k", "_law_at", "_law_sign", "_law_form"] ["_law_draw_here", "_law_tokens_here"] (defScope slaw_changed) := ⟨rfl, rfl, rfl, by decide +kernel, rfl, by decide +kernel, by decide +kernel⟩
theorem ok_law_changed {k : Nat} (Df : DefAt K mg "_law_changed" slaw_changed ["_law_draw_here", "_law_tokens_here"]) (T : Top mg) (h_law_next : Has P w K mg base k "_law_next" ["_law_draw_here", "_law_many"] (spD fNext)) : Has P w K mg base (k+1) "_law_changed" ["_law_draw_here", "_law_tokens_here"] (spD fChanged) := by
  refine has_of Df sclaw_changed (fun ds C P ⟨_, _, h, _⟩ => by rw [h]; rfl) fun f cdv A outer s H E hr => ⟨_, 
    (pss_cons (ps_nm 1 sclaw_changed.nd (pe_callTy (call_lstK K) (by rfl) T.list bt_list (pa_cons (pv 1) pa_nil)))
    (pss_cons (ps_for PassesOwn.never rfl (pi_range1 (by rfl) T.range (pa_cons (pe_def h_law_next (hr.mono (by omega)) (pa_cons (pv 0) (pa_cons pe_int pa_nil))) pa_nil)) (pg_nm 2 sclaw_changed.nd) 
      (pss_cons (ps_nm 3 sclaw_changed.nd (pe_def h_law_next (hr.mono (by omega)) (pa_cons (pv 0) (pa_cons (pe_op (op_addK K) (pe_callB (call_lenK K) (by rfl) T.len bt_len (pa_cons (pv 1) pa_nil)) pe_int) pa_nil))))
      (pss_cons (ps_nm 4 sclaw_changed.nd (pe_ix (ix_seqK K) (pe_lst (pa_cons pe_str (pa_cons pe_str (pa_cons pe_str (pa_cons pe_str (pa_cons pe_str (pa_cons pe_str (pa_cons pe_str (pa_cons pe_str (pa_cons pe_str (pa_cons pe_str (pa_cons pe_str pa_nil)))))))))))) (pe_def h_law_next (hr.mono (by omega)) (pa_cons (pv 0) (pa_cons pe_int pa_nil))) (fun _ _ => rfl)))
      (pss_cons (ps_nm 5 sclaw_changed.nd (pe_def h_law_next (hr.mono (by omega)) (pa_cons (pv 0) (pa_cons pe_int pa_nil))))
      (pss_one (ps_if (pt_cmpR (op_eqK K hr) (pv 5) pe_int (nomark _)) 
        (pss_one (ps_nm 1 sclaw_changed.nd (pe_slice (sl_K K) (pv 1) po_none (po_some (pv 3))))) 
        (pss_one (ps_if (pt_cmpR (op_eqK K hr) (pv 5) pe_int (nomark _)) 
          (pss_one (ps_nm 1 sclaw_changed.nd (pe_op (op_addK K) (pe_op (op_addK K) (pe_slice (sl_K K) (pv 1) po_none (po_some (pv 3))) (pe_lst (pa_cons (pv 4) pa_nil))) (pe_slice (sl_K K) (pv 1) (po_some (pv 3)) po_none)))) 
          (pss_one (ps_if (pt_cmpR (op_eqK K hr) (pv 5) pe_int (nomark _)) 
            (pss_one (ps_nm 1 sclaw_changed.nd (pe_op (op_addK K) (pe_slice (sl_K K) (pv 1) po_none (po_some (pv 3))) (pe_slice (sl_K K) (pv 1) (po_some (pe_op (op_addK K) (pv 3) pe_int)) po_none)))) 
            (pss_one (ps_nm 1 sclaw_changed.nd (pe_op (op_addK K) (pe_op (op_addK K) (pe_slice (sl_K K) (pv 1) po_none (po_some (pv 3))) (pe_lst (pa_cons (pv 4) pa_nil))) (pe_slice (sl_K K) (pv 1) (po_some (pe_op (op_addK K) (pv 3) pe_int)) po_none))))))))))))))
    (pss_one (ps_ret (pv 1))))), fun B ds C P ⟨d, ts, hd, hD, hts, q⟩ => ?_⟩
  subst hd
  kwd_rel
  refine wc_list .lst ?_
  kwd_rel
  refine ws_for (fun rest E1 C2 => ∃ (m i : Nat) (us : List (List Nat)) (x2 x3 x4 x5 : Option D), rest = (rngD 0 m).drop i ∧ i ≤ m ∧ m ≤ 2 ∧ TsOk i us ∧ E1 = [some (.ref d), some (.lst (us.map strD)), x2, x3, x4, x5] ∧ IsDraw C2 d) (wi_rng1 ?_) ?_ ?_
  · kwd_rel
    refine next_call (by decide) (by decide) hD (fun v C2 g1 g2 D2 o2 => ?_)
    kwd_rel
    exact ⟨by omega, by omega, v.toNat, 0, ts, none, none, none, none, rfl, Nat.zero_le _, by omega, hts, rfl, D2⟩
  · rintro E1 C2 ⟨m, i, us, x2, x3, x4, x5, h1, h2, h3, h4, rfl, D2⟩
    kwd_rel
    exact q us C2 (h4.mono (by omega)) D2
  rintro x xs E1 C2 ⟨m, i, us, x2, x3, x4, x5, h1, h2, h3, h4, rfl, D2⟩
  obtain ⟨i1, rfl, rfl⟩ := rng_cons h1
  have hl := h4.len
  kwd_rel
  rw [List.length_map]
  refine next_call (by omega) (by omega) D2 (fun a C3 g1 g2 D3 o3 => ?_)
  kwd_rel
  refine w_lst ?_
  kwd_rel
  refine next_call (by decide) (by decide) D3 (fun v C4 g3 g4 D4 o4 => ?_)
  obtain ⟨t, hat, ht⟩ := signs_at g3 g4
  refine wr_ix .lst hat ?_
  kwd_rel
  refine next_call (by decide) (by decide) D4 (fun v2 C5 g5 g6 D5 o5 => ?_)
  obtain ⟨n, rfl⟩ : ∃ n : Nat, a = n := ⟨a.toNat, by omega⟩
  have e1 : ∀ x : Int, x = ((n : Nat) : Int) → cutD (us.map strD) none (some x) = (us.take n).map strD := fun x e => by rw [e, cutD_take, List.map_take]
  have e2 : cutD (us.map strD) (some ((n : Nat) : Int)) none = (us.drop n).map strD := by rw [cutD_drop, List.map_drop]
  have e3 : cutD (us.map strD) (some (((n : Nat) : Int) + 1)) none = (us.drop (n + 1)).map strD := by
    have : ((n : Nat) : Int) + 1 = ((n + 1 : Nat) : Int) := by omega
    rw [this, cutD_drop, List.map_drop]
  have l1 : ((us.take n).map strD).length ≤ 1000 := by simp; omega
  have l2 : ∀ b, ((us.drop b).map strD).length ≤ 1000 := fun b => by simp; omega
  have app : ∀ b, (us.take n).map strD ++ [strD t] ++ (us.drop b).map strD = (us.take n ++ [t] ++ us.drop b).map strD := fun b => by simp
  have hv2 : v2 = 0 ∨ v2 = 1 ∨ v2 = 2 ∨ v2 = 3 := by omega
  rcases hv2 with rfl | rfl | rfl | rfl
  · kwd_rel
    kwd_less
    kwd_rel
    rw [e1 _ rfl]
    kwd_rel
    exact ⟨m, i + 1, us.take n, _, _, _, _, rfl, i1, h3, h4.cutL.mono (by omega), rfl, D5⟩
  · kwd_rel
    kwd_less
    kwd_rel
    kwd_less
    kwd_rel
    rw [e1 _ rfl]
    kwd_rel
    refine w_lst ?_
    kwd_rel
    refine wr_addL .lst .lst (by simp only [List.length_singleton]; omega) ?_
    kwd_rel
    rw [e2]
    refine wr_addL .lst .lst (by have := l2 n; rw [List.length_append, List.length_singleton]; omega) ?_
    rw [app n]
    kwd_rel
    exact ⟨m, i + 1, _, _, _, _, _, rfl, i1, h3, h4.put (Nat.le_refl _) ht, rfl, D5⟩
  · kwd_rel
    kwd_less
    kwd_rel
    kwd_less
    kwd_rel
    kwd_less
    kwd_rel
    rw [e1 _ rfl]
    kwd_rel
    rw [e3]
    refine wr_addL .lst .lst (by have := l2 (n + 1); omega) ?_
    rw [← List.map_append]
    kwd_rel
    exact ⟨m, i + 1, _, _, _, _, _, rfl, i1, h3, (h4.out (Nat.le_succ _)).mono (by omega), rfl, D5⟩
  · kwd_rel
    kwd_less
    kwd_rel
    kwd_less
    kwd_rel
    kwd_less
    kwd_rel
    rw [e1 _ rfl]
    kwd_rel
    refine w_lst ?_
    kwd_rel
    refine wr_addL .lst .lst (by simp only [List.length_singleton]; omega) ?_
    kwd_rel
    rw [e3]
    refine wr_addL .lst .lst (by have := l2 (n + 1); rw [List.length_append, List.length_singleton]; omega) ?_
    rw [app (n + 1)]
    kwd_rel
    exact ⟨m, i + 1, _, _, _, _, _, rfl, i1, h3, h4.put (Nat.le_succ _) ht, rfl, D5⟩
end
section
/-! ### texts of tokens -/
def itOf (t : List Nat) : It := if isDgT t then .dig t else .sgn (t.headD 0)
theorem tkX_cases {t : List Nat} (h : TkX t) : (isDgT t = true ∧ ∃ n, Numl n t) ∨ (isDgT t = false ∧ ∃ c, t = [c] ∧ (c = 98 ∨ c = 115 ∨ c = 58 ∨ c = 91 ∨ c = 93 ∨ c = 45 ∨ c = 120)) := by
  rcases h with (⟨n, hn⟩ | rfl | rfl | rfl | rfl | rfl) | rfl | rfl
  · exact .inl ⟨numl_dg hn, n, hn⟩
  · exact .inr ⟨by decide, _, rfl, by decide⟩
  · exact .inr ⟨by decide, _, rfl, by decide⟩
  · exact .inr ⟨by decide, _, rfl, by decide⟩
  · exact .inr ⟨by decide, _, rfl, by decide⟩
  · exact .inr ⟨by decide, _, rfl, by decide⟩
  · exact .inr ⟨by decide, _, rfl, by decide⟩
  · exact .inr ⟨by decide, _, rfl, by decide⟩
theorem itOf_txt {t : List Nat} (h : TkX t) : (itOf t).txt = t := by
  unfold itOf
  rcases tkX_cases h with ⟨e, _⟩ | ⟨e, c, rfl, _⟩
  · rw [if_pos e]; rfl
  · rw [if_neg (by rw [e]; decide)]; rfl
theorem itOf_dig {t : List Nat} : (itOf t).isDig = isDgT t := by
  unfold itOf
  cases h : isDgT t with
  | true => rw [if_pos rfl]; rfl
  | false => rw [if_neg (by decide)]; rfl
theorem itOf_ok {t : List Nat} (h : TkX t) : (itOf t).Ok ∨ BadI (itOf t) := by
  unfold itOf
  rcases tkX_cases h with ⟨e, n, hn⟩ | ⟨e, c, rfl, hc⟩
  · rw [if_pos e]; exact .inl ⟨hn.dig, hn.ne⟩
  · rw [if_neg (by rw [e]; decide)]
    rcases hc with rfl | rfl | rfl | rfl | rfl | rfl | rfl
    · exact .inl (.inl rfl)
    · exact .inl (.inr (.inl rfl))
    · exact .inl (.inr (.inr (.inl rfl)))
    · exact .inl (.inr (.inr (.inr (.inl rfl))))
    · exact .inl (.inr (.inr (.inr (.inr rfl))))
    · exact .inr (.inl rfl)
    · exact .inr (.inr rfl)
theorem toks_one {t : List Nat} (h : TkX t) (k : Nat) : toks k [itOf t] = [(k, t)] := by
  unfold itOf
  rcases tkX_cases h with ⟨e, _⟩ | ⟨e, c, rfl, _⟩
  · rw [if_pos e]; rfl
  · rw [if_neg (by rw [e]; decide)]; rfl
def LastOk (its : List It) (b : Bool) : Prop := ∀ z, its.getLast? = some z → z.isDig = true → b = false
theorem sep_last : ∀ {l : List It} {a : It}, Sep l → LastOk l a.isDig → Sep (l ++ [a])
  | [], a, _, _ => trivial
  | [x], a, _, h => ⟨fun hx => h x rfl hx, trivial⟩
  | x :: y :: r, a, h, hl => by
    refine ⟨h.1, ?_⟩
    exact sep_last (l := y :: r) h.2 fun z hz => hl z (by rw [List.getLast?_cons_cons]; exact hz)
theorem lastOk_snoc {l : List It} {a : It} {b : Bool} (h : a.isDig = true → b = false) : LastOk (l ++ [a]) b := fun z hz hd => by
  rw [List.getLast?_concat] at hz
  obtain rfl := Option.some.inj hz
  exact h hd
structure TxtOf (ts : List (List Nat)) (its : List It) : Prop where
  ok : ∀ i ∈ its, i.Ok ∨ BadI i
  dl : ∀ l, .dig l ∈ its → l.length ≤ 100
  sep : Sep its
  tx : txsOf (toks 0 its) = ts
  len : (txts its).length ≤ 1 + 11 * ts.length
def plcs (its : List It) : List D := (toks 0 its).map fun t => plcD t.1
theorem TxtOf.add {ts : List (List Nat)} {its : List It} {t : List Nat} (h : TxtOf ts its) (ht : TkX t) (hl : t.length ≤ 10) (g : List Nat) (hg : g = [] ∨ g = [32] ∨ g = [10]) (la : LastOk its (isDgT t)) : TxtOf (ts ++ [t]) (its ++ [itOf t] ++ g.map It.gap) ∧ txts (its ++ [itOf t] ++ g.map It.gap) = txts its ++ t ++ g ∧ plcs (its ++ [itOf t] ++ g.map It.gap) = plcs its ++ [plcD (txts its).length] ∧
    (∀ b, (g = [] → isDgT t = true → b = false) → LastOk (its ++ [itOf t] ++ g.map It.gap) b) := by
  have hs : Sep (its ++ [itOf t]) := sep_last h.sep (by rw [itOf_dig]; exact la)
  have e1 : txts (its ++ [itOf t]) = txts its ++ t := by rw [txts_app, txts, txts, List.append_nil, itOf_txt ht]
  have e2 : toks 0 (its ++ [itOf t]) = toks 0 its ++ [((txts its).length, t)] := by rw [toks_app, toks_one ht, Nat.zero_add]
  have tg : ∀ k, toks k (g.map It.gap) = [] := fun k => by rcases hg with rfl | rfl | rfl <;> rfl
  have e3 : toks 0 (its ++ [itOf t] ++ g.map It.gap) = toks 0 its ++ [((txts its).length, t)] := by rw [toks_app, tg, List.append_nil, e2]
  have e4 : txts (its ++ [itOf t] ++ g.map It.gap) = txts its ++ t ++ g := by
    rw [txts_app, e1]
    rcases hg with rfl | rfl | rfl <;> rfl
  have gok : ∀ i ∈ g.map It.gap, i.Ok := fun i hi => by
    rcases hg with rfl | rfl | rfl
    · cases hi
    · rw [List.mem_singleton.mp hi]; exact .inl rfl
    · rw [List.mem_singleton.mp hi]; exact .inr rfl
  refine ⟨⟨fun i hi => ?_, fun l hl2 => ?_, ?_, ?_, ?_⟩, e4, ?_, fun b hb => ?_⟩
  · rcases List.mem_append.mp hi with hi | hi
    · rcases List.mem_append.mp hi with hi | hi
      · exact h.ok i hi
      · rw [List.mem_singleton.mp hi]; exact itOf_ok ht
    · exact .inl (gok i hi)
  · rcases List.mem_append.mp hl2 with hi | hi
    · rcases List.mem_append.mp hi with hi | hi
      · exact h.dl l hi
      · have hi := List.mem_singleton.mp hi
        unfold itOf at hi
        split at hi
        · injection hi with hi; rw [hi]; omega
        · cases hi
    · obtain ⟨c, _, e⟩ := List.mem_map.mp hi
      cases e
  · rcases hg with rfl | rfl | rfl
    · rw [List.map_nil, List.append_nil]; exact hs
    · exact sep_last hs fun z _ _ => rfl
    · exact sep_last hs fun z _ _ => rfl
  · have := h.tx
    unfold txsOf at this ⊢
    rw [e3, List.map_append, this]
    rfl
  · have := h.len
    have hg2 : g.length ≤ 1 := by rcases hg with rfl | rfl | rfl <;> simp
    rw [e4]
    simp only [List.length_append, List.length_singleton]
    omega
  · unfold plcs
    rw [e3, List.map_append]
    rfl
  · rcases hg with rfl | rfl | rfl
    · rw [List.map_nil, List.append_nil]
      exact lastOk_snoc fun hd => hb rfl (by rw [← itOf_dig]; exact hd)
    · exact lastOk_snoc fun hd => by cases hd
    · exact lastOk_snoc fun hd => by cases hd
theorem at_pre {pre r : List (List Nat)} {t : List Nat} {i : Int} (h : i = (pre.length : Nat)) : atI ((pre ++ t :: r).map strD) i = some (strD t) := by
  subst h
  refine atI_nat ?_
  rw [List.map_append, List.getElem?_append_right (by simp)]
  simp
end
section
variable {P : Program} {w : World} {K : PySem.W.Frag} {mg : Str → Option Value} {base : Heap}
theorem mk_sp : (" " : Str) = mkS [32] := by decide +kernel
theorem mk_e : ("" : Str) = mkS [] := by decide +kernel
theorem mk_n : ("\n" : Str) = mkS [10] := by decide +kernel
def fText : SpD := fun ds C P => ∃ (d : Addr) (ts : List (List Nat)), ds = [.ref d, .lst (ts.map strD)] ∧ IsDraw C d ∧ TsOk 2 ts ∧ ∀ its a C', TxtOf ts its → C' a = some (.lst (plcs its)) → IsDraw C' d → P (.tup [.str (mkS (txts its)), .ref a]) C'
abbrev slaw_text : Stmt := topS 35
theorem sclaw_text : FnScope ["_law_draw_here", "_law_tokens_here", "_law_text_here", "_law_places", "_law_k", "_law_close"] ["_law_draw_here", "_law_tokens_here"] (defScope slaw_text) := ⟨rfl, rfl, rfl, by decide +kernel, rfl, by decide +kernel, by decide +kernel⟩
theorem ok_law_text {k : Nat} (Df : DefAt K mg "_law_text" slaw_text ["_law_draw_here", "_law_tokens_here"]) (T : Top mg) (h_law_next : Has P w K mg base k "_law_next" ["_law_draw_here", "_law_many"] (spD fNext)) : Has P w K mg base (k+1) "_law_text" ["_law_draw_here", "_law_tokens_here"] (spD fText) := by
  refine has_of Df sclaw_text (fun ds C P ⟨_, _, h, _⟩ => by rw [h]; rfl) fun f cdv A outer s H E hr => ⟨_, 
    (pss_cons (ps_nm 2 sclaw_text.nd (pe_ix (ix_seqK K) (pe_lst (pa_cons pe_str (pa_cons pe_str pa_nil))) (pe_def h_law_next (hr.mono (by omega)) (pa_cons (pv 0) (pa_cons pe_int pa_nil))) (fun _ _ => rfl)))
    (pss_cons (ps_nm 3 sclaw_text.nd (pe_lst pa_nil))
    (pss_cons (ps_for PassesOwn.never rfl (pi_range1 (by rfl) T.range (pa_cons (pe_callB (call_lenK K) (by rfl) T.len bt_len (pa_cons (pv 1) pa_nil)) pa_nil)) (pg_nm 4 sclaw_text.nd) 
      (pss_cons (ps_expr (pe_bmK K PySem.F.plainAttrs_list PySem.F.slot_list_append PySem.F.type_list_append mt_append (pv 3) (pa_cons (pe_callB (call_lenK K) (by rfl) T.len bt_len (pa_cons (pv 2) pa_nil)) pa_nil)))
      (pss_cons (ps_nm 5 sclaw_text.nd (pe_and (pe_cmpR op_lt (pe_op (op_addK K) (pv 4) pe_int) (pe_callB (call_lenK K) (by rfl) T.len bt_len (pa_cons (pv 1) pa_nil)) (nomark _)) (pe_and (pe_cmpR (op_inK K) (pe_ix (ix_seqK K) (pe_ix (ix_seqK K) (pv 1) (pv 4) (fun _ _ => rfl)) pe_int (fun _ _ => rfl)) pe_str (by rfl)) (pe_one (pe_cmpR (op_inK K) (pe_ix (ix_seqK K) (pe_ix (ix_seqK K) (pv 1) (pe_op (op_addK K) (pv 4) pe_int) (fun _ _ => rfl)) pe_int (fun _ _ => rfl)) pe_str (by rfl))))))
      (pss_one (ps_nm 2 sclaw_text.nd (pe_op (op_addK K) (pe_op (op_addK K) (pv 2) (pe_ix (ix_seqK K) (pv 1) (pv 4) (fun _ _ => rfl))) (pe_ix (ix_seqK K) (pe_lst (pa_cons (pe_ifExp (pt_truK K (pv 5)) pe_str pe_str) (pa_cons pe_str (pa_cons pe_str pa_nil)))) (pe_def h_law_next (hr.mono (by omega)) (pa_cons (pv 0) (pa_cons pe_int pa_nil))) (fun _ _ => rfl))))))))
    (pss_one (ps_ret (pe_tup (pa_cons (pv 2) (pa_cons (pv 3) pa_nil)))))))), fun B ds C P ⟨d, ts, hd, hD, hts, q⟩ => ?_⟩
  subst hd
  have hlen := hts.len
  kwd_rel
  refine w_lst ?_
  kwd_rel
  refine next_call (by decide) (by decide) hD (fun v C1 g1 g2 D1 o1 => ?_)
  have hh : ∃ its : List It, atI [D.str "", D.str " "] v = some (.str (mkS (txts its))) ∧ TxtOf [] its ∧ plcs its = [] ∧ ∀ b, LastOk its b := by
    have : v = 0 ∨ v = 1 := by omega
    rcases this with rfl | rfl
    · exact ⟨[], by rw [mk_e]; rfl, ⟨fun i hi => (by cases hi), fun l hl => (by cases hl), trivial, rfl, by simp [txts]⟩, rfl, fun b z hz => by cases hz⟩
    · refine ⟨[.gap 32], by rw [mk_sp]; rfl, ⟨fun i hi => ?_, fun l hl => ?_, trivial, rfl, by simp [txts, It.txt]⟩, rfl, fun b => lastOk_snoc (l := []) fun h => by cases h⟩
      · rw [List.mem_singleton.mp hi]; exact .inl (.inl rfl)
      · cases List.mem_singleton.mp hl
  obtain ⟨its0, hat, ht0, hp0, hl0⟩ := hh
  refine wr_ix .lst hat ?_
  kwd_rel
  refine w_lstC ?_
  kwd_rel
  intro a ha
  have da : d ≠ a := fun e => by
    obtain ⟨c, h1, _⟩ := D1
    rw [e, ha] at h1
    cases h1
  kwd_rel
  refine ws_for (fun rest E1 C2 => ∃ (i : Nat) (pre post : List (List Nat)) (its : List It) (x4 x5 : Option D), rest = (rngD 0 ts.length).drop i ∧ ts = pre ++ post ∧ i = pre.length ∧ TxtOf pre its ∧ (∀ t r, post = t :: r → LastOk its (isDgT t)) ∧ C2 a = some (.lst (plcs its)) ∧ IsDraw C2 d ∧
    E1 = [some (.ref d), some (.lst (ts.map strD)), some (.str (mkS (txts its))), some (.ref a), x4, x5]) (wi_rng1 ?_) ?_ ?_
  · kwd_rel
    rw [List.length_map]
    exact ⟨by omega, by omega, 0, [], ts, its0, none, none, rfl, rfl, rfl, ht0, fun t r _ => hl0 _, by rw [updC_same, hp0], isDraw_upd D1 da, rfl⟩
  · rintro E1 C2 ⟨i, pre, post, its, x4, x5, h1, h2, h3, h4, h5, ca, D2, rfl⟩
    have := rng_nil h1
    have e : post = [] := by
      cases post with
      | nil => rfl
      | cons t r =>
        have := congrArg List.length h2
        simp at this
        omega
    subst e
    rw [List.append_nil] at h2
    subst h2
    kwd_rel
    exact q its a C2 h4 ca D2
  rintro x xs E1 C2 ⟨i, pre, post, its, x4, x5, h1, h2, h3, h4, h5, ca, D2, rfl⟩
  obtain ⟨i1, rfl, rfl⟩ := rng_cons h1
  rw [Int.zero_add]
  obtain ⟨t, r, rfl⟩ : ∃ t r, post = t :: r := by
    cases post with
    | nil =>
      have := congrArg List.length h2
      simp at this
      omega
    | cons t r => exact ⟨t, r, rfl⟩
  obtain ⟨tx, tl⟩ := hts.ok t (by rw [h2]; simp)
  have hl4 := h4.len
  have hpl : pre.length + 1 ≤ ts.length := by omega
  have htl : (mkS (txts its)).length ≤ 1000000 := by rw [mkS_len]; omega
  have hpc : (plcs its).length = pre.length := by
    have := congrArg List.length h4.tx
    simpa [plcs, txsOf] using this
  have at0 : ∀ z : Int, z = ((i : Nat) : Int) → atI (ts.map strD) z = some (strD t) := fun z e => by rw [h2]; exact at_pre (by rw [e, h3])
  have fin : ∀ (b : Bool) (C3 : CH), (b = false → ∀ t' r', r = t' :: r' → isDgT t = true → isDgT t' = false) → C3 a = some (.lst (plcs its ++ [plcD (txts its).length])) → IsDraw C3 d → ∀ (v : Int), 0 ≤ v → v < 3 → ∃ g : List Nat, atI [D.str (mkS (if b then [32] else [])), D.str " ", D.str "\n"] v = some (.str (mkS g)) ∧ g.length ≤ 1 ∧
      ∃ (i' : Nat) (pre' post' : List (List Nat)) (its' : List It) (x4' x5' : Option D), (rngD 0 ts.length).drop (i + 1) = (rngD 0 ts.length).drop i' ∧ ts = pre' ++ post' ∧ i' = pre'.length ∧ TxtOf pre' its' ∧ (∀ t r, post' = t :: r → LastOk its' (isDgT t)) ∧ C3 a = some (.lst (plcs its')) ∧ IsDraw C3 d ∧
    [some (.ref d), some (.lst (ts.map strD)), some (.str (mkS (txts its ++ t ++ g))), some (.ref a), some (.int ((i : Nat) : Int)), some (.bl b)] = [some (.ref d), some (.lst (ts.map strD)), some (.str (mkS (txts its'))), some (.ref a), x4', x5'] := fun b C3 hb ca3 D3 v g1 g2 => by
    have key : ∀ g : List Nat, (g = [] ∨ g = [32] ∨ g = [10]) → (g = [] → b = false) → ∃ (i' : Nat) (pre' post' : List (List Nat)) (its' : List It) (x4' x5' : Option D), (rngD 0 ts.length).drop (i + 1) = (rngD 0 ts.length).drop i' ∧ ts = pre' ++ post' ∧ i' = pre'.length ∧ TxtOf pre' its' ∧ (∀ t r, post' = t :: r → LastOk its' (isDgT t)) ∧ C3 a = some (.lst (plcs its')) ∧ IsDraw C3 d ∧
        [some (.ref d), some (.lst (ts.map strD)), some (.str (mkS (txts its ++ t ++ g))), some (.ref a), some (.int ((i : Nat) : Int)), some (.bl b)] = [some (.ref d), some (.lst (ts.map strD)), some (.str (mkS (txts its'))), some (.ref a), x4', x5'] := fun g hg hgb => by
      obtain ⟨k1, k2, k3, k4⟩ := h4.add tx tl g hg (h5 t r rfl)
      exact ⟨i + 1, pre ++ [t], r, _, _, _, rfl, by simp [h2], by simp [h3], k1, fun t' r' e => k4 _ fun e1 e2 => hb (hgb e1) t' r' e e2, by rw [k3]; exact ca3, D3, by rw [k2]⟩
    have hv : v = 0 ∨ v = 1 ∨ v = 2 := by omega
    rcases hv with rfl | rfl | rfl
    · refine ⟨if b then [32] else [], rfl, by cases b <;> simp, key _ (by cases b <;> simp) fun e => ?_⟩
      cases b with
      | false => rfl
      | true => cases e
    · exact ⟨[32], by rw [mk_sp]; rfl, by simp, key _ (by simp) fun e => by cases e⟩
    · exact ⟨[10], by rw [mk_n]; rfl, by simp, key _ (by simp) fun e => by cases e⟩
  kwd_rel
  refine w_bmL ?_
  kwd_rel
  refine ⟨⟨_, .cell ca⟩, ?_⟩
  kwd_rel
  refine wc_lenS htl ?_
  rw [mkS_len]
  kwd_rel
  refine wm_append ca (by omega) ?_
  have ca3 : updC C2 a (.lst (plcs its ++ [.int ((txts its).length : Nat)])) a = some (.lst (plcs its ++ [plcD (txts its).length])) := updC_same
  have D3 : IsDraw (updC C2 a (.lst (plcs its ++ [.int ((txts its).length : Nat)]))) d := isDraw_upd D2 da
  generalize updC C2 a (.lst (plcs its ++ [.int ((txts its).length : Nat)])) = C3 at ca3 D3 ⊢
  refine nx_show (ws_seq (ws_set (W.imp (P := fun x C1 => ∃ b : Bool, x = .bl b ∧ C1 = C3 ∧ (b = false → ∀ t' r', r = t' :: r' → isDgT t = true → isDgT t' = false)) ?_ ?_)))
  rotate_left
  · rintro x C1 ⟨b, rfl, rfl, hb⟩
    kwd_rel
    refine wr_ix .lst (show atI (ts.map strD) _ = some (.str (mkS t)) from at0 _ rfl) ?_
    refine wr_addS (by rw [mkS_len, mkS_len]; omega) ?_
    rw [mkS_app]
    kwd_rel
    refine w_lst ?_
    cases b with
    | true =>
      kwd_rel
      kwd_less
      kwd_rel
      refine next_call (by decide) (by decide) D3 fun v C5 g1 g2 D5 o5 => ?_
      obtain ⟨g, hat2, hgl, hfin⟩ := fin true C5 hb (by rw [o5 a (Ne.symm da)]; exact ca3) D5 v g1 g2
      refine wr_ix .lst (show atI [D.str " ", D.str " ", D.str "\n"] v = _ by rw [mk_sp] at hat2 ⊢; exact hat2) ?_
      refine wr_addS (by rw [mkS_len, mkS_len, List.length_append]; omega) ?_
      rw [mkS_app]
      exact hfin
    | false =>
      kwd_rel
      kwd_less
      kwd_rel
      refine next_call (by decide) (by decide) D3 fun v C5 g1 g2 D5 o5 => ?_
      obtain ⟨g, hat2, hgl, hfin⟩ := fin false C5 hb (by rw [o5 a (Ne.symm da)]; exact ca3) D5 v g1 g2
      refine wr_ix .lst (show atI [D.str "", D.str " ", D.str "\n"] v = _ by rw [mk_e]; exact hat2) ?_
      refine wr_addS (by rw [mkS_len, mkS_len, List.length_append]; omega) ?_
      rw [mkS_app]
      exact hfin
  kwd_rel
  rw [List.length_map]
  cases r with
  | nil =>
    have : ts.length = pre.length + 1 := by rw [h2]; simp
    refine ite_two (fun z => absurd (of_decide_eq_true z) (by omega)) (fun _ => ?_)
    exact ⟨_, rfl, rfl, fun _ t' r' e => by cases e⟩
  | cons t' r' =>
    obtain ⟨tx', tl'⟩ := hts.ok t' (by rw [h2]; simp)
    have hne : ∀ {z : List Nat}, TkX z → ∃ c u, z = c :: u := fun {z} h => by
      rcases tkX_cases h with ⟨_, n, hn⟩ | ⟨_, c, rfl, _⟩
      · cases z with
        | nil => exact absurd rfl hn.ne
        | cons c u => exact ⟨c, u, rfl⟩
      · exact ⟨c, [], rfl⟩
    obtain ⟨c, u, rfl⟩ := hne tx
    obtain ⟨c', u', rfl⟩ := hne tx'
    have : ts.length = pre.length + 2 + r'.length := by rw [h2]; simp; omega
    refine ite_two (fun _ => ?_) (fun z => absurd (of_decide_eq_false z) (by omega))
    have at1 : atI (ts.map strD) (((i : Nat) : Int) + 1) = some (strD (c' :: u')) := by
      have e : ts = (pre ++ [c :: u]) ++ (c' :: u') :: r' := by rw [h2]; simp
      rw [e]
      exact at_pre (by rw [h3]; simp)
    kwd_rel
    refine wr_ix .lst (show atI (ts.map strD) _ = some (.str (mkS (c :: u))) from at0 _ rfl) ?_
    kwd_rel
    refine wr_ixS (by rw [mkS_len]; omega) (by rw [mkS_list]; exact atI_zero) ?_
    kwd_rel
    refine wr_inC ?_
    rw [dig_mem]
    refine ⟨_, rfl, ?_⟩
    refine ite_two (fun hc => ?_) (fun hc => ?_)
    · kwd_rel
      refine wr_ix .lst (show atI (ts.map strD) _ = some (.str (mkS (c' :: u'))) from at1) ?_
      kwd_rel
      refine wr_ixS (by rw [mkS_len]; omega) (by rw [mkS_list]; exact atI_zero) ?_
      kwd_rel
      refine wr_inC ?_
      rw [dig_mem]
      refine ⟨_, rfl, rfl, fun hb t2 r2 e _ => ?_⟩
      injection e with e1 e2
      subst e1
      exact hb
    · refine ⟨_, rfl, rfl, fun _ t2 r2 _ hd => ?_⟩
      have : isDgT (c :: u) = decide (48 ≤ c ∧ c ≤ 57) := rfl
      rw [this, hc] at hd
      cases hd
end
section
variable {P : Program} {w : World} {K : PySem.W.Frag} {mg : Str → Option Value} {base : Heap}
theorem wr_in2 {B0 : Gr} {C : CH} {Q : D → CH → Prop} {z a b : Str} (k : Q (.bl (decide (z = a) || decide (z = b))) C) : WR B0 (rInU K false) (.str z) (.tup [.str a, .str b]) C Q := fun B F H vx vy _ rl hx h2 R q => by
  cases hx
  cases h2 with
  | @tup c vs _ ha r =>
    cases r with
    | cons r1 r =>
      cases r with
      | cons r2 r =>
        cases r
        cases r1
        cases r2
        refine .inl ⟨c, [.str a, .str b], rfl, .inr (SqT.of (rl.ex _ _ ha)), rfl, by simp [flatV], ?_⟩
        rw [if_neg Bool.false_ne_true]
        have e : inV (.str z) [V.str a, V.str b] = (decide (z = a) || decide (z = b)) := by
          unfold inV
          by_cases h1 : z = a
          · subst h1; simp [eqV]
          · have h1' : ¬ a = z := fun e => h1 e.symm
            by_cases h2 : z = b
            · subst h2; simp [eqV]
            · have h2' : ¬ b = z := fun e => h2 e.symm
              simp [eqV, h1, h2, h1', h2']
        rw [e]
        exact q _ _ B C H (Same.refl B) rl .bl k
end
section
/-! ### the law's automaton -/
inductive At where
  | box | num (s : Bool) | col (s : Bool) | hgt (s : Bool) | opn | done
def atS : At → Str
  | .box => "box"
  | .num _ => "number"
  | .col _ => "colon"
  | .hgt _ => "height"
  | .opn => "open"
  | .done => "done"
def atK (k : Option D) : At → Prop
  | .num s => k = some (.str (if s then "s" else "b"))
  | .col s => k = some (.str (if s then "s" else "b"))
  | .hgt s => k = some (.str (if s then "s" else "b"))
  | _ => True
def stp (a : At) (d : Nat) (t : List Nat) : Option (At × Nat) := match a with
  | .box => if t = [115] then some (.num true, d) else if t = [98] ∧ d ≠ 0 then some (.num false, d) else if t = [93] ∧ d ≠ 0 then some (if d - 1 = 0 then .done else .box, d - 1) else none
  | .num s => if isDgT t then some (.col s, d) else none
  | .col s => if t = [58] then some (.hgt s, d) else none
  | .hgt s => if isDgT t then some (if s then .opn else .box, d) else none
  | .opn => if t = [91] then some (.box, d + 1) else none
  | .done => none
def isDone : At → Bool
  | .done => true
  | _ => false
theorem at_dn {st : At} (h : isDone st = false) : decide (atS st = ("done" : Str)) = false := by
  cases st with
  | box => exact (show decide (("box" : Str) = ("done" : Str)) = false by decide +kernel)
  | num _ => exact (show decide (("number" : Str) = ("done" : Str)) = false by decide +kernel)
  | col _ => exact (show decide (("colon" : Str) = ("done" : Str)) = false by decide +kernel)
  | hgt _ => exact (show decide (("height" : Str) = ("done" : Str)) = false by decide +kernel)
  | opn => exact (show decide (("open" : Str) = ("done" : Str)) = false by decide +kernel)
  | done => cases h
def runA : At → Nat → Nat → List (List Nat) → Int
  | a, _, k, [] => if isDone a then -1 else (k : Nat)
  | a, d, k, t :: r => match stp a d t with
    | none => (k : Nat)
    | some (a', d') => runA a' d' (k + 1) r
end
section
variable {P : Program} {w : World} {K : PySem.W.Frag} {mg : Str → Option Value} {base : Heap}
def fWrongAt : SpD := fun ds C P => ∃ ts : List (List Nat), ds = [.lst (ts.map strD)] ∧ (∀ t ∈ ts, TkT t ∧ t.length ≤ 10) ∧ ts.length ≤ 1000 ∧ ∀ C', (∀ z c, C z = some c → C' z = some c) → P (.int (runA .box 0 0 ts)) C'
abbrev slaw_wrong_at : Stmt := topS 36
theorem sclaw_wrong_at : FnScope ["_law_tokens_here", "_law_stack", "_law_state", "_law_k", "_law_token", "_law_digit", "_law_kind"] ["_law_tokens_here"] (defScope slaw_wrong_at) := ⟨rfl, rfl, rfl, by decide +kernel, rfl, by decide +kernel, by decide +kernel⟩
theorem ok_law_wrong_at {k : Nat} (Df : DefAt K mg "_law_wrong_at" slaw_wrong_at ["_law_tokens_here"]) (T : Top mg) : Has P w K mg base (k+1) "_law_wrong_at" ["_law_tokens_here"] (spD fWrongAt) := by
  refine has_of Df sclaw_wrong_at (fun ds C P ⟨_, h, _⟩ => by rw [h]; rfl) fun f cdv A outer s H E hr => ⟨_, 
    (pss_cons (ps_nm 1 sclaw_wrong_at.nd (pe_lst pa_nil))
    (pss_cons (ps_nm 2 sclaw_wrong_at.nd pe_str)
    (pss_cons (ps_for PassesOwn.never rfl (pi_range1 (by rfl) T.range (pa_cons (pe_callB (call_lenK K) (by rfl) T.len bt_len (pa_cons (pv 0) pa_nil)) pa_nil)) (pg_nm 3 sclaw_wrong_at.nd) 
      (pss_cons (ps_nm 4 sclaw_wrong_at.nd (pe_ix (ix_seqK K) (pv 0) (pv 3) (fun _ _ => rfl)))
      (pss_cons (ps_nm 5 sclaw_wrong_at.nd (pe_cmpR (op_inK K) (pe_ix (ix_seqK K) (pv 4) pe_int (fun _ _ => rfl)) pe_str (by rfl)))
      (pss_one (ps_if (PW.pt (pw_and (pt_cmpR (op_eqK K hr) (pv 2) pe_str (nomark _)) (pw_and (pt_cmpR (op_inK K) (pv 4) (pe_tup (pa_cons pe_str (pa_cons pe_str pa_nil))) (by rfl)) (pw_and1 (PW.pt (pw_or (pt_truK K (pv 1)) (pw_or1 (pt_cmpR (op_eqK K hr) (pv 4) pe_str (nomark _))))))))) 
        (pss_cons (ps_nm 6 sclaw_wrong_at.nd (pv 4))
        (pss_one (ps_nm 2 sclaw_wrong_at.nd pe_str))) 
        (pss_one (ps_if (PW.pt (pw_and (pt_cmpR (op_eqK K hr) (pv 2) pe_str (nomark _)) (pw_and (pt_cmpR (op_eqK K hr) (pv 4) pe_str (nomark _)) (pw_and1 (pt_truK K (pv 1)))))) 
          (pss_cons (ps_expr (pe_bmK0 K PySem.F.plainAttrs_list PySem.F.slot_list_pop PySem.F.type_list_pop mt_pop (pv 1)))
          (pss_one (ps_nm 2 sclaw_wrong_at.nd (pe_ifExp (pt_truK K (pv 1)) pe_str pe_str)))) 
          (pss_one (ps_if (PW.pt (pw_and (pt_cmpR (op_eqK K hr) (pv 2) pe_str (nomark _)) (pw_and1 (pt_truK K (pv 5))))) 
            (pss_one (ps_nm 2 sclaw_wrong_at.nd pe_str)) 
            (pss_one (ps_if (PW.pt (pw_and (pt_cmpR (op_eqK K hr) (pv 2) pe_str (nomark _)) (pw_and1 (pt_cmpR (op_eqK K hr) (pv 4) pe_str (nomark _))))) 
              (pss_one (ps_nm 2 sclaw_wrong_at.nd pe_str)) 
              (pss_one (ps_if (PW.pt (pw_and (pt_cmpR (op_eqK K hr) (pv 2) pe_str (nomark _)) (pw_and1 (pt_truK K (pv 5))))) 
                (pss_one (ps_nm 2 sclaw_wrong_at.nd (pe_ifExp (pt_cmpR (op_eqK K hr) (pv 6) pe_str (nomark _)) pe_str pe_str))) 
                (pss_one (ps_if (PW.pt (pw_and (pt_cmpR (op_eqK K hr) (pv 2) pe_str (nomark _)) (pw_and1 (pt_cmpR (op_eqK K hr) (pv 4) pe_str (nomark _))))) 
                  (pss_cons (ps_expr (pe_bmK K PySem.F.plainAttrs_list PySem.F.slot_list_append PySem.F.type_list_append mt_append (pv 1) (pa_cons pe_int pa_nil)))
                  (pss_one (ps_nm 2 sclaw_wrong_at.nd pe_str))) 
                  (pss_one (ps_ret (pv 3))))))))))))))))))
    (pss_one (ps_ret (pe_ifExp (pt_cmpR (op_eqK K hr) (pv 2) pe_str (nomark _)) (pe_un un_neg pe_int) (pe_callB (call_lenK K) (by rfl) T.len bt_len (pa_cons (pv 0) pa_nil)))))))), fun B ds C P ⟨ts, hd, hts, hlen, q⟩ => ?_⟩
  subst hd
  kwd_rel
  refine w_lstC ?_
  kwd_rel
  intro a ha
  kwd_rel
  refine ws_for (fun rest E1 C2 => ∃ (i : Nat) (pre post : List (List Nat)) (st : At) (d : Nat) (x3 x4 x5 kd : Option D), rest = (rngD 0 ts.length).drop i ∧ ts = pre ++ post ∧ i = pre.length ∧ d ≤ i ∧ runA .box 0 0 ts = runA st d i post ∧ C2 = updC C a (.lst (List.replicate d (D.int 1))) ∧ atK kd st ∧
    E1 = [some (.lst (ts.map strD)), some (.ref a), some (.str (atS st)), x3, x4, x5, kd]) (wi_rng1 ?_) ?_ ?_
  · kwd_rel
    rw [List.length_map]
    exact ⟨by omega, by omega, 0, [], ts, .box, 0, none, none, none, none, rfl, rfl, rfl, Nat.zero_le _, rfl, rfl, trivial, rfl⟩
  · rintro E1 C2 ⟨i, pre, post, st, d, x3, x4, x5, kd, h1, h2, h3, h4, h5, rfl, h6, rfl⟩
    have := rng_nil h1
    have e : post = [] := by
      cases post with
      | nil => rfl
      | cons t r =>
        have := congrArg List.length h2
        simp at this
        omega
    subst e
    rw [List.append_nil] at h2
    subst h2
    rw [h5, runA] at q
    have hs : ∀ z c, C z = some c → updC C a (.lst (List.replicate d (D.int 1))) z = some c := fun z c hz => by
      rw [updC_ne (fun e => by rw [e, ha] at hz; cases hz)]
      exact hz
    have qq := q _ hs
    cases hst : isDone st with
    | true =>
      rw [hst] at qq
      have e : atS st = "done" := by cases st <;> first | rfl | cases hst
      rw [e]
      kwd_rel
      kwd_less
      kwd_rel
      exact qq
    | false =>
      rw [hst] at qq
      have e := at_dn hst
      kwd_rel
      rw [e]
      kwd_less
      kwd_rel
      rw [List.length_map]
      rw [h3] at qq
      exact qq
  rintro x xs E1 C2 ⟨i, pre, post, st, d, x3, x4, x5, kd, h1, h2, h3, h4, h5, rfl, h6, rfl⟩
  obtain ⟨i1, rfl, rfl⟩ := rng_cons h1
  rw [Int.zero_add]
  obtain ⟨t, r, rfl⟩ : ∃ t r, post = t :: r := by
    cases post with
    | nil =>
      have := congrArg List.length h2
      simp at this
      omega
    | cons t r => exact ⟨t, r, rfl⟩
  obtain ⟨tt, tl⟩ := hts t (by rw [h2]; simp)
  obtain ⟨c, u, rfl⟩ : ∃ c u, t = c :: u := by
    rcases tkX_cases (.inl tt) with ⟨_, n, hn⟩ | ⟨_, c, rfl, _⟩
    · cases t with
      | nil => exact absurd rfl hn.ne
      | cons c u => exact ⟨c, u, rfl⟩
    · exact ⟨c, [], rfl⟩
  have at0 : atI (ts.map strD) ((i : Nat) : Int) = some (.str (mkS (c :: u))) := by rw [h2]; exact at_pre (by rw [h3])
  have hdg : isDgT (c :: u) = decide (48 ≤ c ∧ c ≤ 57) := rfl
  have hs : ∀ z c', C z = some c' → updC C a (.lst (List.replicate d (D.int 1))) z = some c' := fun z c' hz => by
    rw [updC_ne (fun e => by rw [e, ha] at hz; cases hz)]
    exact hz
  rw [h5, runA] at q
  have next : ∀ (st' : At) (d' : Nat) (kd' : Option D), stp st d (c :: u) = some (st', d') → d' ≤ i + 1 → atK kd' st' → ∃ (i' : Nat) (pre' post' : List (List Nat)) (st2 : At) (d2 : Nat) (x3' x4' x5' kd2 : Option D), (rngD 0 ts.length).drop (i + 1) = (rngD 0 ts.length).drop i' ∧ ts = pre' ++ post' ∧ i' = pre'.length ∧ d2 ≤ i' ∧ runA .box 0 0 ts = runA st2 d2 i' post' ∧ updC C a (.lst (List.replicate d' (D.int 1))) = updC C a (.lst (List.replicate d2 (D.int 1))) ∧ atK kd2 st2 ∧
      [some (.lst (ts.map strD)), some (.ref a), some (.str (atS st')), some (.int ((i : Nat) : Int)), some (.str (mkS (c :: u))), some (.bl (isDgT (c :: u))), kd'] = [some (.lst (ts.map strD)), some (.ref a), some (.str (atS st2)), x3', x4', x5', kd2] := fun st' d' kd' e1 e2 e3 =>
    ⟨i + 1, pre ++ [c :: u], r, st', d', _, _, _, kd', rfl, by simp [h2], by simp [h3], e2, by rw [h5, runA, e1], rfl, e3, rfl⟩
  have tru : TruD (updC C a (.lst (List.replicate d (D.int 1)))) (.ref a) = some (decide (d ≠ 0)) := by
    show (match updC C a (.lst (List.replicate d (D.int 1))) a with | some (.lst l) => some (!l.isEmpty) | some (.dic l) => some (!l.isEmpty) | _ => none) = _
    rw [updC_same]
    cases d <;> rfl
  kwd_rel
  refine wr_ix .lst at0 ?_
  kwd_rel
  refine wr_ixS (by rw [mkS_len]; omega) (by rw [mkS_list]; exact atI_zero) ?_
  kwd_rel
  refine wr_inC ?_
  rw [dig_mem, ← hdg]
  have hS : decide (mkS (c :: u) = ("s" : Str)) = decide (c :: u = [115]) := by rw [str_s, mk_dec]
  have hB : decide (mkS (c :: u) = ("b" : Str)) = decide (c :: u = [98]) := by rw [str_b, mk_dec]
  have hC : decide (mkS (c :: u) = ("]" : Str)) = decide (c :: u = [93]) := by rw [str_c, mk_dec]
  have hK : decide (mkS (c :: u) = (":" : Str)) = decide (c :: u = [58]) := by rw [str_k, mk_dec]
  have hO : decide (mkS (c :: u) = ("[" : Str)) = decide (c :: u = [91]) := by rw [str_o, mk_dec]
  have ret : stp st d (c :: u) = none → P (.int ((i : Nat) : Int)) (updC C a (.lst (List.replicate d (D.int 1)))) := fun e => by
    have := q _ hs
    rw [e] at this
    exact this
  cases st with
  | box =>
    kwd_rel
    kwd_less
    kwd_rel
    refine wr_in2 ?_
    rw [hS, hB]
    by_cases e1 : c :: u = [115]
    · rw [decide_eq_true e1]
      kwd_rel
      kwd_less
      kwd_rel
      refine ⟨_, tru, ?_⟩
      cases d with
      | zero =>
        try kwd_less
        kwd_rel
        rw [hS, decide_eq_true e1]
        try kwd_less
        kwd_rel
        try kwd_less
        kwd_rel
        try kwd_less
        kwd_rel
        exact next (.num true) 0 _ (by rw [stp, if_pos e1]) (by omega) (by rw [e1]; exact congrArg (fun z => some (D.str z)) str_s.symm)
      | succ d =>
        try kwd_less
        kwd_rel
        try kwd_less
        kwd_rel
        try kwd_less
        kwd_rel
        exact next (.num true) (d + 1) _ (by rw [stp, if_pos e1]) (by omega) (by rw [e1]; exact congrArg (fun z => some (D.str z)) str_s.symm)
    by_cases e2 : c :: u = [98]
    · rw [decide_eq_false e1, decide_eq_true e2]
      kwd_rel
      kwd_less
      kwd_rel
      refine ⟨_, tru, ?_⟩
      cases d with
      | zero =>
        try kwd_less
        kwd_rel
        rw [hS, decide_eq_false e1]
        try kwd_less
        kwd_rel
        try kwd_less
        kwd_rel
        rw [hC, decide_eq_false (by rw [e2]; decide)]
        try kwd_less
        kwd_rel
        try kwd_less
        kwd_rel
        try kwd_less
        kwd_rel
        try kwd_less
        kwd_rel
        try kwd_less
        kwd_rel
        try kwd_less
        kwd_rel
        try kwd_less
        kwd_rel
        try kwd_less
        kwd_rel
        try kwd_less
        kwd_rel
        try kwd_less
        kwd_rel
        try kwd_less
        kwd_rel
        try kwd_less
        kwd_rel
        try kwd_less
        kwd_rel
        try kwd_less
        kwd_rel
        try kwd_less
        kwd_rel
        try kwd_less
        kwd_rel
        exact ret (by rw [stp, if_neg e1, if_neg (fun z => z.2 rfl), if_neg (fun z => z.2 rfl)])
      | succ d =>
        try kwd_less
        kwd_rel
        try kwd_less
        kwd_rel
        try kwd_less
        kwd_rel
        exact next (.num false) (d + 1) _ (by rw [stp, if_neg e1, if_pos ⟨e2, Nat.succ_ne_zero d⟩]) (by omega) (by rw [e2]; exact congrArg (fun z => some (D.str z)) str_b.symm)
    rw [decide_eq_false e1, decide_eq_false e2]
    kwd_rel
    kwd_less
    kwd_rel
    kwd_less
    kwd_rel
    kwd_less
    kwd_rel
    rw [hC]
    by_cases e3 : c :: u = [93]
    · rw [decide_eq_true e3]
      kwd_less
      kwd_rel
      refine ⟨_, tru, ?_⟩
      cases d with
      | zero =>
        try kwd_less
        kwd_rel
        try kwd_less
        kwd_rel
        try kwd_less
        kwd_rel
        try kwd_less
        kwd_rel
        try kwd_less
        kwd_rel
        try kwd_less
        kwd_rel
        try kwd_less
        kwd_rel
        try kwd_less
        kwd_rel
        try kwd_less
        kwd_rel
        try kwd_less
        kwd_rel
        try kwd_less
        kwd_rel
        try kwd_less
        kwd_rel
        try kwd_less
        kwd_rel
        try kwd_less
        kwd_rel
        try kwd_less
        kwd_rel
        try kwd_less
        kwd_rel
        exact ret (by rw [stp, if_neg e1, if_neg (fun z => z.2 rfl), if_neg (fun z => z.2 rfl)])
      | succ d =>
        try kwd_less
        kwd_rel
        refine w_bmL0 ?_
        kwd_rel
        refine ⟨⟨_, .cell updC_same⟩, ?_⟩
        kwd_rel
        refine wm_pop updC_same (d := .int 1) (by rw [List.length_replicate]; simp) ?_
        rw [updC_updC]
        have er : (List.replicate (d + 1) (D.int 1)).take ((List.replicate (d + 1) (D.int 1)).length - 1) = List.replicate d (D.int 1) := by rw [List.length_replicate, List.take_replicate]; congr 1; omega
        rw [er]
        have tru2 : TruD (updC C a (.lst (List.replicate d (D.int 1)))) (.ref a) = some (decide (d ≠ 0)) := by
          show (match updC C a (.lst (List.replicate d (D.int 1))) a with | some (.lst l) => some (!l.isEmpty) | some (.dic l) => some (!l.isEmpty) | _ => none) = _
          rw [updC_same]
          cases d <;> rfl
        kwd_rel
        refine ⟨_, tru2, ?_⟩
        cases d with
        | zero =>
          kwd_less
          kwd_rel
          exact next .done 0 kd (by rw [stp, if_neg e1, if_neg (fun z => e2 z.1), if_pos ⟨e3, Nat.succ_ne_zero _⟩]; rfl) (by omega) trivial
        | succ d =>
          kwd_less
          kwd_rel
          exact next .box (d + 1) kd (by rw [stp, if_neg e1, if_neg (fun z => e2 z.1), if_pos ⟨e3, Nat.succ_ne_zero _⟩]; rfl) (by omega) trivial
    · rw [decide_eq_false e3]
      try kwd_less
      kwd_rel
      try kwd_less
      kwd_rel
      try kwd_less
      kwd_rel
      try kwd_less
      kwd_rel
      try kwd_less
      kwd_rel
      try kwd_less
      kwd_rel
      try kwd_less
      kwd_rel
      try kwd_less
      kwd_rel
      try kwd_less
      kwd_rel
      try kwd_less
      kwd_rel
      try kwd_less
      kwd_rel
      try kwd_less
      kwd_rel
      try kwd_less
      kwd_rel
      try kwd_less
      kwd_rel
      try kwd_less
      kwd_rel
      try kwd_less
      kwd_rel
      exact ret (by rw [stp, if_neg e1, if_neg (fun z => e2 z.1), if_neg (fun z => e3 z.1)])
  | num s =>
    cases hd : isDgT (c :: u) with
    | true =>
      rw [hd] at next
      try kwd_less
      kwd_rel
      try kwd_less
      kwd_rel
      try kwd_less
      kwd_rel
      try kwd_less
      kwd_rel
      try kwd_less
      kwd_rel
      try kwd_less
      kwd_rel
      try kwd_less
      kwd_rel
      try kwd_less
      kwd_rel
      try kwd_less
      kwd_rel
      try kwd_less
      kwd_rel
      try kwd_less
      kwd_rel
      try kwd_less
      kwd_rel
      try kwd_less
      kwd_rel
      try kwd_less
      kwd_rel
      try kwd_less
      kwd_rel
      try kwd_less
      kwd_rel
      exact next (.col s) d kd (by rw [stp, if_pos hd]) (by omega) h6
    | false =>
      try kwd_less
      kwd_rel
      try kwd_less
      kwd_rel
      try kwd_less
      kwd_rel
      try kwd_less
      kwd_rel
      try kwd_less
      kwd_rel
      try kwd_less
      kwd_rel
      try kwd_less
      kwd_rel
      try kwd_less
      kwd_rel
      try kwd_less
      kwd_rel
      try kwd_less
      kwd_rel
      try kwd_less
      kwd_rel
      try kwd_less
      kwd_rel
      try kwd_less
      kwd_rel
      try kwd_less
      kwd_rel
      try kwd_less
      kwd_rel
      try kwd_less
      kwd_rel
      exact ret (by rw [stp, if_neg (by rw [hd]; decide)])
  | col s =>
    try kwd_less
    kwd_rel
    try kwd_less
    kwd_rel
    try kwd_less
    kwd_rel
    try kwd_less
    kwd_rel
    try kwd_less
    kwd_rel
    try kwd_less
    kwd_rel
    try kwd_less
    kwd_rel
    try kwd_less
    kwd_rel
    rw [hK]
    by_cases e1 : c :: u = [58]
    · rw [decide_eq_true e1]
      try kwd_less
      kwd_rel
      try kwd_less
      kwd_rel
      exact next (.hgt s) d kd (by rw [stp, if_pos e1]) (by omega) h6
    · rw [decide_eq_false e1]
      try kwd_less
      kwd_rel
      try kwd_less
      kwd_rel
      try kwd_less
      kwd_rel
      try kwd_less
      kwd_rel
      try kwd_less
      kwd_rel
      try kwd_less
      kwd_rel
      try kwd_less
      kwd_rel
      try kwd_less
      kwd_rel
      try kwd_less
      kwd_rel
      try kwd_less
      kwd_rel
      exact ret (by rw [stp, if_neg e1])
  | hgt s =>
    cases hd : isDgT (c :: u) with
    | true =>
      rw [hd] at next
      have hk : kd = some (.str (if s then "s" else "b")) := h6
      subst hk
      cases s with
      | true =>
        try kwd_less
        kwd_rel
        try kwd_less
        kwd_rel
        try kwd_less
        kwd_rel
        try kwd_less
        kwd_rel
        try kwd_less
        kwd_rel
        try kwd_less
        kwd_rel
        try kwd_less
        kwd_rel
        try kwd_less
        kwd_rel
        try kwd_less
        kwd_rel
        try kwd_less
        kwd_rel
        try kwd_less
        kwd_rel
        try kwd_less
        kwd_rel
        try kwd_less
        kwd_rel
        try kwd_less
        kwd_rel
        try kwd_less
        kwd_rel
        try kwd_less
        kwd_rel
        exact next .opn d _ (by rw [stp, if_pos hd]; rfl) (by omega) trivial
      | false =>
        try kwd_less
        kwd_rel
        try kwd_less
        kwd_rel
        try kwd_less
        kwd_rel
        try kwd_less
        kwd_rel
        try kwd_less
        kwd_rel
        try kwd_less
        kwd_rel
        try kwd_less
        kwd_rel
        try kwd_less
        kwd_rel
        try kwd_less
        kwd_rel
        try kwd_less
        kwd_rel
        try kwd_less
        kwd_rel
        try kwd_less
        kwd_rel
        try kwd_less
        kwd_rel
        try kwd_less
        kwd_rel
        try kwd_less
        kwd_rel
        try kwd_less
        kwd_rel
        exact next .box d _ (by rw [stp, if_pos hd]; rfl) (by omega) trivial
    | false =>
      try kwd_less
      kwd_rel
      try kwd_less
      kwd_rel
      try kwd_less
      kwd_rel
      try kwd_less
      kwd_rel
      try kwd_less
      kwd_rel
      try kwd_less
      kwd_rel
      try kwd_less
      kwd_rel
      try kwd_less
      kwd_rel
      try kwd_less
      kwd_rel
      try kwd_less
      kwd_rel
      try kwd_less
      kwd_rel
      try kwd_less
      kwd_rel
      try kwd_less
      kwd_rel
      try kwd_less
      kwd_rel
      try kwd_less
      kwd_rel
      try kwd_less
      kwd_rel
      exact ret (by rw [stp, if_neg (by rw [hd]; decide)])
  | opn =>
    try kwd_less
    kwd_rel
    try kwd_less
    kwd_rel
    try kwd_less
    kwd_rel
    try kwd_less
    kwd_rel
    try kwd_less
    kwd_rel
    try kwd_less
    kwd_rel
    try kwd_less
    kwd_rel
    try kwd_less
    kwd_rel
    try kwd_less
    kwd_rel
    try kwd_less
    kwd_rel
    try kwd_less
    kwd_rel
    try kwd_less
    kwd_rel
    rw [hO]
    by_cases e1 : c :: u = [91]
    · rw [decide_eq_true e1]
      try kwd_less
      kwd_rel
      try kwd_less
      kwd_rel
      refine w_bmL ?_
      kwd_rel
      refine ⟨⟨_, .cell updC_same⟩, ?_⟩
      kwd_rel
      refine wm_append updC_same (by rw [List.length_replicate]; omega) ?_
      rw [updC_updC]
      have er : List.replicate d (D.int 1) ++ [.int 1] = List.replicate (d + 1) (D.int 1) := (List.replicate_succ' ..).symm
      rw [er]
      kwd_rel
      exact next .box (d + 1) kd (by rw [stp, if_pos e1]) (by omega) trivial
    · rw [decide_eq_false e1]
      try kwd_less
      kwd_rel
      try kwd_less
      kwd_rel
      try kwd_less
      kwd_rel
      try kwd_less
      kwd_rel
      try kwd_less
      kwd_rel
      try kwd_less
      kwd_rel
      try kwd_less
      kwd_rel
      try kwd_less
      kwd_rel
      try kwd_less
      kwd_rel
      try kwd_less
      kwd_rel
      exact ret (by rw [stp, if_neg e1])
  | done =>
    try kwd_less
    kwd_rel
    try kwd_less
    kwd_rel
    try kwd_less
    kwd_rel
    try kwd_less
    kwd_rel
    try kwd_less
    kwd_rel
    try kwd_less
    kwd_rel
    try kwd_less
    kwd_rel
    try kwd_less
    kwd_rel
    try kwd_less
    kwd_rel
    try kwd_less
    kwd_rel
    try kwd_less
    kwd_rel
    try kwd_less
    kwd_rel
    try kwd_less
    kwd_rel
    try kwd_less
    kwd_rel
    try kwd_less
    kwd_rel
    try kwd_less
    kwd_rel
    exact ret rfl
end
section
/-! ### what the law expects of a text -/
def isSB (t : List Nat) : Bool := decide (t = [115]) || decide (t = [98])
def isBad (t : List Nat) : Bool := decide (t = [45]) || decide (t = [120])
def valT (t : List Nat) : Int := ((t.foldl (fun acc c => acc * 10 + (c - 48)) 0 : Nat) : Int)
theorem valT_numl {t : List Nat} {n : Int} (h : Numl n t) : n = valT t := h.val.symm
def inR (f : Bool) (t : List Nat) : Bool := if f then decide (1 ≤ valT t) && decide (valT t ≤ 999) else decide (valT t ≤ 1000)
def badT : List Tok' → Option Nat
  | [] => none
  | t :: r => if isBad t.2 then some t.1 else badT r
def oorT : Bool → List Tok' → Option Nat
  | _, [] => none
  | f, t :: r => if isDgT t.2 && !inR f t.2 then some t.1 else oorT (isSB t.2) r
def headIx : Bool → Nat → List Tok' → List Nat
  | _, _, [] => []
  | f, i, t :: r => if isDgT t.2 && f then i :: headIx (isSB t.2) (i + 1) r else headIx (isSB t.2) (i + 1) r
def excT : Int → List Tok' → Bool
  | _, [] => false
  | l, t :: r => decide (4 < l + (if t.2 = [91] then 1 else 0) - (if t.2 = [93] then 1 else 0)) || excT (l + (if t.2 = [91] then 1 else 0) - (if t.2 = [93] then 1 else 0)) r
def lastSB (T : List Tok') : Bool := match T.getLast? with
  | some t => isSB t.2
  | none => false
def gIx (T : List Tok') (len k : Nat) : Int × Nat := (valT (tokAt T k), plcAt T len k)
def due3 (T : List Tok') (len n : Nat) : Option (Str × Nat) := if 40 < n then some ("too many boxes", plcAt T len 0) else if excT 0 T then some ("too deep", plcAt T len 0) else none
def due2 (T : List Tok') (len : Nat) (hs : List Nat) : Option (Str × Nat) := match dblP [] (hs.map (gIx T len)) with
  | some q => some ("number twice", q)
  | none => due3 T len hs.length
def due1 (T : List Tok') (len : Nat) : Option (Str × Nat) := match oorT (lastSB T) T with
  | some p => some ("out of range", p)
  | none => due2 T len (headIx (lastSB T) 0 T)
def due0 (T : List Tok') (len : Nat) (w : Int) : Option (Str × Nat) := if 0 ≤ w then some (unexp T w.toNat, plcAt T len w.toNat) else due1 T len
def due (T : List Tok') (len : Nat) : Option (Str × Nat) := match badT T with
  | some p => some ("unknown character", p)
  | none => due0 T len (runA .box 0 0 (txsOf T))
def encV : Option (Str × Nat) → D
  | none => .non
  | some (s, p) => .tup [.int (p : Nat), .str s]
theorem runA_le : ∀ (ts : List (List Nat)) (a : At) (d k : Nat), runA a d k ts ≤ ((k + ts.length : Nat) : Int)
  | [], a, d, k => by rw [runA]; split <;> simp <;> omega
  | t :: r, a, d, k => by
    rw [runA]
    split
    · simp; omega
    · have := runA_le r (by assumption) (by assumption) (k + 1)
      simp only [List.length_cons]
      omega
theorem badT_none : ∀ {T : List Tok'}, badT T = none → (∀ t ∈ T, TkX t.2) → ∀ t ∈ T, TkT t.2
  | [], _, _, t, h => by cases h
  | x :: r, h, k, t, ht => by
    rw [badT] at h
    split at h
    · cases h
    · rename_i hb
      rcases List.mem_cons.mp ht with rfl | ht
      · rcases k t (by simp) with h | h | h
        · exact h
        · exact absurd (by unfold isBad; rw [h]; rfl) hb
        · exact absurd (by unfold isBad; rw [h]; rfl) hb
      · exact badT_none h (fun t ht => k t (by simp [ht])) t ht
theorem headIx_lb : ∀ (T : List Tok') (f : Bool) (i : Nat), ∀ k ∈ headIx f i T, i ≤ k ∧ k < i + T.length
  | [], _, _, k, h => by cases h
  | t :: r, f, i, k, h => by
    rw [headIx] at h
    have step : k ∈ headIx (isSB t.2) (i + 1) r → i ≤ k ∧ k < i + (t :: r).length := fun h => by
      have := headIx_lb r _ _ k h
      simp only [List.length_cons]
      omega
    split at h
    · rcases List.mem_cons.mp h with rfl | h
      · simp
      · exact step h
    · exact step h
theorem headIx_inc : ∀ (T : List Tok') (f : Bool) (i : Nat), (headIx f i T).Pairwise (· < ·)
  | [], _, _ => .nil
  | t :: r, f, i => by
    rw [headIx]
    split
    · refine List.Pairwise.cons (fun k hk => ?_) (headIx_inc r _ _)
      have := headIx_lb r _ _ k hk
      omega
    · exact headIx_inc r _ _
theorem headIx_dig : ∀ (T : List Tok') (f : Bool) (i : Nat), ∀ k ∈ headIx f i T, ∃ t, T[k - i]? = some t ∧ isDgT t.2 = true
  | [], _, _, k, h => by cases h
  | t :: r, f, i, k, h => by
    rw [headIx] at h
    have step : k ∈ headIx (isSB t.2) (i + 1) r → ∃ u, (t :: r)[k - i]? = some u ∧ isDgT u.2 = true := fun h => by
      obtain ⟨u, h1, h2⟩ := headIx_dig r _ _ k h
      have := headIx_lb r _ _ k h
      refine ⟨u, ?_, h2⟩
      have e : k - i = (k - (i + 1)) + 1 := by omega
      rw [e, List.getElem?_cons_succ]
      exact h1
    split at h
    · rename_i hc
      rcases List.mem_cons.mp h with rfl | h
      · exact ⟨t, by simp, by simp at hc; exact hc.1⟩
      · exact step h
    · exact step h
end
section
variable {P : Program} {w : World} {K : PySem.W.Frag} {mg : Str → Option Value} {base : Heap}
def fDue : SpD := fun ds C P => ∃ (T : List Tok') (tx : List Nat) (a : Addr), ds = [.str (mkS tx), .lst ((txsOf T).map strD), .ref a] ∧ C a = some (.lst (T.map fun t => plcD t.1)) ∧ (∀ t ∈ T, TkX t.2 ∧ t.2.length ≤ 10) ∧ T.length ≤ 300 ∧ tx.length ≤ 50000 ∧ ∀ C', (∀ z c, C z = some c → C' z = some c) → P (encV (due T tx.length)) C'
theorem at_tx {T : List Tok'} {pre r : List Tok'} {t : Tok'} {i : Int} (h : T = pre ++ t :: r) (hi : i = (pre.length : Nat)) : atI ((txsOf T).map strD) i = some (.str (mkS t.2)) := by
  subst hi
  subst h
  refine atI_nat ?_
  unfold txsOf
  rw [List.map_append, List.map_append, List.getElem?_append_right (by simp)]
  simp [strD]
theorem at_pl {T : List Tok'} {pre r : List Tok'} {t : Tok'} {i : Int} (h : T = pre ++ t :: r) (hi : i = (pre.length : Nat)) : atI (T.map fun t => plcD t.1) i = some (.int (t.1 : Nat)) := by
  subst hi
  subst h
  refine atI_nat ?_
  rw [List.map_append, List.getElem?_append_right (by simp)]
  simp [plcD]
theorem tx_ne {t : List Nat} (h : TkX t) : ∃ c u, t = c :: u := by
  rcases tkX_cases h with ⟨_, n, hn⟩ | ⟨_, c, rfl, _⟩
  · cases t with
    | nil => exact absurd rfl hn.ne
    | cons c u => exact ⟨c, u, rfl⟩
  · exact ⟨c, [], rfl⟩
theorem at_pl2 {T : List Tok'} {len n : Nat} (h : n < T.length) : atI (T.map fun t => plcD t.1) ((n : Nat) : Int) = some (.int (plcAt T len n : Nat)) := by
  refine atI_nat ?_
  unfold plcAt
  rw [List.getElem?_map, List.getElem?_eq_getElem h]
  rfl
theorem at_tx2 {T : List Tok'} {n : Nat} (h : n < T.length) : atI ((txsOf T).map strD) ((n : Nat) : Int) = some (.str (mkS (tokAt T n))) := by
  refine atI_nat ?_
  unfold tokAt txsOf
  rw [List.getElem?_map, List.getElem?_map, List.getElem?_eq_getElem h]
  rfl
theorem splitAt {T : List Tok'} {pre r : List Tok'} {t : Tok'} (h : T = pre ++ t :: r) : plcAt T 0 pre.length = t.1 ∧ tokAt T pre.length = t.2 ∧ pre.length < T.length := by
  subst h
  unfold plcAt tokAt
  rw [List.getElem?_append_right (Nat.le_refl _)]
  simp
theorem wc_intT {B0 : Gr} {C : CH} {Q : D → CH → Prop} {t : List Nat} (h : TkX t ∧ t.length ≤ 10) (hd : isDgT t = true) (k : Q (.int (valT t)) C) : WC B0 rIntU [.str (mkS t)] C Q := by
  rcases tkX_cases h.1 with ⟨_, n, hn⟩ | ⟨e, _⟩
  · refine wc_intS hn.reads (by rw [mkS_len]; omega) ?_
    rw [valT_numl hn]
    exact k
  · rw [hd] at e
    cases e
theorem tok_mem {T : List Tok'} {k : Nat} (h : k < T.length) : ∃ t ∈ T, t.2 = tokAt T k := by
  refine ⟨T[k], List.getElem_mem h, ?_⟩
  unfold tokAt
  rw [List.getElem?_eq_getElem h]
theorem filt_lt : ∀ {pre post : List Nat} {k : Nat}, (pre ++ k :: post).Pairwise (· < ·) → (pre ++ k :: post).filter (fun j => decide (j < k)) = pre := fun {pre post k} h => by
  rw [List.pairwise_append] at h
  obtain ⟨_, h2, h3⟩ := h
  rw [List.filter_append, List.filter_eq_self.mpr fun j hj => decide_eq_true (h3 j hj k (by simp)), List.filter_eq_nil_iff.mpr, List.append_nil]
  intro j hj z
  have hz := of_decide_eq_true z
  rcases List.mem_cons.mp hj with rfl | hj
  · omega
  · have := (List.pairwise_cons.mp h2).1 j hj
    omega
abbrev slaw_due : Stmt := topS 37
theorem sclaw_due : FnScope ["_law_text_here", "_law_tokens_here", "_law_places", "_law_k", "_law_wrong", "_law_heads", "_law_number", "_law_level", "_law_token", "_law_j"] ["_law_text_here", "_law_tokens_here", "_law_places"] (defScope slaw_due) := ⟨rfl, rfl, rfl, by decide +kernel, rfl, by decide +kernel, by decide +kernel⟩
theorem ok_law_due {k : Nat} (Df : DefAt K mg "_law_due" slaw_due ["_law_text_here", "_law_tokens_here", "_law_places"]) (T : Top mg) (h_law_wrong_at : Has P w K mg base k "_law_wrong_at" ["_law_tokens_here"] (spD fWrongAt)) : Has P w K mg base (k+1) "_law_due" ["_law_text_here", "_law_tokens_here", "_law_places"] (spD fDue) := by
  refine has_of Df sclaw_due (fun ds C P ⟨_, _, _, h, _⟩ => by rw [h]; rfl) fun f cdv A outer s H E hr => ⟨_, 
    (pss_cons (ps_for PassesOwn.never rfl (pi_range1 (by rfl) T.range (pa_cons (pe_callB (call_lenK K) (by rfl) T.len bt_len (pa_cons (pv 1) pa_nil)) pa_nil)) (pg_nm 3 sclaw_due.nd) 
      (pss_one (ps_if (pt_cmpR (op_inK K) (pe_ix (ix_seqK K) (pv 1) (pv 3) (fun _ _ => rfl)) (pe_tup (pa_cons pe_str (pa_cons pe_str pa_nil))) (by rfl)) 
        (pss_one (ps_ret (pe_tup (pa_cons (pe_ix (ix_seqK K) (pv 2) (pv 3) (fun _ _ => rfl)) (pa_cons pe_str pa_nil))))) pss_nil)))
    (pss_cons (ps_nm 4 sclaw_due.nd (pe_def h_law_wrong_at (hr.mono (by omega)) (pa_cons (pv 1) pa_nil)))
    (pss_cons (ps_if (pt_cmpR op_ge (pv 4) pe_int (nomark _)) 
      (pss_one (ps_ret (pe_ifExp (pt_cmpR op_lt (pv 4) (pe_callB (call_lenK K) (by rfl) T.len bt_len (pa_cons (pv 1) pa_nil)) (nomark _)) (pe_tup (pa_cons (pe_ix (ix_seqK K) (pv 2) (pv 4) (fun _ _ => rfl)) (pa_cons pe_str pa_nil))) (pe_tup (pa_cons (pe_callB (call_lenK K) (by rfl) T.len bt_len (pa_cons (pv 0) pa_nil)) (pa_cons pe_str pa_nil)))))) pss_nil)
    (pss_cons (ps_nm 5 sclaw_due.nd (pe_lst pa_nil))
    (pss_cons (ps_for PassesOwn.never rfl (pi_range1 (by rfl) T.range (pa_cons (pe_callB (call_lenK K) (by rfl) T.len bt_len (pa_cons (pv 1) pa_nil)) pa_nil)) (pg_nm 3 sclaw_due.nd) 
      (pss_one (ps_if (pt_cmpR (op_inK K) (pe_ix (ix_seqK K) (pe_ix (ix_seqK K) (pv 1) (pv 3) (fun _ _ => rfl)) pe_int (fun _ _ => rfl)) pe_str (by rfl)) 
        (pss_cons (ps_nm 6 sclaw_due.nd (pe_cmpR (op_inK K) (pe_ix (ix_seqK K) (pv 1) (pe_op op_sub (pv 3) pe_int) (fun _ _ => rfl)) (pe_tup (pa_cons pe_str (pa_cons pe_str pa_nil))) (by rfl)))
        (pss_cons (ps_if (pt_not (pt_if (pt_truK K (pv 6)) (pt_chain op_le op_le pe_int (pe_callTy call_intU (by rfl) T.int bt_int (pa_cons (pe_ix (ix_seqK K) (pv 1) (pv 3) (fun _ _ => rfl)) pa_nil)) pe_int) (pt_cmpR op_le (pe_callTy call_intU (by rfl) T.int bt_int (pa_cons (pe_ix (ix_seqK K) (pv 1) (pv 3) (fun _ _ => rfl)) pa_nil)) pe_int (nomark _)))) 
          (pss_one (ps_ret (pe_tup (pa_cons (pe_ix (ix_seqK K) (pv 2) (pv 3) (fun _ _ => rfl)) (pa_cons pe_str pa_nil))))) pss_nil)
        (pss_one (ps_if (pt_truK K (pv 6)) 
          (pss_one (ps_expr (pe_bmK K PySem.F.plainAttrs_list PySem.F.slot_list_append PySem.F.type_list_append mt_append (pv 5) (pa_cons (pv 3) pa_nil)))) pss_nil)))) pss_nil)))
    (pss_cons (ps_for PassesOwn.never rfl (pi_seqK K (pv 5)) (pg_nm 3 sclaw_due.nd) 
      (pss_one (ps_if (pt_cmpR (op_inK K) (pe_callTy call_intU (by rfl) T.int bt_int (pa_cons (pe_ix (ix_seqK K) (pv 1) (pv 3) (fun _ _ => rfl)) pa_nil)) (pe_lc (own := [("_law_j", 9)]) rfl sclaw_due.nd (pi_seqK K (pv 5)) (blkOk_by (N := ["_law_text_here", "_law_tokens_here", "_law_places", "_law_k", "_law_wrong", "_law_heads", "_law_number", "_law_level", "_law_token", "_law_j"]) (sc := defScope slaw_due) (by decide +kernel)) (fun _ _ _ _ _ => pg_nm 9 sclaw_due.nd) (fun _ _ _ _ _ => (pts_one (pt_cmpR op_lt (pv 9) (pv 3) (nomark _)))) (fun _ _ _ _ _ => (pe_callTy call_intU (by rfl) T.int bt_int (pa_cons (pe_ix (ix_seqK K) (pv 1) (pv 9) (fun _ _ => rfl)) pa_nil)))) (by rfl)) 
        (pss_one (ps_ret (pe_tup (pa_cons (pe_ix (ix_seqK K) (pv 2) (pv 3) (fun _ _ => rfl)) (pa_cons pe_str pa_nil))))) pss_nil)))
    (pss_cons (ps_if (pt_cmpR op_gt (pe_callB (call_lenK K) (by rfl) T.len bt_len (pa_cons (pv 5) pa_nil)) pe_int (nomark _)) 
      (pss_one (ps_ret (pe_tup (pa_cons (pe_ix (ix_seqK K) (pv 2) pe_int (fun _ _ => rfl)) (pa_cons pe_str pa_nil))))) pss_nil)
    (pss_cons (ps_nm 7 sclaw_due.nd pe_int)
    (pss_cons (ps_for PassesOwn.never rfl (pi_seqK K (pv 1)) (pg_nm 8 sclaw_due.nd) 
      (pss_cons (ps_nm 7 sclaw_due.nd (pe_op op_sub (pe_op (op_addK K) (pv 7) (pe_ifExp (pt_cmpR (op_eqK K hr) (pv 8) pe_str (nomark _)) pe_int pe_int)) (pe_ifExp (pt_cmpR (op_eqK K hr) (pv 8) pe_str (nomark _)) pe_int pe_int)))
      (pss_one (ps_if (pt_cmpR op_gt (pv 7) pe_int (nomark _)) 
        (pss_one (ps_ret (pe_tup (pa_cons (pe_ix (ix_seqK K) (pv 2) pe_int (fun _ _ => rfl)) (pa_cons pe_str pa_nil))))) pss_nil))))
    (pss_one (ps_ret pe_non))))))))))), fun B ds C P ⟨Tk, tx, a, hd, ca, htk, hlen, htx, q⟩ => ?_⟩
  subst hd
  have hplt : (Tk.map fun t => plcD t.1).length = Tk.length := List.length_map ..
  have htl : (txsOf Tk).length = Tk.length := List.length_map ..
  have qC : ∀ v, due Tk tx.length = v → P (encV v) C := fun v e => by rw [← e]; exact q C fun _ _ h => h
  kwd_rel
  refine ws_for (fun rest E1 C2 => ∃ (i : Nat) (pre post : List Tok') (x3 : Option D), rest = (rngD 0 Tk.length).drop i ∧ Tk = pre ++ post ∧ i = pre.length ∧ badT Tk = badT post ∧ C2 = C ∧
    E1 = [some (.str (mkS tx)), some (.lst ((txsOf Tk).map strD)), some (.ref a), x3, none, none, none, none, none, none]) (wi_rng1 ?_) ?_ ?_
  · kwd_rel
    rw [List.length_map, htl]
    exact ⟨by omega, by omega, 0, [], Tk, none, rfl, rfl, rfl, rfl, rfl, rfl⟩
  · rintro E1 C2 ⟨i, pre, post, x3, h1, h2, h3, h4, rfl, rfl⟩
    have hil := rng_nil h1
    have e : post = [] := by
      cases post with
      | nil => rfl
      | cons t r =>
        have := congrArg List.length h2
        simp at this
        omega
    subst e
    rw [badT] at h4
    have hok := badT_none h4 fun t ht => (htk t ht).1
    have hdue : due Tk tx.length = due0 Tk tx.length (runA .box 0 0 (txsOf Tk)) := by rw [due, h4]
    rw [hdue] at q
    have hrl := runA_le (txsOf Tk) .box 0 0
    generalize hw : runA .box 0 0 (txsOf Tk) = wr at q hrl
    kwd_rel
    refine ⟨txsOf Tk, rfl, fun t ht => ?_, by omega, fun C3 s3 => ?_⟩
    · obtain ⟨u, hu, rfl⟩ := List.mem_map.mp ht
      exact ⟨hok u hu, (htk u hu).2⟩
    have ca3 := s3 _ _ ca
    rw [hw]
    have q3 : ∀ C', (∀ z c, C3 z = some c → C' z = some c) → P (encV (due0 Tk tx.length wr)) C' := fun C' h => q C' fun z c e => h z c (s3 z c e)
    rw [due0] at q3
    kwd_rel
    by_cases h0 : 0 ≤ wr
    · obtain ⟨n, rfl⟩ : ∃ n : Nat, wr = n := ⟨wr.toNat, by omega⟩
      rw [if_pos h0] at q3
      refine ite_two (fun _ => ?_) (fun z => absurd (of_decide_eq_false z) (by omega))
      have q4 := q3 C3 fun _ _ h => h
      rw [Int.toNat_natCast, unexp] at q4
      by_cases h5 : n < Tk.length
      · rw [if_pos h5] at q4
        kwd_rel
        rw [List.length_map, htl]
        refine ite_two (fun _ => ?_) (fun z => absurd (of_decide_eq_false z) (by omega))
        kwd_rel
        refine wr_ix (.cell ca3) (at_pl2 (len := tx.length) h5) ?_
        kwd_rel
        exact q4
      · rw [if_neg h5] at q4
        kwd_rel
        rw [List.length_map, htl]
        refine ite_two (fun z => absurd (of_decide_eq_true z) (by omega)) (fun _ => ?_)
        kwd_rel
        refine wc_lenS (by rw [mkS_len]; omega) ?_
        rw [mkS_len]
        kwd_rel
        have : plcAt Tk tx.length n = tx.length := by
          unfold plcAt
          rw [List.getElem?_eq_none (by omega)]
        rw [this] at q4
        exact q4
    rw [if_neg h0] at q3
    refine ite_two (fun z => absurd (of_decide_eq_true z) h0) (fun _ => ?_)
    kwd_rel
    refine w_lstC ?_
    kwd_rel
    intro b hb3
    have ab : a ≠ b := fun e => by rw [e, hb3] at ca3; cases ca3
    have sb : ∀ (v : Cell) z c, C3 z = some c → updC C3 b v z = some c := fun v z c h => by
      rw [updC_ne (fun e => by rw [e, hb3] at h; cases h)]
      exact h
    kwd_rel
    refine ws_for (fun rest E1 C2 => ∃ (i : Nat) (pre post : List Tok') (f : Bool) (hs : List Nat) (x3 x6 : Option D), rest = (rngD 0 Tk.length).drop i ∧ Tk = pre ++ post ∧ i = pre.length ∧ (pre = [] → f = lastSB Tk) ∧ (∀ p0 t, pre = p0 ++ [t] → f = isSB t.2) ∧ oorT (lastSB Tk) Tk = oorT f post ∧ headIx (lastSB Tk) 0 Tk = hs ++ headIx f i post ∧ hs.length ≤ i ∧ C2 = updC C3 b (.lst (hs.map fun k => D.int (k : Nat))) ∧
      E1 = [some (.str (mkS tx)), some (.lst ((txsOf Tk).map strD)), some (.ref a), x3, some (.int wr), some (.ref b), x6, none, none, none]) (wi_rng1 ?_) ?_ ?_
    · kwd_rel
      rw [List.length_map, htl]
      exact ⟨by omega, by omega, 0, [], Tk, lastSB Tk, [], _, none, rfl, rfl, rfl, fun _ => rfl, fun p0 t e => by (cases p0 <;> cases e), rfl, rfl, Nat.le_refl _, rfl, rfl⟩
    rotate_left
    · rintro x xs E1 C2 ⟨i, pre, post, f, hs, x3, x6, h1, h2, h3, f1, f2, g1, g2, g3, rfl, rfl⟩
      obtain ⟨i1, rfl, rfl⟩ := rng_cons h1
      rw [Int.zero_add]
      obtain ⟨t, r, rfl⟩ : ∃ t r, post = t :: r := by
        cases post with
        | nil =>
          have := congrArg List.length h2
          simp at this
          omega
        | cons t r => exact ⟨t, r, rfl⟩
      have ht := htk t (by rw [h2]; simp)
      obtain ⟨c, u, hcu⟩ := tx_ne ht.1
      have at0 : atI ((txsOf Tk).map strD) ((i : Nat) : Int) = some (.str (mkS t.2)) := at_tx h2 (by rw [h3])
      have hdg : isDgT t.2 = decide (48 ≤ c ∧ c ≤ 57) := by rw [hcu]; rfl
      have ca4 : updC C3 b (.lst (hs.map fun k => D.int (k : Nat))) a = some (.lst (Tk.map fun t => plcD t.1)) := sb _ _ _ ca3
      have next : ∀ (hs' : List Nat) (x6' : Option D), oorT f (t :: r) = oorT (isSB t.2) r → hs' ++ headIx (isSB t.2) (i + 1) r = hs ++ headIx f i (t :: r) → hs'.length ≤ i + 1 → ∃ (i' : Nat) (pre' post' : List Tok') (f' : Bool) (hs2 : List Nat) (x3' x62 : Option D), (rngD 0 Tk.length).drop (i + 1) = (rngD 0 Tk.length).drop i' ∧ Tk = pre' ++ post' ∧ i' = pre'.length ∧ (pre' = [] → f' = lastSB Tk) ∧ (∀ p0 t, pre' = p0 ++ [t] → f' = isSB t.2) ∧ oorT (lastSB Tk) Tk = oorT f' post' ∧ headIx (lastSB Tk) 0 Tk = hs2 ++ headIx f' i' post' ∧ hs2.length ≤ i' ∧ updC C3 b (.lst (hs'.map fun k => D.int (k : Nat))) = updC C3 b (.lst (hs2.map fun k => D.int (k : Nat))) ∧
          [some (.str (mkS tx)), some (.lst ((txsOf Tk).map strD)), some (.ref a), some (.int ((i : Nat) : Int)), some (.int wr), some (.ref b), x6', none, none, none] = [some (.str (mkS tx)), some (.lst ((txsOf Tk).map strD)), some (.ref a), x3', some (.int wr), some (.ref b), x62, none, none, none] := fun hs' x6' e1 e2 e3 =>
        ⟨i + 1, pre ++ [t], r, isSB t.2, hs', _, _, rfl, by simp [h2], by simp [h3], fun e => by simp at e, fun p0 t' e => by
          have := List.append_inj_right' e rfl
          rw [List.cons.inj this |>.1], by rw [g1, e1], by rw [g2, e2], e3, rfl, rfl⟩
      kwd_rel
      refine wr_ix .lst at0 ?_
      kwd_rel
      refine wr_ixS (c := c) (by rw [mkS_len]; omega) (by rw [mkS_list, hcu]; exact atI_zero) ?_
      kwd_rel
      refine wr_inC ?_
      rw [dig_mem, ← hdg]
      cases hd : isDgT t.2 with
      | false =>
        kwd_rel
        kwd_less
        kwd_rel
        exact next hs _ (by rw [oorT, hd]; rfl) (by rw [headIx, hd]; rfl) (by omega)
      | true =>
        obtain ⟨z, hz1, hz2⟩ : ∃ z, atI ((txsOf Tk).map strD) (((i : Nat) : Int) - 1) = some (.str (mkS z)) ∧ isSB z = f := by
          cases pre with
          | nil =>
            have hi0 : i = 0 := h3
            subst hi0
            have hne : Tk ≠ [] := by rw [h2]; simp
            refine ⟨(Tk.getLast hne).2, ?_, ?_⟩
            · have e : (txsOf Tk).map strD = (Tk.dropLast.map fun t => strD t.2) ++ [strD (Tk.getLast hne).2] := by
                unfold txsOf
                rw [List.map_map, show ([strD (Tk.getLast hne).2] : List D) = [Tk.getLast hne].map (fun t => strD t.2) from rfl, ← List.map_append, List.dropLast_concat_getLast]
                rfl
              rw [e]
              exact atI_last
            · rw [f1 rfl, lastSB, List.getLast?_eq_some_getLast hne]
          | cons p0 p1 =>
            have hne : p0 :: p1 ≠ [] := by simp
            have e := (List.dropLast_concat_getLast hne).symm
            refine ⟨((p0 :: p1).getLast hne).2, ?_, (f2 _ _ e).symm⟩
            refine at_tx (pre := (p0 :: p1).dropLast) (r := t :: r) (t := (p0 :: p1).getLast hne) ?_ ?_
            · rw [h2]
              conv => lhs; rw [e]
              simp
            · rw [h3, List.length_dropLast]
              simp only [List.length_cons]
              omega
        have hzb : (decide (mkS z = ("s" : Str)) || decide (mkS z = ("b" : Str))) = f := by rw [str_s, str_b, mk_dec, mk_dec]; exact hz2
        kwd_rel
        kwd_less
        kwd_rel
        refine wr_ix .lst hz1 ?_
        kwd_rel
        refine wr_in2 ?_
        rw [hzb]
        have outR : inR f t.2 = false → P (.tup [.int (t.1 : Nat), .str "out of range"]) (updC C3 b (.lst (hs.map fun k => D.int (k : Nat)))) := fun e => by
          have q4 := q3 _ (sb (.lst (hs.map fun k => D.int (k : Nat))))
          rw [due1, g1, oorT, hd, e] at q4
          exact q4
        have at1 : atI (Tk.map fun t => plcD t.1) ((i : Nat) : Int) = some (.int (t.1 : Nat)) := at_pl h2 (by rw [h3])
        have hh : headIx f i (t :: r) = if f then i :: headIx (isSB t.2) (i + 1) r else headIx (isSB t.2) (i + 1) r := by rw [headIx, hd]; cases f <;> rfl
        have ho : inR f t.2 = true → oorT f (t :: r) = oorT (isSB t.2) r := fun e => by rw [oorT, hd, e]; rfl
        cases f with
        | true =>
          kwd_rel
          refine wt_if ?_
          kwd_rel
          kwd_less
          kwd_rel
          refine wr_ix .lst at0 ?_
          kwd_rel
          refine wc_intT ht hd ?_
          kwd_rel
          have hin : inR true t.2 = (decide (1 ≤ valT t.2) && decide (valT t.2 ≤ 999)) := rfl
          by_cases l1 : 1 ≤ valT t.2
          · refine ite_two (fun _ => ?_) (fun z => absurd l1 (of_decide_eq_false z))
            kwd_rel
            by_cases l2 : valT t.2 ≤ 999
            · refine ite_two (fun z => ?_) (fun _ => ?_)
              · rw [decide_eq_true l2] at z; cases z
              kwd_rel
              kwd_less
              kwd_rel
              refine w_bmL ?_
              kwd_rel
              refine ⟨⟨_, .cell updC_same⟩, ?_⟩
              kwd_rel
              refine wm_append updC_same (by rw [List.length_map]; omega) ?_
              rw [updC_updC]
              have er : (hs.map fun k => D.int (k : Nat)) ++ [.int ((i : Nat) : Int)] = (hs ++ [i]).map fun k => D.int (k : Nat) := by simp
              rw [er]
              kwd_rel
              exact next (hs ++ [i]) _ (ho (by rw [hin, decide_eq_true l1, decide_eq_true l2]; rfl)) (by rw [hh, if_pos rfl]; simp) (by rw [List.length_append, List.length_singleton]; omega)
            · refine ite_two (fun _ => ?_) (fun z => ?_)
              rotate_left
              · rw [decide_eq_false l2] at z; cases z
              kwd_rel
              refine wr_ix (.cell ca4) at1 ?_
              kwd_rel
              exact outR (by rw [hin, decide_eq_false l2, Bool.and_false])
          · refine ite_two (fun z => absurd (of_decide_eq_true z) l1) (fun _ => ?_)
            kwd_rel
            kwd_less
            kwd_rel
            refine wr_ix (.cell ca4) at1 ?_
            kwd_rel
            exact outR (by rw [hin, decide_eq_false l1, Bool.false_and])
        | false =>
          kwd_rel
          refine wt_if ?_
          kwd_rel
          kwd_less
          kwd_rel
          refine wr_ix .lst at0 ?_
          kwd_rel
          refine wc_intT ht hd ?_
          kwd_rel
          have hin : inR false t.2 = decide (valT t.2 ≤ 1000) := rfl
          by_cases l2 : valT t.2 ≤ 1000
          · refine ite_two (fun z => ?_) (fun _ => ?_)
            · rw [decide_eq_true l2] at z; cases z
            kwd_rel
            kwd_less
            kwd_rel
            exact next hs _ (ho (by rw [hin, decide_eq_true l2])) (by rw [hh, if_neg (by decide)]) (by omega)
          · refine ite_two (fun _ => ?_) (fun z => ?_)
            rotate_left
            · rw [decide_eq_false l2] at z; cases z
            kwd_rel
            refine wr_ix (.cell ca4) at1 ?_
            kwd_rel
            exact outR (by rw [hin, decide_eq_false l2])
    rintro E1 C2 ⟨i, pre, post, f, hs, x3, x6, h1, h2, h3, f1, f2, g1, g2, g3, rfl, rfl⟩
    have hil := rng_nil h1
    have e : post = [] := by
      cases post with
      | nil => rfl
      | cons t r =>
        have := congrArg List.length h2
        simp at this
        omega
    subst e
    rw [oorT] at g1
    rw [headIx, List.append_nil] at g2
    rw [due1, g1] at q3
    replace q3 : ∀ C', (∀ z c, C3 z = some c → C' z = some c) → P (encV (due2 Tk tx.length hs)) C' := by rw [← g2]; exact q3
    have hinc : hs.Pairwise (· < ·) := by rw [← g2]; exact headIx_inc _ _ _
    have hdig : ∀ k ∈ hs, k < Tk.length ∧ isDgT (tokAt Tk k) = true := fun k hk => by
      rw [← g2] at hk
      obtain ⟨t, e1, e2⟩ := headIx_dig _ _ _ k hk
      have hl := headIx_lb _ _ _ k hk
      refine ⟨by omega, ?_⟩
      unfold tokAt
      rw [Nat.sub_zero] at e1
      rw [e1]
      exact e2
    have ca4 : delC (updC C3 b (.lst (hs.map fun k => D.int (k : Nat)))) b a = some (.lst (Tk.map fun t => plcD t.1)) := by
      unfold delC
      rw [if_neg ab]
      exact sb _ _ _ ca3
    have s5 : ∀ z c, C3 z = some c → delC (updC C3 b (.lst (hs.map fun k => D.int (k : Nat)))) b z = some c := fun z c h => by
      have zb : z ≠ b := fun e => by rw [e, hb3] at h; cases h
      unfold delC
      rw [if_neg zb, updC_ne zb]
      exact h
    have hhl : hs.length ≤ 300 := by
      rw [h3] at g3
      have := congrArg List.length h2
      simp at this
      omega
    refine ws_frzE 5 rfl updC_same ?_
    generalize delC (updC C3 b (.lst (hs.map fun k => D.int (k : Nat)))) b = C5 at ca4 s5 ⊢
    have q5 := q3 C5 s5
    clear q3 q
    generalize hx6 : x6 = x6'
    refine ws_seq (ws_for (fun rest E1 C2 => ∃ (pre post : List Nat) (x3 x9 : Option D), hs = pre ++ post ∧ rest = (post.map fun k => D.int (k : Nat)) ∧ dblP [] (hs.map (gIx Tk tx.length)) = dblP (pre.map (gIx Tk tx.length)) (post.map (gIx Tk tx.length)) ∧ C2 = C5 ∧
      E1 = [some (.str (mkS tx)), some (.lst ((txsOf Tk).map strD)), some (.ref a), x3, some (.int wr), some (.lst (hs.map fun k => D.int (k : Nat))), x6', none, none, x9]) (wi_seq ?_) ?_ ?_)
    · kwd_rel
      exact ⟨[], hs, _, none, rfl, rfl, rfl, rfl, rfl⟩
    rotate_left
    · rintro x xs E1 C2 ⟨pre4, post4, x3', x9, k1, k2, k3, rfl, rfl⟩
      obtain ⟨k, r, rfl⟩ : ∃ k r, post4 = k :: r := by
        cases post4 with
        | nil => cases k2
        | cons k r => exact ⟨k, r, rfl⟩
      injection k2 with g5 g6
      subst g5 g6
      obtain ⟨hk1, hk2⟩ := hdig k (by rw [k1]; simp)
      have tokX : ∀ j, j < Tk.length → TkX (tokAt Tk j) ∧ (tokAt Tk j).length ≤ 10 := fun j hj => by
        obtain ⟨t, h1, h2⟩ := tok_mem hj
        rw [← h2]
        exact htk t h1
      have hfil : hs.filter (fun j => decide (j < k)) = pre4 := by
        have := hinc
        rw [k1] at this ⊢
        exact filt_lt this
      kwd_rel
      refine wr_ix .lst (at_tx2 hk1) ?_
      kwd_rel
      refine wc_intT (tokX k hk1) hk2 ?_
      kwd_rel
      refine w_lc (fun rest acc C1 => ∃ (pre5 post5 : List Nat), hs = pre5 ++ post5 ∧ rest = (post5.map fun k => D.int (k : Nat)) ∧ acc = ((pre5.filter fun j => decide (j < k)).map fun j => D.int (valT (tokAt Tk j))) ∧ C1 = C2) (sets_name (by simp)) (wi_seq ?_) ?_ ?_
      · kwd_rel
        exact ⟨by rw [List.length_map]; omega, [], hs, rfl, rfl, rfl, rfl⟩
      · rintro acc C1 ⟨pre5, post5, c1, c2, rfl, rfl⟩
        have e5 : post5 = [] := by
          cases post5 with
          | nil => rfl
          | cons _ _ => cases c2
        subst e5
        rw [List.append_nil] at c1
        rw [← c1, hfil]
        have em : (pre4.map fun j => D.int (valT (tokAt Tk j))) = (pre4.map fun j => valT (tokAt Tk j)).map D.int := by rw [List.map_map]; rfl
        rw [em]
        refine wr_inI .lst ?_
        have edb : dblP (pre4.map (gIx Tk tx.length)) ((k :: r).map (gIx Tk tx.length)) = if valT (tokAt Tk k) ∈ (pre4.map fun j => valT (tokAt Tk j)) then some (plcAt Tk tx.length k) else dblP ((pre4 ++ [k]).map (gIx Tk tx.length)) (r.map (gIx Tk tx.length)) := by
          rw [List.map_cons, dblP, List.map_map, List.map_append]
          rfl
        rw [edb] at k3
        kwd_rel
        by_cases hm : valT (tokAt Tk k) ∈ (pre4.map fun j => valT (tokAt Tk j))
        · rw [if_pos hm] at k3
          rw [due2, k3] at q5
          refine ite_two (fun _ => ?_) (fun z => absurd hm (of_decide_eq_false z))
          kwd_rel
          refine wr_ix (.cell ca4) (at_pl2 (len := tx.length) hk1) ?_
          kwd_rel
          exact q5
        · rw [if_neg hm] at k3
          refine ite_two (fun z => absurd (of_decide_eq_true z) hm) (fun _ => ?_)
          kwd_rel
          exact ⟨pre4 ++ [k], r, _, _, by simp [k1], rfl, k3, rfl, rfl⟩
      · rintro x xs acc C1 ⟨pre5, post5, c1, c2, rfl, rfl⟩
        obtain ⟨j, r5, rfl⟩ : ∃ j r5, post5 = j :: r5 := by
          cases post5 with
          | nil => cases c2
          | cons j r5 => exact ⟨j, r5, rfl⟩
        injection c2 with c3 c4
        subst c3 c4
        obtain ⟨hj1, hj2⟩ := hdig j (by rw [c1]; simp)
        kwd_rel
        refine ite_two (fun hc => ?_) (fun hc => ?_)
        · have hjk : j < k := by have := of_decide_eq_true hc; omega
          kwd_rel
          refine wr_ix .lst (at_tx2 hj1) ?_
          kwd_rel
          refine wc_intT (tokX j hj1) hj2 ?_
          exact ⟨pre5 ++ [j], r5, by simp [c1], rfl, by rw [List.filter_append]; simp [hjk], rfl⟩
        · have hjk : ¬ j < k := by have := of_decide_eq_false hc; omega
          exact ⟨pre5 ++ [j], r5, by simp [c1], rfl, by rw [List.filter_append]; simp [hjk], rfl⟩
    rintro E1 C2 ⟨pre4, post4, x3', x9, k1, k2, k3, rfl, rfl⟩
    have e4 : post4 = [] := by
      cases post4 with
      | nil => rfl
      | cons _ _ => cases k2
    subst e4
    rw [List.map_nil, dblP] at k3
    rw [due2, k3, due3] at q5
    kwd_rel
    rw [List.length_map]
    have plc0 : 0 < Tk.length → atI (Tk.map fun t => plcD t.1) (0 : Int) = some (.int (plcAt Tk tx.length 0 : Nat)) := fun h => at_pl2 (n := 0) h
    by_cases h40 : 40 < hs.length
    · rw [if_pos h40] at q5
      refine ite_two (fun _ => ?_) (fun z => absurd (of_decide_eq_false z) (by omega))
      kwd_rel
      have hpos : 0 < Tk.length := by
        cases hs with
        | nil => simp at h40
        | cons k _ => have := (hdig k (by simp)).1; omega
      refine wr_ix (.cell ca4) (plc0 hpos) ?_
      kwd_rel
      exact q5
    rw [if_neg h40] at q5
    refine ite_two (fun z => absurd (of_decide_eq_true z) (by omega)) (fun _ => ?_)
    kwd_rel
    generalize hx3 : x3' = x3''
    generalize hx9 : x9 = x9'
    refine ws_for (fun rest E1 C3 => ∃ (pre post : List Tok') (l : Int) (x8 : Option D), Tk = pre ++ post ∧ rest = (post.map fun t => strD t.2) ∧ excT 0 Tk = excT l post ∧ C3 = C2 ∧
      E1 = [some (.str (mkS tx)), some (.lst ((txsOf Tk).map strD)), some (.ref a), x3'', some (.int wr), some (.lst (hs.map fun k => D.int (k : Nat))), x6', some (.int l), x8, x9']) (wi_seq ?_) ?_ ?_
    · kwd_rel
      exact ⟨[], Tk, 0, none, rfl, by unfold txsOf; rw [List.map_map]; rfl, rfl, rfl, rfl⟩
    · rintro E1 C3 ⟨pre6, post6, l, x8, m1, m2, m3, rfl, rfl⟩
      have e6 : post6 = [] := by
        cases post6 with
        | nil => rfl
        | cons _ _ => cases m2
      subst e6
      rw [excT] at m3
      rw [m3] at q5
      kwd_rel
      exact q5
    rintro x xs E1 C3 ⟨pre6, post6, l, x8, m1, m2, m3, rfl, rfl⟩
    obtain ⟨t, r, rfl⟩ : ∃ t r, post6 = t :: r := by
      cases post6 with
      | nil => cases m2
      | cons t r => exact ⟨t, r, rfl⟩
    injection m2 with n1 n2
    subst n1 n2
    rw [excT] at m3
    have hO : decide (mkS t.2 = ("[" : Str)) = decide (t.2 = [91]) := by rw [str_o, mk_dec]
    have hC : decide (mkS t.2 = ("]" : Str)) = decide (t.2 = [93]) := by rw [str_c, mk_dec]
    have fin : ∀ l2 : Int, l2 = l + (if t.2 = [91] then 1 else 0) - (if t.2 = [93] then 1 else 0) → (4 < l2 → P (.tup [.int (plcAt Tk tx.length 0 : Nat), .str "too deep"]) C3) ∧ (¬ 4 < l2 → excT 0 Tk = excT l2 r) := fun l2 e => by
      subst e
      refine ⟨fun h => ?_, fun h => ?_⟩
      · rw [decide_eq_true h, Bool.true_or] at m3
        rw [m3] at q5
        exact q5
      · rw [decide_eq_false h, Bool.false_or] at m3
        exact m3
    have hpos : 0 < Tk.length := by rw [m1, List.length_append, List.length_cons]; omega
    unfold strD
    kwd_rel
    rw [hO]
    by_cases o1 : t.2 = [91]
    · have o2 : ¬ t.2 = [93] := fun z => by rw [o1] at z; cases z
      rw [decide_eq_true o1]
      kwd_less
      kwd_rel
      rw [hC, decide_eq_false o2]
      kwd_less
      kwd_rel
      refine ite_two (fun hc => ?_) (fun hc => ?_)
      · kwd_rel
        refine wr_ix (.cell ca4) (plc0 hpos) ?_
        kwd_rel
        exact (fin _ (by rw [if_pos o1, if_neg o2])).1 (of_decide_eq_true hc)
      · kwd_rel
        exact ⟨pre6 ++ [t], r, _, _, by simp [m1], rfl, (fin _ (by rw [if_pos o1, if_neg o2])).2 (of_decide_eq_false hc), rfl, rfl⟩
    rw [decide_eq_false o1]
    by_cases o2 : t.2 = [93]
    · skip
      kwd_less
      kwd_rel
      rw [hC, decide_eq_true o2]
      kwd_less
      kwd_rel
      refine ite_two (fun hc => ?_) (fun hc => ?_)
      · kwd_rel
        refine wr_ix (.cell ca4) (plc0 hpos) ?_
        kwd_rel
        exact (fin _ (by rw [if_neg o1, if_pos o2])).1 (of_decide_eq_true hc)
      · kwd_rel
        exact ⟨pre6 ++ [t], r, _, _, by simp [m1], rfl, (fin _ (by rw [if_neg o1, if_pos o2])).2 (of_decide_eq_false hc), rfl, rfl⟩
    · skip
      kwd_less
      kwd_rel
      rw [hC, decide_eq_false o2]
      kwd_less
      kwd_rel
      refine ite_two (fun hc => ?_) (fun hc => ?_)
      · kwd_rel
        refine wr_ix (.cell ca4) (plc0 hpos) ?_
        kwd_rel
        exact (fin _ (by rw [if_neg o1, if_neg o2])).1 (of_decide_eq_true hc)
      · kwd_rel
        exact ⟨pre6 ++ [t], r, _, _, by simp [m1], rfl, (fin _ (by rw [if_neg o1, if_neg o2])).2 (of_decide_eq_false hc), rfl, rfl⟩
  · rintro x xs E1 C2 ⟨i, pre, post, x3, h1, h2, h3, h4, rfl, rfl⟩
    obtain ⟨i1, rfl, rfl⟩ := rng_cons h1
    rw [Int.zero_add]
    obtain ⟨t, r, rfl⟩ : ∃ t r, post = t :: r := by
      cases post with
      | nil =>
        have := congrArg List.length h2
        simp at this
        omega
      | cons t r => exact ⟨t, r, rfl⟩
    have hb : (decide (mkS t.2 = ("-" : Str)) || decide (mkS t.2 = ("x" : Str))) = isBad t.2 := by
      have e1 : ("-" : Str) = mkS [45] := by decide +kernel
      have e2 : ("x" : Str) = mkS [120] := by decide +kernel
      rw [e1, e2, mk_dec, mk_dec]
      rfl
    rw [badT] at h4
    kwd_rel
    refine wr_ix .lst (at_tx h2 (by rw [h3])) ?_
    kwd_rel
    refine wr_in2 ?_
    rw [hb]
    kwd_rel
    cases hbad : isBad t.2 with
    | true =>
      rw [hbad, if_pos rfl] at h4
      kwd_less
      kwd_rel
      refine wr_ix (.cell ca) (at_pl h2 (by rw [h3])) ?_
      kwd_rel
      exact qC _ (by rw [due, h4])
    | false =>
      rw [hbad, if_neg (by decide)] at h4
      kwd_less
      kwd_rel
      exact ⟨i + 1, pre ++ [t], r, _, rfl, by simp [h2], by simp [h3], h4, rfl, rfl⟩
end
section
/-! ### the reader and the law's reader agree -/
variable {T : List Tok'} {len : Nat}
def RA (T : List Tok') (a : At) (d i : Nat) : Int := runA a d i ((txsOf T).drop i)
theorem drop_tok {i : Nat} (h : i < T.length) : (txsOf T).drop i = tokAt T i :: (txsOf T).drop (i + 1) := by
  have hl : i < (txsOf T).length := by simpa [txsOf] using h
  rw [List.drop_eq_getElem_cons hl]
  congr 1
  unfold tokAt
  rw [List.getElem?_eq_getElem h]
  simp [txsOf]
theorem stp_nil (a : At) (d : Nat) : stp a d [] = none := by
  cases a with
  | box => simp [stp]
  | num s => rfl
  | col s => simp [stp]
  | hgt s => rfl
  | opn => simp [stp]
  | done => rfl
theorem RA_none {a : At} {d i : Nat} (ha : isDone a = false) (h : stp a d (tokAt T i) = none) : RA T a d i = (i : Nat) := by
  by_cases hi : i < T.length
  · rw [RA, drop_tok hi, runA, h]
  · rw [RA, List.drop_eq_nil_of_le (by simp [txsOf]; omega), runA, ha]
    rfl
theorem RA_some {a a' : At} {d d' i : Nat} (h : stp a d (tokAt T i) = some (a', d')) : RA T a d i = RA T a' d' (i + 1) := by
  have hi : i < T.length := tok_lt fun e => by rw [e, stp_nil] at h; cases h
  rw [RA, drop_tok hi, runA, h]
  rfl
theorem HeadR.ra {i : Nat} {r : Rs (Int × Int)} (h : HeadR T len i r) (s : Bool) (d : Nat) : (∀ e, r = .er e → RA T (.num s) d i = (e : Nat)) ∧ ∀ a j w z, r = .ok a j w z → RA T (.num s) d i = RA T (if s then .opn else .box) d j := by
  cases h with
  | e1 h1 => exact ⟨fun e he => by cases he; exact RA_none rfl (by rw [stp, if_neg (by rw [h1]; decide)]), fun a j w z he => by cases he⟩
  | e2 h1 h2 =>
    refine ⟨fun e he => ?_, fun a j w z he => by cases he⟩
    cases he
    rw [RA_some (a' := .col s) (d' := d) (by rw [stp, if_pos (numl_dg h1)]), RA_none rfl (by rw [stp, if_neg h2])]
  | e3 h1 h2 h3 =>
    refine ⟨fun e he => ?_, fun a j w z he => by cases he⟩
    cases he
    rw [RA_some (a' := .col s) (d' := d) (by rw [stp, if_pos (numl_dg h1)]), RA_some (a' := .hgt s) (d' := d) (by rw [stp, if_pos h2]), RA_none rfl (by rw [stp, if_neg (by rw [h3]; decide)])]
  | ok h1 h2 h3 =>
    refine ⟨fun e he => (by cases he), fun a j w z he => ?_⟩
    cases he
    rw [RA_some (a' := .col s) (d' := d) (by rw [stp, if_pos (numl_dg h1)]), RA_some (a' := .hgt s) (d' := d) (by rw [stp, if_pos h2]), RA_some (a' := if s then .opn else .box) (d' := d) (by rw [stp, if_pos (numl_dg h3)])]
theorem PPs.ra {Q : Nat → Rs Box → Prop} (hQ : ∀ d i r, d ≠ 0 → tokAt T i ≠ [93] → Q i r → (∀ e, r = .er e → RA T .box d i = (e : Nat)) ∧ ∀ b j w z, r = .ok b j w z → RA T .box d i = RA T .box d j) {i : Nat} {r : Rs (List Box)} (h : PPs T Q i r) {d : Nat} (hd : d ≠ 0) :
    (∀ e, r = .er e → RA T .box d i = (e : Nat)) ∧ ∀ ps j w z, r = .ok ps j w z → tokAt T j = [93] ∧ RA T .box d i = RA T .box d j := by
  induction h with
  | nil h => exact ⟨fun e he => (by cases he), fun ps j w z he => by cases he; exact ⟨h, rfl⟩⟩
  | er h1 h2 => exact ⟨fun e he => by cases he; exact (hQ _ _ _ hd h1 h2).1 _ rfl, fun ps j w z he => by cases he⟩
  | @cons i j p w z r r0 h1 h2 _ e1 ih =>
    have h3 := (hQ _ _ _ hd h1 h2).2 _ _ _ _ rfl
    refine ⟨fun e he => ?_, fun ps j' w' z' he => ?_⟩
    · rw [e1] at he
      cases r0 with
      | er x => cases he; rw [h3]; exact ih.1 _ rfl
      | ok _ _ _ _ => cases he
    · rw [e1] at he
      cases r0 with
      | er x => cases he
      | ok ps0 j0 w0 z0 =>
        obtain ⟨a1, a2⟩ := ih.2 _ _ _ _ rfl
        cases he
        exact ⟨a1, by rw [h3, a2]⟩
theorem PB.ra (n : Nat) : ∀ (d i : Nat) (r : Rs Box), (d ≠ 0 ∨ tokAt T i ≠ [98]) → (d = 0 ∨ tokAt T i ≠ [93]) → PB T len n i r → (∀ e, r = .er e → RA T .box d i = (e : Nat)) ∧ ∀ b j w z, r = .ok b j w z → RA T .box d i = RA T (if d = 0 then .done else .box) d j := by
  induction n with
  | zero => intro _ _ _ _ _ h; exact h.elim
  | succ n ih =>
    intro d i r hd1 hd2 (h' : PBs T len (PB T len n) i r)
    have sB : tokAt T i = [98] → RA T .box d i = RA T (.num false) d (i + 1) ∧ d ≠ 0 := fun e => by
      have hd : d ≠ 0 := hd1.elim id fun z => absurd e z
      exact ⟨RA_some (by rw [stp, if_neg (by rw [e]; decide), if_pos ⟨e, hd⟩]), hd⟩
    have sS : tokAt T i = [115] → RA T .box d i = RA T (.num true) d (i + 1) := fun e => RA_some (by rw [stp, if_pos e])
    cases h' with
    | bE h1 h2 => exact ⟨fun e he => by cases he; rw [(sB h1).1]; exact (h2.ra false d).1 _ rfl, fun b j w z he => by cases he⟩
    | blk h1 h2 =>
      refine ⟨fun e he => (by cases he), fun b j w z he => ?_⟩
      cases he
      rw [(sB h1).1, (h2.ra false d).2 _ _ _ _ rfl, if_neg (sB h1).2]
      rfl
    | no h1 h2 =>
      refine ⟨fun e he => ?_, fun b j w z he => by cases he⟩
      cases he
      exact RA_none rfl (by rw [stp, if_neg h2, if_neg (fun z => h1 z.1), if_neg (fun z => hd2.elim z.2 fun y => y z.1)])
    | sE h1 h2 => exact ⟨fun e he => by cases he; rw [sS h1]; exact (h2.ra true d).1 _ rfl, fun b j w z he => by cases he⟩
    | sO h1 h2 h3 =>
      refine ⟨fun e he => ?_, fun b j w z he => by cases he⟩
      cases he
      rw [sS h1, (h2.ra true d).2 _ _ _ _ rfl]
      exact RA_none rfl (by rw [if_pos rfl, stp, if_neg h3])
    | scr h1 h2 h3 h4 h5 =>
      obtain rfl := h2.adv
      have base : RA T .box d i = RA T .box (d + 1) (i + 1 + 3 + 1) := by
        rw [sS h1, (h2.ra true d).2 _ _ _ _ rfl]
        exact RA_some (by rw [if_pos rfl, stp, if_pos h3])
      obtain ⟨a1, a2⟩ := h4.ra (fun d i r hd ht hq => by
        have := ih d i r (.inl hd) (.inr ht) hq
        rw [if_neg hd] at this
        exact this) (Nat.succ_ne_zero d)
      refine ⟨fun e he => ?_, fun b j' w' z' he => ?_⟩
      · obtain rfl := scrR_er (h5.symm.trans he)
        rw [base]
        exact a1 _ rfl
      · obtain ⟨ps, j0, w2, m2, rfl, rfl, rfl, rfl, rfl⟩ := scrR_inv (h5.symm.trans he)
        obtain ⟨b1, b2⟩ := a2 _ _ _ _ rfl
        rw [base, b2]
        exact RA_some (by rw [stp, if_neg (by rw [b1]; decide), if_neg (fun z => by have := b1.symm.trans z.1; cases this), if_pos ⟨b1, Nat.succ_ne_zero d⟩]; rfl)
/-! ### what is out of range, the numbers, the levels -/
theorem dropT {i : Nat} (h : tokAt T i ≠ []) (len : Nat) : ∃ t, T.drop i = t :: T.drop (i + 1) ∧ t.2 = tokAt T i ∧ t.1 = plcAt T len i := by
  have hl := tok_lt h
  refine ⟨T[i], List.drop_eq_getElem_cons hl, ?_, ?_⟩
  · unfold tokAt; rw [List.getElem?_eq_getElem hl]
  · unfold plcAt; rw [List.getElem?_eq_getElem hl]
def orW (w : List Nat) (x : Option Nat) : Option Nat := match w with
  | [] => x
  | y :: _ => some y
theorem orW_app (a b : List Nat) (x : Option Nat) : orW (a ++ b) x = orW a (orW b x) := by cases a <;> rfl
theorem O_step (len : Nat) {i : Nat} {f : Bool} (h : tokAt T i ≠ []) : oorT f (T.drop i) = orW (if isDgT (tokAt T i) && !inR f (tokAt T i) then [plcAt T len i] else []) (oorT (isSB (tokAt T i)) (T.drop (i + 1))) := by
  obtain ⟨t, e1, e2, e3⟩ := dropT h len
  rw [e1, oorT, e2, e3]
  split <;> rfl
theorem H_step {i : Nat} {f : Bool} (h : tokAt T i ≠ []) : headIx f i (T.drop i) = (if isDgT (tokAt T i) && f then [i] else []) ++ headIx (isSB (tokAt T i)) (i + 1) (T.drop (i + 1)) := by
  obtain ⟨t, e1, e2, e3⟩ := dropT h 0
  rw [e1, headIx, e2]
  split <;> rfl
theorem E_step {i : Nat} {l : Int} (h : tokAt T i ≠ []) : excT l (T.drop i) = (decide (4 < l + (if tokAt T i = [91] then 1 else 0) - (if tokAt T i = [93] then 1 else 0)) || excT (l + (if tokAt T i = [91] then 1 else 0) - (if tokAt T i = [93] then 1 else 0)) (T.drop (i + 1))) := by
  obtain ⟨t, e1, e2, e3⟩ := dropT h 0
  rw [e1, excT, e2]
theorem numl_ne {n : Int} {l : List Nat} (h : Numl n l) : l ≠ [] ∧ isSB l = false ∧ l ≠ [91] ∧ l ≠ [93] := by
  have hd := numl_dg h
  refine ⟨h.ne, ?_, fun e => ?_, fun e => ?_⟩
  · have a : l ≠ [115] := fun e => by rw [e] at hd; cases hd
    have b : l ≠ [98] := fun e => by rw [e] at hd; cases hd
    unfold isSB
    rw [decide_eq_false a, decide_eq_false b]
    rfl
  · rw [e] at hd; cases hd
  · rw [e] at hd; cases hd
/-- a token without brackets, number or sign of a box -/
theorem plain_step (len : Nat) {i : Nat} (h : tokAt T i ≠ []) (hd : isDgT (tokAt T i) = false) (f : Bool) : oorT f (T.drop i) = oorT (isSB (tokAt T i)) (T.drop (i + 1)) ∧ headIx f i (T.drop i) = headIx (isSB (tokAt T i)) (i + 1) (T.drop (i + 1)) := by
  rw [O_step len h, H_step h, hd]
  exact ⟨rfl, rfl⟩
theorem E_plain {i : Nat} {l : Int} (h : tokAt T i ≠ []) (h1 : tokAt T i ≠ [91]) (h2 : tokAt T i ≠ [93]) (hl : ¬ 4 < l) : excT l (T.drop i) = excT l (T.drop (i + 1)) := by
  rw [E_step h, if_neg h1, if_neg h2]
  have e : l + 0 - 0 = l := by omega
  rw [e, decide_eq_false hl, Bool.false_or]
structure Vals3 (T : List Tok') (len : Nat) (f : Bool) (i j : Nat) (w : List Nat) (z : List (Int × Nat)) (dp : Nat) : Prop where
  o : oorT f (T.drop i) = orW w (oorT false (T.drop j))
  h : ∃ hs, headIx f i (T.drop i) = hs ++ headIx false j (T.drop j) ∧ hs.map (gIx T len) = z
  e : ∀ l : Int, ¬ 4 < l → excT l (T.drop i) = (decide (4 < l + (dp : Nat)) || excT l (T.drop j))
theorem HeadR.vals {i j : Nat} {a : Int × Int} {w : List Nat} {z : List (Int × Nat)} (h : HeadR T len i (.ok a j w z)) : Vals3 T len true i j w z 0 := by
  cases h with
  | @ok n h h1 h2 h3 =>
    obtain ⟨a1, a2, a3, a4⟩ := numl_ne h1
    obtain ⟨c1, c2, c3, c4⟩ := numl_ne h3
    have b1 : tokAt T (i + 1) ≠ [] := by rw [h2]; simp
    have bd : isDgT (tokAt T (i + 1)) = false := by rw [h2]; decide
    have bs : isSB (tokAt T (i + 1)) = false := by rw [h2]; decide
    obtain ⟨p1, p2⟩ := plain_step len b1 bd (isSB (tokAt T i))
    rw [bs] at p1 p2
    have w1 : (if isDgT (tokAt T i) && !inR true (tokAt T i) then [plcAt T len i] else []) = outW T len i 1 999 n := by
      rw [numl_dg h1, valT_numl h1, outW, inR, if_pos rfl]
      by_cases x1 : 1 ≤ valT (tokAt T i) <;> by_cases x2 : valT (tokAt T i) ≤ 999 <;> simp [x1, x2]
    have w2 : (if isDgT (tokAt T (i + 2)) && !inR false (tokAt T (i + 2)) then [plcAt T len (i + 2)] else []) = outW T len (i + 2) 0 1000 h := by
      have er : inR false (tokAt T (i + 2)) = decide (valT (tokAt T (i + 2)) ≤ 1000) := rfl
      rw [numl_dg h3, valT_numl h3, outW, er]
      have x0 : 0 ≤ valT (tokAt T (i + 2)) := by unfold valT; omega
      by_cases x2 : valT (tokAt T (i + 2)) ≤ 1000 <;> simp [x0, x2]
    refine ⟨?_, ⟨[i], ?_, ?_⟩, fun l hl => ?_⟩
    · rw [O_step len a1, w1, p1, O_step len c1, w2, c2, orW_app]
    · rw [H_step a1, numl_dg h1, p2, H_step c1, c2, numl_dg h3]
      rfl
    · rw [List.map_singleton, gIx, ← valT_numl h1]
    · rw [E_plain a1 a3 a4 hl, E_plain b1 (by rw [h2]; decide) (by rw [h2]; decide) hl, E_plain c1 c3 c4 hl]
      have : ¬ 4 < l + ((0 : Nat) : Int) := by omega
      rw [decide_eq_false this, Bool.false_or]
theorem Vals3.join {f : Bool} {i j k : Nat} {w w2 : List Nat} {z z2 : List (Int × Nat)} {a b : Nat} (h : Vals3 T len f i j w z a) (g : Vals3 T len false j k w2 z2 b) : Vals3 T len f i k (w ++ w2) (z ++ z2) (max a b) := by
  obtain ⟨h1, ⟨hs, h2, h3⟩, h4⟩ := h
  obtain ⟨g1, ⟨gs, g2, g3⟩, g4⟩ := g
  refine ⟨by rw [h1, g1, orW_app], ⟨hs ++ gs, by rw [h2, g2, List.append_assoc], by rw [List.map_append, h3, g3]⟩, fun l hl => ?_⟩
  rw [h4 l hl, g4 l hl, ← Bool.or_assoc]
  congr 1
  by_cases x : 4 < l + (a : Nat) <;> by_cases y : 4 < l + (b : Nat) <;> simp [x, y] <;> omega
theorem PPs.vals {Q : Nat → Rs Box → Prop} (hQ : ∀ i b j w z, Q i (.ok b j w z) → ∀ f, Vals3 T len f i j w z b.deep) {i : Nat} {r : Rs (List Box)} (h : PPs T Q i r) : ∀ {ps j w z}, r = .ok ps j w z → Vals3 T len false i j w z (deeps ps) := by
  induction h with
  | nil _ =>
    intro ps j w z e
    cases e
    exact ⟨rfl, ⟨[], rfl, rfl⟩, fun l hl => by
      have : ¬ 4 < l + ((deeps [] : Nat) : Int) := by simp [deeps]; omega
      rw [decide_eq_false this, Bool.false_or]⟩
  | er _ _ => intro ps j w z e; cases e
  | @cons i j p w z r r0 _ h2 _ e1 ih =>
    intro ps j' w' z' e
    rw [e1] at e
    cases r0 with
    | er _ => cases e
    | ok ps0 j0 w0 z0 =>
      have g := ih rfl
      have h3 := (hQ _ _ _ _ _ h2 false).join g
      cases e
      exact h3
theorem PB.vals (n : Nat) : ∀ (i : Nat) (b : Box) (j : Nat) (w : List Nat) (z : List (Int × Nat)), PB T len n i (.ok b j w z) → ∀ f, Vals3 T len f i j w z b.deep := by
  induction n with
  | zero => intro _ _ _ _ _ h; exact h.elim
  | succ n ih =>
    intro i b j w z (h' : PBs T len (PB T len n) i (.ok b j w z)) f
    have sg : ∀ c, (c = 98 ∨ c = 115) → tokAt T i = [c] → ∀ {j w z dp}, Vals3 T len true (i + 1) j w z dp → Vals3 T len f i j w z dp := fun c hc e {j w z dp} v => by
      have b1 : tokAt T i ≠ [] := by rw [e]; simp
      have bd : isDgT (tokAt T i) = false := by rw [e]; rcases hc with rfl | rfl <;> decide
      have bs : isSB (tokAt T i) = true := by rw [e]; rcases hc with rfl | rfl <;> decide
      obtain ⟨p1, p2⟩ := plain_step len b1 bd f
      rw [bs] at p1 p2
      refine ⟨by rw [p1]; exact v.o, by rw [p2]; exact v.h, fun l hl => ?_⟩
      rw [E_plain b1 (by rw [e]; rcases hc with rfl | rfl <;> decide) (by rw [e]; rcases hc with rfl | rfl <;> decide) hl]
      exact v.e l hl
    generalize hr : (Rs.ok b j w z : Rs Box) = r at h'
    cases h' with
    | bE _ _ => cases hr
    | blk h1 h2 => cases hr; exact sg 98 (.inl rfl) h1 h2.vals
    | no _ _ => cases hr
    | sE _ _ => cases hr
    | sO _ _ _ => cases hr
    | scr h1 h2 h3 h4 e1 =>
      obtain ⟨ps, j0, w2, m2, rfl, rfl, rfl, rfl, rfl⟩ := scrR_inv (e1.symm.trans hr.symm)
      obtain rfl := h2.adv
      have hv := h2.vals
      have pv := h4.vals ih rfl
      have ht : tokAt T j0 = [93] := by
        have : ∀ {i r}, PPs T (PB T len n) i r → ∀ {ps j w z}, r = .ok ps j w z → tokAt T j = [93] := fun {i r} h => by
          induction h with
          | nil h => intro _ _ _ _ e; cases e; exact h
          | er _ _ => intro _ _ _ _ e; cases e
          | @cons i j p w z r r0 _ _ _ e1 ih =>
            intro _ _ _ _ e
            rw [e1] at e
            cases r0 with
            | er _ => cases e
            | ok _ _ _ _ => cases e; exact ih rfl
        exact this h4 rfl
      refine sg 115 (.inr rfl) h1 ?_
      have o1 : tokAt T (i + 1 + 3) ≠ [] := by rw [h3]; simp
      have od : isDgT (tokAt T (i + 1 + 3)) = false := by rw [h3]; decide
      have os : isSB (tokAt T (i + 1 + 3)) = false := by rw [h3]; decide
      obtain ⟨o2, o3⟩ := plain_step len o1 od false
      rw [os] at o2 o3
      have c1 : tokAt T j0 ≠ [] := by rw [ht]; simp
      have cd : isDgT (tokAt T j0) = false := by rw [ht]; decide
      have cs : isSB (tokAt T j0) = false := by rw [ht]; decide
      obtain ⟨c2, c3⟩ := plain_step len c1 cd false
      rw [cs] at c2 c3
      obtain ⟨hs, h5, h6⟩ := hv.h
      obtain ⟨gs, g5, g6⟩ := pv.h
      refine ⟨?_, ⟨hs ++ gs, ?_, by rw [List.map_append, h6, g6]⟩, fun l hl => ?_⟩
      · rw [hv.o, o2, pv.o, c2, orW_app]
      · rw [h5, o3, g5, c3, List.append_assoc]
      · rw [hv.e l hl]
        have z0 : ¬ 4 < l + ((0 : Nat) : Int) := by omega
        rw [decide_eq_false z0, Bool.false_or, E_step o1, h3, if_pos rfl, if_neg (by decide)]
        have e1 : l + 1 - 0 = l + 1 := by omega
        rw [e1]
        by_cases h4l : 4 < l + 1
        · rw [decide_eq_true h4l, Bool.true_or]
          have : 4 < l + ((deeps ps + 1 : Nat) : Int) := by omega
          rw [Box.deep, decide_eq_true this, Bool.true_or]
        · rw [decide_eq_false h4l, Bool.false_or, pv.e _ h4l, E_step c1, ht, if_neg (by decide), if_pos rfl]
          have e2 : l + 1 + 0 - 1 = l := by omega
          rw [e2, decide_eq_false hl, Bool.false_or, Box.deep]
          congr 1
          have : (l + 1 + ((deeps ps : Nat) : Int)) = l + ((deeps ps + 1 : Nat) : Int) := by omega
          rw [this]
/-! ### what parse_document tells is what the law expects -/
theorem bad_dig {l : List Nat} (h : ∀ c ∈ l, 48 ≤ c ∧ c ≤ 57) : isBad l = false := by
  have a : l ≠ [45] := fun e => by have := h 45 (by rw [e]; simp); omega
  have b : l ≠ [120] := fun e => by have := h 120 (by rw [e]; simp); omega
  unfold isBad
  rw [decide_eq_false a, decide_eq_false b]
  rfl
theorem badT_good : ∀ (its : List It) (k : Nat), (∀ i ∈ its, i.Ok) → badT (toks k its) = none
  | [], _, _ => rfl
  | .gap c :: r, k, h => by rw [toks]; exact badT_good r _ fun i hi => h i (by simp [hi])
  | .sgn c :: r, k, h => by
    have hc : isBad [c] = false := by rcases h (.sgn c) (by simp) with rfl | rfl | rfl | rfl | rfl <;> decide
    rw [toks, badT]
    show (if isBad [c] = true then _ else _) = _
    rw [hc, if_neg (by decide)]
    exact badT_good r _ fun i hi => h i (by simp [hi])
  | .dig l :: r, k, h => by
    rw [toks, badT]
    have hc : isBad l = false := bad_dig (h (.dig l) (by simp)).1
    show (if isBad l = true then _ else _) = _
    rw [hc, if_neg (by decide)]
    exact badT_good r _ fun i hi => h i (by simp [hi])
theorem badT_app : ∀ {a b : List Tok'}, badT a = none → badT (a ++ b) = badT b
  | [], _, _ => rfl
  | t :: r, b, h => by
    rw [List.cons_append]
    rw [badT] at h ⊢
    split at h
    · cases h
    · rename_i hc
      rw [if_neg hc]
      exact badT_app h
theorem badT_bad {pre post : List It} {i : It} (h : ∀ i ∈ pre, i.Ok) (b : BadI i) : badT (toks 0 (pre ++ i :: post)) = some (txts pre).length := by
  rw [toks_app, badT_app (badT_good pre 0 h), Nat.zero_add]
  rcases b with rfl | rfl
  · rw [toks, badT]; exact if_pos (show isBad [45] = true by decide)
  · rw [toks, badT]; exact if_pos (show isBad [120] = true by decide)
theorem vd_due {its : List It} {ts : List (List Nat)} (h : TxtOf ts its) (hts : TsOk 2 ts) : Vd 44 its (due (toks 0 its) (txts its).length) := by
  rcases ok_or_bad h.ok with hg | ⟨pre, i, post, e, h1, h2⟩
  · rw [due, badT_good its 0 hg]
    have htk := toks_ok its 0 hg h.dl
    have tok : ∀ t ∈ toks 0 its, TkT t.2 := fun t ht => (htk t ht).1
    have eR : runA .box 0 0 (txsOf (toks 0 its)) = RA (toks 0 its) .box 0 0 := rfl
    show Vd 44 its (due0 (toks 0 its) (txts its).length (runA .box 0 0 (txsOf (toks 0 its))))
    rw [eR]
    by_cases hb : tokAt (toks 0 its) 0 = [98]
    · rw [RA_none rfl (by rw [stp, hb]; decide), due0, if_pos (Int.natCast_nonneg _)]
      exact .blk hg hb
    · have ho : opens (toks 0 its) 0 < 44 := by
        have := hts.op
        unfold opens
        rw [List.drop_zero, h.tx]
        omega
      obtain ⟨r, hr⟩ := PB.total (len := (txts its).length) tok 44 0 ho
      obtain ⟨a1, a2⟩ := PB.ra 44 0 0 r (.inr hb) (.inl rfl) hr
      cases r with
      | er e =>
        rw [a1 e rfl, due0, if_pos (Int.natCast_nonneg _)]
        exact .ok hg hb hr
      | ok b j w z =>
        have hv := PB.vals 44 _ _ _ _ _ hr (lastSB (toks 0 its))
        obtain ⟨s1, s2, s3⟩ := PB.sizes 44 _ _ _ _ _ hr
        have key : due0 (toks 0 its) (txts its).length (RA (toks 0 its) .box 0 0) = vd (toks 0 its) (txts its).length (.ok b j w z) := by
          rw [a2 _ _ _ _ rfl, if_pos rfl, vd]
          by_cases hj : j < (toks 0 its).length
          · rw [RA, drop_tok hj, runA, if_pos hj]
            show due0 _ _ (j : Int) = _
            rw [due0, if_pos (Int.natCast_nonneg _)]
            rfl
          · rw [RA, List.drop_eq_nil_of_le (by simp [txsOf]; omega), runA, if_neg hj]
            show due0 _ _ (-1) = _
            rw [due0, if_neg (by decide), due1]
            have vo := hv.o
            obtain ⟨hs, vh, vm⟩ := hv.h
            have ve := hv.e 0 (by decide)
            rw [List.drop_zero] at vo vh ve
            rw [List.drop_eq_nil_of_le (by omega)] at vo vh ve
            rw [oorT] at vo
            rw [headIx, List.append_nil] at vh
            rw [excT, Bool.or_false] at ve
            rw [vo, vh]
            cases w with
            | cons x xs => rfl
            | nil =>
              show due2 _ _ hs = vdD _ _ b (dblP [] z)
              rw [due2, vm]
              cases dblP [] z with
              | some q => rfl
              | none =>
                show due3 _ _ hs.length = _
                have el : hs.length = b.all.length := by rw [← s3, ← vm, List.length_map]
                rw [due3, vdD, el, ve]
                by_cases h4 : 4 < b.deep
                · have : (4 : Int) < 0 + (b.deep : Nat) := by omega
                  rw [decide_eq_true this, if_pos h4]
                  rfl
                · have : ¬ (4 : Int) < 0 + (b.deep : Nat) := by omega
                  rw [decide_eq_false this, if_neg h4]
                  rfl
        rw [key]
        exact .ok hg hb hr
  · have eb : badT (toks 0 its) = some (txts pre).length := by rw [e]; exact badT_bad h1 h2
    rw [due, eb]
    exact .bad e h1 h2
theorem due_bound {T : List Tok'} {len M : Nat} (hM : ∀ k, plcAt T len k ≤ M) {s : Str} {p : Nat} (h : due T len = some (s, p)) : p ≤ M ∧ s.length ≤ 100 := by
  have mem : ∀ t ∈ T, t.1 ≤ M := fun t ht => by
    obtain ⟨k, hk, rfl⟩ := List.getElem_of_mem ht
    have := hM k
    unfold plcAt at this
    rw [List.getElem?_eq_getElem hk] at this
    exact this
  have sl : ∀ x : Str, (x = "unknown character" ∨ x = "unexpected token" ∨ x = "unexpected end" ∨ x = "out of range" ∨ x = "number twice" ∨ x = "too many boxes" ∨ x = "too deep") → x.length ≤ 100 := fun x hx => by
    rcases hx with rfl | rfl | rfl | rfl | rfl | rfl | rfl <;> decide +kernel
  rw [due] at h
  cases hb : badT T with
  | some q =>
    rw [hb] at h
    cases h
    have : ∀ {l : List Tok'} {q : Nat}, badT l = some q → ∃ t ∈ l, t.1 = q := fun {l} => by
      induction l with
      | nil => intro q h; cases h
      | cons t r ih =>
        intro q h
        rw [badT] at h
        split at h
        · exact ⟨t, by simp, Option.some.inj h⟩
        · obtain ⟨u, hu, e⟩ := ih h
          exact ⟨u, by simp [hu], e⟩
    obtain ⟨t, ht, rfl⟩ := this hb
    exact ⟨mem t ht, sl _ (.inl rfl)⟩
  | none =>
    rw [hb] at h
    replace h : due0 T len (runA .box 0 0 (txsOf T)) = some (s, p) := h
    rw [due0] at h
    split at h
    · have h := Option.some.inj h
      injection h with h1 h2
      subst h1 h2
      refine ⟨hM _, sl _ ?_⟩
      unfold unexp
      split
      · exact .inr (.inl rfl)
      · exact .inr (.inr (.inl rfl))
    · rw [due1] at h
      cases ho : oorT (lastSB T) T with
      | some q =>
        rw [ho] at h
        cases h
        have : ∀ {l : List Tok'} {f : Bool} {q : Nat}, oorT f l = some q → ∃ t ∈ l, t.1 = q := fun {l} => by
          induction l with
          | nil => intro f q h; cases h
          | cons t r ih =>
            intro f q h
            rw [oorT] at h
            split at h
            · exact ⟨t, by simp, Option.some.inj h⟩
            · obtain ⟨u, hu, e⟩ := ih h
              exact ⟨u, by simp [hu], e⟩
        obtain ⟨t, ht, rfl⟩ := this ho
        exact ⟨mem t ht, sl _ (.inr (.inr (.inr (.inl rfl))))⟩
      | none =>
        rw [ho] at h
        replace h : due2 T len (headIx (lastSB T) 0 T) = some (s, p) := h
        rw [due2] at h
        cases hd : dblP [] ((headIx (lastSB T) 0 T).map (gIx T len)) with
        | some q =>
          rw [hd] at h
          cases h
          obtain ⟨g, hg, rfl⟩ := dblP_mem hd
          obtain ⟨k, _, rfl⟩ := List.mem_map.mp hg
          exact ⟨hM k, sl _ (.inr (.inr (.inr (.inr (.inl rfl)))))⟩
        | none =>
          rw [hd] at h
          replace h : due3 T len (headIx (lastSB T) 0 T).length = some (s, p) := h
          rw [due3] at h
          split at h
          · cases h
            exact ⟨hM 0, sl _ (.inr (.inr (.inr (.inr (.inr (.inl rfl))))))⟩
          · split at h
            · cases h
              exact ⟨hM 0, sl _ (.inr (.inr (.inr (.inr (.inr (.inr rfl))))))⟩
            · cases h
end
section
variable {P : Program} {w : World} {K : PySem.W.Frag} {mg : Str → Option Value} {base : Heap}
/-! ### what parse_document tells of a text -/
def fTold3 (N : Nat) : SpD := fun ds C P => ∃ (its : List It) (v : Option (Str × Nat)), ds = [.str (mkS (txts its))] ∧ (∀ i ∈ its, i.Ok ∨ BadI i) ∧ (∀ l, .dig l ∈ its → l.length ≤ 100) ∧ Sep its ∧ (txts its).length ≤ 50000 ∧ Vd N its v ∧ (∀ s p, v = some (s, p) → p ≤ 100000 ∧ s.length ≤ 100) ∧ ∀ C', (∀ z c, C z = some c → C' z = some c) → P (encV v) C'
abbrev slaw_told : Stmt := topS 38
theorem sclaw_told : FnScope ["_law_text_here", "e"] ["_law_text_here"] (defScope slaw_told) := ⟨rfl, rfl, rfl, by decide +kernel, rfl, by decide +kernel, by decide +kernel⟩
theorem ok_law_told {k N : Nat} (Df : DefAt K mg "_law_told" slaw_told ["_law_text_here"]) (T : Top mg) (TX : TopX K mg) (h_parse_document : HasA P w K mg base k "parse_document" ["text"] (spX mg (fParseA mg N))) : Has P w K mg base (k+1) "_law_told" ["_law_text_here"] (spD (fTold3 N)) := by
  refine has_of Df sclaw_told (fun ds C P ⟨_, _, h, _⟩ => by rw [h]; rfl) fun f cdv A outer s H E hr => ⟨_, 
    (pss_cons (ps_tryT (X := (cxOf CX0 P w K mg base ["_law_text_here", "e"] "_law_told" (defScope slaw_told) f cdv A outer s H E).nox) (i := 1) K rfl rfl sclaw_told.nd rfl rfl (nm_cls TX.g_TextError) (fun W pn xe tkW => 
      (pss_one (ps_expr (pe_defA h_parse_document (hr.mono (by omega)) (pa_cons (pv 0) pa_nil) tkW)))) (fun a ob cls d t1 pn hz ho => (have hf : ∃ vs : Array Value, ob.data = .fields vs := ho.elim fun fv h => ⟨fv, h.1⟩; 
      (pss_cons (ps_if (PW.pt (pw_or (pt_not (pt_truK K (pe_callB (call_isYK K hz hf) (by rfl) T.isinstance bt_isinstance (pa_cons (pv 1) (pa_cons (pe_clsG TX.g_FrameError) pa_nil))))) (pw_or1 (pt_cmpR (op_neKS K hr.units hr.units0) (pe_callTy (call_strE K hz ho (units2 hr)) (by rfl) T.str bt_str (pa_cons (pv 1) pa_nil)) (pe_op (op_addK K) (pe_op (op_addK K) (pe_xf TX.x_TextError TX.n_message hz hf (pv 1)) pe_str) (pe_callTy call_strN (by rfl) T.str bt_str (pa_cons (pe_xf TX.x_TextError TX.n_place hz hf (pv 1)) pa_nil))) (nomark _))))) 
        (pss_one (ps_ret (pe_tup (pa_cons (pe_un un_neg pe_int) (pa_cons pe_str pa_nil))))) pss_nil)
      (pss_one (ps_ret (pe_tup (pa_cons (pe_xf TX.x_TextError TX.n_place hz hf (pv 1)) (pa_cons (pe_xf TX.x_TextError TX.n_message hz hf (pv 1)) pa_nil)))))))))
    (pss_one (ps_ret pe_non))), fun B ds C P ⟨its, v, hd, hok, hdl, hsep, hz, hv, hb, q⟩ => ?_⟩
  subst hd
  refine ws_seq ?_
  refine ws_tryT (mg := mg) (fun x C1 => ∃ s p, v = some (s, p) ∧ x = .fld "TextError" [("message", .str s), ("place", .int (p : Nat))] ∧ ∀ z c, C z = some c → C1 z = some c) (fun B1 W hX => ?_) ?_
  · kwd_rel
    refine w_callX hX ?_
    kwd_rel
    refine ⟨its, v, rfl, hok, hdl, hsep, hz, hv, fun s p e C' hs => ⟨s, p, e, rfl, hs⟩, fun e b C' hs => ?_⟩
    subst e
    kwd_rel
    exact q _ hs
  · rintro x C1 ⟨s, p, rfl, rfl, hsub⟩
    obtain ⟨hp, hsl⟩ := hb s p rfl
    refine ⟨"TextError", ((p : Nat) : Int), s, rfl, fun B1 cls d ho s0 => ?_⟩
    cases ho with
    | fld hc ha r =>
    have ec : cls = .ref (clsAd mg "TextError") := by
      rw [TX.g_TextError.at] at hc
      exact (Option.some.inj hc).symm
    subst ec
    refine ⟨TX.m_TT, fun Ff a t1 s1 ht => ?_⟩
    kwd_rel
    refine wc_isY ha TX.c_T TX.k_T ⟨true, rfl, ?_⟩
    kwd_less
    kwd_rel
    refine wc_strE TX.s_T ht ?_
    kwd_rel
    have la : ∀ x y : Str, (x ++ y).length = x.length + y.length := fun x y => by rw [str_app, mkS_len, List.length_append, ← str_len, ← str_len]
    have lp : (numS ((p : Nat) : Int)).length ≤ 10 := by rw [numS_num, mkS_len]; exact num_len (by omega) (by omega)
    have lc : (" at " : Str).length = 4 := by decide +kernel
    refine w_xf ha r rfl (w_var (by with_unfolding_all exact rfl) ⟨rfl, ?_⟩)
    kwd_rel
    refine wr_addS (by omega) ?_
    kwd_rel
    refine w_xf ha r rfl (w_var (by with_unfolding_all exact rfl) ⟨rfl, ?_⟩)
    kwd_rel
    refine wc_strN (by omega) ?_
    refine wr_addS (by rw [la]; omega) ?_
    have hne : ∀ z : Str, eqS (.str z) (.str z) = some true := fun z => congrArg some (decide_eq_true rfl)
    generalize (s ++ (" at " : Str) ++ numS ((p : Nat) : Int) : Str) = zz
    refine wr_ne (hne zz) ?_
    kwd_rel
    refine ite_two (fun z => by cases z) (fun _ => ?_)
    refine ws_next (nx_show ?_)
    refine ws_ret (w_tup (wa_cons (w_xf ha r rfl (w_var (by with_unfolding_all exact rfl) ⟨rfl, ?_⟩))))
    refine wa_cons (w_xf ha r rfl (w_var (by with_unfolding_all exact rfl) ⟨rfl, ?_⟩))
    refine wa_nil ⟨by simp, ?_⟩
    have q1 : P (.tup [.int ((p : Nat) : Int), .str s]) C1 := q C1 hsub
    exact q1
end
section
theorem num_91 {n : Int} (h0 : 0 ≤ n) (h1 : n ≤ 1000) : ([num n] : List (List Nat)).count [91] = 0 := by
  rw [List.count_singleton]
  have hd := numl_dg (num_ok h0 (by omega : n ≤ 100000))
  have : num n ≠ [91] := fun e => by rw [e] at hd; cases hd
  simp [this]
mutual
theorem tkB_op : ∀ b : Box, NumB b → (tkB b).count [91] ≤ b.all.length
  | .block m h, nb => by
    obtain ⟨⟨a1, a2⟩, a3, a4⟩ := nb (.block m h) (by rw [Box.all]; simp)
    have e1 := num_91 a1 a2
    have e2 := num_91 a3 a4
    have e : tkB (.block m h) = [[98]] ++ [num m] ++ [[58]] ++ [num h] := rfl
    rw [e, List.count_append, List.count_append, List.count_append]
    have k1 : ([num (Box.block m h).num] : List (List Nat)).count [91] = ([num m] : List (List Nat)).count [91] := rfl
    have k2 : ([num (Box.block m h).hgt] : List (List Nat)).count [91] = ([num h] : List (List Nat)).count [91] := rfl
    rw [k1] at e1
    rw [k2] at e2
    rw [e1, e2]
    exact Nat.zero_le _
  | .scroller m h ps, nb => by
    obtain ⟨⟨a1, a2⟩, a3, a4⟩ := nb (.scroller m h ps) (by rw [Box.all]; simp)
    have e1 := num_91 a1 a2
    have e2 := num_91 a3 a4
    have k1 : ([num (Box.scroller m h ps).num] : List (List Nat)).count [91] = ([num m] : List (List Nat)).count [91] := rfl
    have k2 : ([num (Box.scroller m h ps).hgt] : List (List Nat)).count [91] = ([num h] : List (List Nat)).count [91] := rfl
    rw [k1] at e1
    rw [k2] at e2
    have hp := tkBs_op ps fun p hp => nb.part (b := .scroller m h ps) hp
    have e : tkB (.scroller m h ps) = [[115]] ++ [num m] ++ [[58]] ++ [num h] ++ [[91]] ++ (tkBs ps ++ [[93]]) := by rw [tkB]; simp
    rw [e, List.count_append, List.count_append, List.count_append, List.count_append, List.count_append, List.count_append, e1, e2, Box.all, List.length_cons]
    have c1 : ([[115]] : List (List Nat)).count [91] = 0 := by decide
    have c2 : ([[58]] : List (List Nat)).count [91] = 0 := by decide
    have c3 : ([[91]] : List (List Nat)).count [91] = 1 := by decide
    have c4 : ([[93]] : List (List Nat)).count [91] = 0 := by decide
    rw [c1, c2, c3, c4]
    omega
theorem tkBs_op : ∀ ps : List Box, (∀ p ∈ ps, NumB p) → (tkBs ps).count [91] ≤ (alls ps).length
  | [], _ => Nat.zero_le _
  | p :: r, h => by
    have h1 := tkB_op p (h p (by simp))
    have h2 := tkBs_op r fun q hq => h q (by simp [hq])
    rw [tkBs, alls, List.count_append, List.length_append]
    omega
end
theorem tkOk_X {t : List Nat} (h : TkOk t) : TkX t ∧ t.length ≤ 10 := by
  rcases h with ⟨c, rfl, hc⟩ | ⟨h1, h2, h3⟩
  · refine ⟨.inl ?_, by simp⟩
    rcases hc with rfl | rfl | rfl | rfl | rfl
    · exact .inr (.inl rfl)
    · exact .inr (.inr (.inl rfl))
    · exact .inr (.inr (.inr (.inl rfl)))
    · exact .inr (.inr (.inr (.inr (.inl rfl))))
    · exact .inr (.inr (.inr (.inr (.inr rfl))))
  · exact ⟨.inl (.inl ⟨_, ⟨h1, h2, by omega, rfl⟩⟩), h3⟩
theorem bigB_ts {b : Box} (h : BigB b) : TsOk 0 (tkB b) := by
  have l := h.len
  refine ⟨fun t ht => tkOk_X (tkB_tk b h.nb t ht), ?_, ?_⟩
  · have := tkB_len b
    omega
  · have := tkB_op b h.nb
    omega
end
section
variable {P : Program} {w : World} {K : PySem.W.Frag} {mg : Str → Option Value} {base : Heap}
theorem goodV (v : Option (Str × Nat)) : GoodD 1 (encV v) := by
  cases v with
  | none => exact .non
  | some x =>
    obtain ⟨s, p⟩ := x
    refine .tup (by simp) fun y hy => ?_
    rcases List.mem_cons.mp hy with rfl | hy
    · exact .int
    · rw [List.mem_singleton.mp hy]
      exact .str
abbrev slaw : Stmt := topS 40
theorem sclaw : FnScope ["_law_script", "_law_draw_here", "_law_turn", "_law_document_here", "_law_tokens_here", "_law_text_here", "_law_places"] ["_law_script"] (defScope slaw) := ⟨rfl, rfl, rfl, by decide +kernel, rfl, by decide +kernel, by decide +kernel⟩
theorem ok_law {k : Nat} {f : Addr} {fd : FuncData} (F : Fun K "law" "law" slaw f fd) (T : Top mg) (h_law_draw : Has P w K mg base k "_law_draw" ["_law_script"] (spScr K fDraw)) (h_law_next : Has P w K mg base k "_law_next" ["_law_draw_here", "_law_many"] (spD fNext)) (h_law_same : Has P w K mg base k "_law_same" ["_law_actual", "_law_due_here"] (spD (fSame 20))) (h_law_document : Has P w K mg base k "_law_document" ["_law_draw_here"] (spD fDoc)) (h_law_large : Has P w K mg base k "_law_large" ["_law_draw_here"] (spD fLarge))
    (h_law_tokens : Has P w K mg base k "_law_tokens" ["_law_box_here"] (spD (fTokens 8))) (h_law_changed : Has P w K mg base k "_law_changed" ["_law_draw_here", "_law_tokens_here"] (spD fChanged)) (h_law_text : Has P w K mg base k "_law_text" ["_law_draw_here", "_law_tokens_here"] (spD fText)) (h_law_told : Has P w K mg base k "_law_told" ["_law_text_here"] (spD (fTold3 44))) (h_law_due : Has P w K mg base k "_law_due" ["_law_text_here", "_law_tokens_here", "_law_places"] (spD fDue)) :
    FnOk P w K mg base CX0 (k+1) f fd ["_law_script"] (spScr K fun ns C P => ns.length ≤ 63 ∧ C = (fun _ => none) ∧ ∀ C', P (.bl true) C') := by
  refine fn_ofScr F sclaw fun f cdv A outer s H E hr => ⟨_, 
    (pss_cons (ps_nm 1 sclaw.nd (pe_def h_law_draw (hr.mono (by omega)) (pa_cons (pv 0) pa_nil)))
    (pss_cons (ps_for PassesOwn.never rfl (pi_range1 (by rfl) T.range (pa_cons pe_int pa_nil)) (pg_nm 2 sclaw.nd) 
      (pss_cons (ps_nm 3 sclaw.nd (pe_ifExp (pt_cmpR (op_eqK K hr) (pe_def h_law_next (hr.mono (by omega)) (pa_cons (pv 1) (pa_cons pe_int pa_nil))) pe_int (nomark _)) (pe_def h_law_large (hr.mono (by omega)) (pa_cons (pv 1) pa_nil)) (pe_def h_law_document (hr.mono (by omega)) (pa_cons (pv 1) pa_nil))))
      (pss_cons (ps_nm 4 sclaw.nd (pe_def h_law_changed (hr.mono (by omega)) (pa_cons (pv 1) (pa_cons (pe_def h_law_tokens (hr.mono (by omega)) (pa_cons (pv 3) pa_nil)) pa_nil))))
      (pss_cons (ps_asg (pe_def h_law_text (hr.mono (by omega)) (pa_cons (pv 1) (pa_cons (pv 4) pa_nil))) (pg_tupK K (n := 2) (pgs_cons (pg_nm 5 sclaw.nd) (pgs_cons (pg_nm 6 sclaw.nd) pgs_nil))))
      (pss_one (ps_if (pt_not (pt_truK K (pe_def h_law_same (hr.mono (by omega)) (pa_cons (pe_def h_law_told (hr.mono (by omega)) (pa_cons (pv 5) pa_nil)) (pa_cons (pe_def h_law_due (hr.mono (by omega)) (pa_cons (pv 5) (pa_cons (pv 4) (pa_cons (pv 6) pa_nil)))) pa_nil))))) 
        (pss_one (ps_ret pe_bl)) pss_nil))))))
    (pss_one (ps_ret pe_bl)))), fun B sa ns C P hs ⟨_, hC, q⟩ => ?_⟩
  kwd_rel
  refine w_callScr rfl hs ?_
  intro d c0 hd0 hc0
  kwd_rel
  refine ws_for (fun rest E1 C1 => ∃ x2 x3 x4 x5 x6, E1 = [some (.ref sa), some (.ref d), x2, x3, x4, x5, x6] ∧ IsDraw C1 d) (wi_rng1 ?_) ?_ ?_
  · kwd_rel
    exact ⟨by decide, by decide, none, none, none, none, none, rfl, c0, updC_same, hc0⟩
  · rintro E1 C1 ⟨x2, x3, x4, x5, x6, rfl, hD⟩
    kwd_rel
    exact q _
  rintro x xs E1 C1 ⟨x2, x3, x4, x5, x6, rfl, hD⟩
  refine wg_name (ws_seq (ws_set (W.imp (P := fun x C2 => ∃ b, x = encB b ∧ BigB b ∧ IsDraw C2 d) ?_ ?_)))
  · kwd_rel
    refine next_call (by decide) (by decide) hD (fun v C2 g1 g2 D2 o2 => ?_)
    kwd_rel
    kwd_less
    · kwd_rel
      exact ⟨d, rfl, D2, fun b C3 hb D3 => ⟨b, rfl, hb, D3⟩⟩
    · kwd_rel
      exact ⟨d, rfl, D2, fun b C3 hb D3 o3 => ⟨b, rfl, bigB_doc hb, D3⟩⟩
  rintro x C2 ⟨b, rfl, hb, D2⟩
  have l1 := hb.lev
  have l2 := hb.len
  kwd_rel
  refine ⟨b, l1, hb.nb, by omega, rfl, ?_⟩
  kwd_rel
  refine ⟨d, tkB b, rfl, D2, bigB_ts hb, fun ts C3 hts D3 => ?_⟩
  kwd_rel
  refine ⟨d, ts, rfl, D3, hts, fun its a C4 hit ca D4 => ?_⟩
  have hlen := hit.len
  have htl := hts.len
  refine wg_tup rfl (wgs_cons (wg_name (wgs_cons (wg_name (wgs_nil ?_)))))
  have hbd : ∀ k, plcAt (toks 0 its) (txts its).length k ≤ 100000 := fun k => by
    have key : ∀ (its : List It) (m : Nat), ∀ t ∈ toks m its, t.1 ≤ m + (txts its).length := by
      intro its
      induction its with
      | nil => intro m t h; cases h
      | cons i r ih =>
        intro m t h
        have e : (txts (i :: r)).length = i.txt.length + (txts r).length := by rw [txts, List.length_append]
        cases i with
        | gap c => have := ih (m + 1) t h; rw [e]; simp [It.txt]; omega
        | sgn c =>
          rcases List.mem_cons.mp h with rfl | h
          · exact Nat.le_add_right _ _
          · have := ih (m + 1) t h; rw [e]; simp [It.txt]; omega
        | dig l =>
          rcases List.mem_cons.mp h with rfl | h
          · exact Nat.le_add_right _ _
          · have := ih (m + l.length) t h; rw [e]; simp [It.txt]; omega
    unfold plcAt
    cases e : (toks 0 its)[k]? with
    | none => show (txts its).length ≤ _; omega
    | some t =>
      have := key its 0 t (List.mem_of_getElem? e)
      show t.1 ≤ _
      omega
  kwd_rel
  refine ⟨its, _, rfl, hit.ok, hit.dl, hit.sep, by omega, vd_due hit hts, fun s p e => due_bound hbd e, fun C5 s5 => ?_⟩
  kwd_rel
  refine ⟨toks 0 its, txts its, a, by rw [hit.tx], s5 _ _ ca, fun t ht => hts.ok t.2 ?_, ?_, by omega, fun C6 s6 => ?_⟩
  · have : t.2 ∈ txsOf (toks 0 its) := List.mem_map.mpr ⟨t, ht, rfl⟩
    rw [hit.tx] at this
    exact this
  · have : (txsOf (toks 0 its)).length = (toks 0 its).length := List.length_map ..
    rw [hit.tx] at this
    omega
  kwd_rel
  refine ⟨_, 1, by decide, goodV _, rfl, ?_⟩
  kwd_rel
  kwd_less
  kwd_rel
  obtain ⟨c, h1, h2⟩ := D4
  exact ⟨_, _, _, _, _, rfl, c, s6 _ _ (s5 _ _ h1), h2⟩
end
theorem chain {P : Program} {w : World} {K : PySem.W.Frag} {mg : Str → Option Value} {base : Heap} (T : Top mg) (TK : TopK K mg) (TX : TopX K mg) (D_TextError_init : EiniAt K mg "TextError" "TextError.__init__" sTextError_init ["self", "place", "message"])
    (D_parts_of : DefAt K mg "parts_of" sparts_of ["box"])
    (D_all_boxes : DefAt K mg "all_boxes" sall_boxes ["document"])
    (D_depth_of : DefAt K mg "depth_of" sdepth_of ["box"])
    (D_behind_run : DefAt K mg "behind_run" sbehind_run ["text", "place", "characters"])
    (D_cut : DefAt K mg "cut" scut ["text"])
    (D_Reader_init : IniAt K mg "Reader" "Reader.__init__" sReader_init ["self", "text"])
    (D_Reader_token : MetAt K mg "Reader" "token" "Reader.token" sReader_token ["self"])
    (D_Reader_place : MetAt K mg "Reader" "place" "Reader.place" sReader_place ["self"])
    (D_Reader_refuse : MetAt K mg "Reader" "refuse" "Reader.refuse" sReader_refuse ["self"])
    (D_Reader_need : MetAt K mg "Reader" "need" "Reader.need" sReader_need ["self", "token"])
    (D_Reader_number : MetAt K mg "Reader" "number" "Reader.number" sReader_number ["self", "least", "most"])
    (D_read_head : DefAt K mg "read_head" sread_head ["reader"])
    (D_read_box : DefAt K mg "read_box" sread_box ["reader"])
    (D_place_of_double : DefAt K mg "place_of_double" splace_of_double ["numbers"])
    (D_parse_document : DefAt K mg "parse_document" sparse_document ["text"])
    (D_law_draw : DefAt K mg "_law_draw" slaw_draw ["_law_script"])
    (D_law_next : DefAt K mg "_law_next" slaw_next ["_law_draw_here", "_law_many"])
    (D_law_same : DefAt K mg "_law_same" slaw_same ["_law_actual", "_law_due_here"])
    (D_law_box : DefAt K mg "_law_box" slaw_box ["_law_draw_here", "_law_last", "_law_depth"])
    (D_law_document : DefAt K mg "_law_document" slaw_document ["_law_draw_here"])
    (D_law_tokens : DefAt K mg "_law_tokens" slaw_tokens ["_law_box_here"])
    (D_law_changed : DefAt K mg "_law_changed" slaw_changed ["_law_draw_here", "_law_tokens_here"])
    (D_law_text : DefAt K mg "_law_text" slaw_text ["_law_draw_here", "_law_tokens_here"])
    (D_law_wrong_at : DefAt K mg "_law_wrong_at" slaw_wrong_at ["_law_tokens_here"])
    (D_law_due : DefAt K mg "_law_due" slaw_due ["_law_text_here", "_law_tokens_here", "_law_places"])
    (D_law_told : DefAt K mg "_law_told" slaw_told ["_law_text_here"])
    (D_law_large : DefAt K mg "_law_large" slaw_large ["_law_draw_here"])
    {f : Addr} {fd : FuncData} (F : Fun K "law" "law" slaw f fd) :
    FnOk P w K mg base CX0 60 f fd ["_law_script"] (spScr K fun ns C P => ns.length ≤ 63 ∧ C = (fun _ => none) ∧ ∀ C', P (.bl true) C') := by
  have h_TextError := ok_TextError_init (P := P) (w := w) (base := base) (k := 0) D_TextError_init T TX
  have h_parts_of := ok_parts_of (P := P) (w := w) (base := base) D_parts_of T
  have h_all_boxes := ok_all_boxes D_all_boxes T h_parts_of 44
  have h_depth_of := ok_depth_of (P := P) (w := w) (base := base) D_depth_of T 44
  have h_behind_run := ok_behind_run (P := P) (w := w) (base := base) (k := 0) D_behind_run T
  have h_cut := ok_cut (k := 1) D_cut T TX (h_TextError.mono (by decide)) (h_behind_run.mono (by decide))
  have h_Reader := ok_Reader_init D_Reader_init T TK h_cut
  have h_Reader_token := ok_Reader_token (P := P) (w := w) (base := base) (k := 0) D_Reader_token T TK
  have h_Reader_place := ok_Reader_place (P := P) (w := w) (base := base) (k := 0) D_Reader_place T TK
  have h_Reader_refuse := ok_Reader_refuse (k := 1) D_Reader_refuse T TK TX (h_TextError.mono (by decide)) (h_Reader_token.mono (by decide)) (h_Reader_place.mono (by decide))
  have h_Reader_need := ok_Reader_need (k := 4) D_Reader_need T TK (h_Reader_token.mono (by decide)) (h_Reader_refuse.mono (by decide))
  have h_Reader_number := ok_Reader_number (k := 4) D_Reader_number T TK (h_Reader_token.mono (by decide)) (h_Reader_place.mono (by decide)) (h_Reader_refuse.mono (by decide))
  have h_read_head := ok_read_head (k := 6) D_read_head T TK (h_Reader_place.mono (by decide)) (h_Reader_number.mono (by decide)) (h_Reader_need.mono (by decide))
  have h_read_box := ok_read_box D_read_box T TK (h_Reader_token.mono (by decide)) (h_Reader_need.mono (by decide)) (h_read_head.mono (by decide)) 44
  have h_place_of_double := ok_place_of_double (P := P) (w := w) (base := base) (k := 0) D_place_of_double T
  have h_parse_document := ok_parse_document (k := 55) (N := 44) (by decide) D_parse_document T TK TX (h_TextError.mono (by decide)) (h_Reader.mono (by decide)) (h_Reader_token.mono (by decide)) (h_Reader_place.mono (by decide)) (h_Reader_refuse.mono (by decide)) (h_read_box.mono (by decide)) (h_place_of_double.mono (by decide)) (h_all_boxes.mono (by decide)) (h_depth_of.mono (by decide))
  have h_law_draw := ok_law_draw (P := P) (w := w) (base := base) D_law_draw T
  have h_law_next := ok_law_next (P := P) (w := w) (base := base) D_law_next T
  have h_law_same := ok_law_same (P := P) (w := w) (base := base) D_law_same T 20
  have h_law_box := ok_law_box D_law_box T h_law_next 3
  have h_law_document := ok_law_document D_law_document T (h_law_next.mono (by decide)) h_law_box
  have h_law_tokens := ok_law_tokens (P := P) (w := w) (base := base) D_law_tokens T 8
  have h_law_large := ok_law_large (k := 12) D_law_large T (h_law_next.mono (by decide))
  have h_law_changed := ok_law_changed (k := 12) D_law_changed T (h_law_next.mono (by decide))
  have h_law_text := ok_law_text (k := 12) D_law_text T (h_law_next.mono (by decide))
  have h_law_wrong_at := ok_law_wrong_at (P := P) (w := w) (base := base) (k := 0) D_law_wrong_at T
  have h_law_due := ok_law_due (k := 12) D_law_due T (h_law_wrong_at.mono (by decide))
  have h_law_told := ok_law_told (k := 57) D_law_told T TX h_parse_document
  exact ok_law F T (h_law_draw.mono (by decide)) (h_law_next.mono (by decide)) (h_law_same.mono (by decide)) (h_law_document.mono (by decide)) (h_law_large.mono (by decide)) (h_law_tokens.mono (by decide)) (h_law_changed.mono (by decide)) (h_law_text.mono (by decide)) (h_law_told.mono (by decide)) (h_law_due.mono (by decide))
/-! ### the top, the end -/
theorem all_mk {l : PySem.W.OpenLaw} {w : World} {K : PySem.W.Frag} {h : Heap} {mg : Str → Option Value} {fa f1 f2 f3 f4 f5 f6 f7 f8 f9 f10 f11 f12 f13 f14 f15 f16 f17 f18 f19 f20 f21 f22 f23 f24 f25 f26 f27 f28 f29 : Addr} (X : K.In h) (G : h.Ns mainGlobals mg) (hfa : mg "law" = some (.ref fa))
    {od1 an1 od2 an2 od3 an3 od4 an4 od5 an5 od6 an6 od7 an7 od8 an8 od9 an9 od10 an10 od11 an11 od12 an12 od13 an13 od14 an14 od15 an15 od16 an16 od17 an17 od18 an18 od19 an19 od20 an20 od21 an21 od22 an22 od23 an23 od24 an24 od25 an25 od26 an26 od27 an27 od28 an28 od29 an29 : Option Addr} {sl1 sl2 sl3 sl4 sl5 sl6 sl7 sl8 sl9 sl10 sl11 sl12 sl13 sl14 sl15 sl16 sl17 sl18 sl19 sl20 sl21 sl22 sl23 sl24 sl25 sl26 sl27 sl28 sl29 : Array (Option Value)} {oc1 kV1 dc1 pm1 cd1 ct1 oc2 kV2 dc2 pm2 cd2 ct2 oc3 kV3 dc3 pm3 cd3 ct3 oc4 kV4 dc4 pm4 cd4 ct4 oc5 kV5 dc5 pm5 cd5 ct5 oc6 kV6 dc6 pm6 cd6 ct6 oc7 kV7 dc7 pm7 cd7 ct7 oc8 kV8 dc8 pm8 cd8 ct8 oc9 kV9 dc9 pm9 cd9 ct9 oc10 kV10 dc10 pm10 cd10 ct10 oc11 kV11 dc11 pm11 cd11 ct11 oc12 kV12 dc12 pm12 cd12 ct12 oc13 kV13 dc13 pm13 cd13 ct13 oc14 kV14 dc14 pm14 cd14 ct14 oc15 kV15 dc15 pm15 cd15 ct15 oc16 kV16 dc16 pm16 cd16 ct16 oc17 kV17 dc17 pm17 cd17 ct17 oc18 kV18 dc18 pm18 cd18 ct18 oc19 kV19 dc19 pm19 cd19 ct19 oc20 kV20 dc20 pm20 cd20 ct20 oc21 kV21 dc21 pm21 cd21 ct21 oc22 kV22 dc22 pm22 cd22 ct22 oc23 kV23 dc23 pm23 cd23 ct23 oc24 kV24 dc24 pm24 cd24 ct24 oc25 kV25 dc25 pm25 cd25 ct25 oc26 kV26 dc26 pm26 cd26 ct26 oc27 kV27 dc27 pm27 cd27 ct27 oc28 kV28 dc28 pm28 cd28 ct28 oc29 kV29 dc29 pm29 cd29 ct29 : Value}
    {C_T : Addr} (aC_T : PySem.W.nsIn K mainGlobals "TextError" = some (some (.ref C_T)))
    {x1 x2 : Str} {x3 : Addr} {x4 x5 : List Value} {x6 : List Str} {x7 : List Value} {x8 : Bool} {x9 : Option Bool} {xa : Option Addr} {xb xc xd xe xf : Option Value} (lk_T : K.lookup C_T = some (PySem.excClassObj x1 x2 C_T x3 x4 x5 true x6 x7 x8 x9 xa xb xc xd xe xf "ValueError.__new__")) (rv_T : PySem.HandSPX.refsVE x5 = true)
    (sa_T : PySem.W.findIn K (.ref C_T) "__setattr__" = some (some (.builtin "object.__setattr__")))
    (sC_T : PySem.W.subIn K (.ref C_T) (.type "BaseException") = some true)
    (tC_T : PySem.W.typeIn K (.ref C_T) = some (.type "type"))
    (kC_T : PySem.W.keepIn K (.ref C_T) = true)
    (dC_T : PySem.W.hasDictIn K C_T = true)
    (np_T : PySem.W.findIn K (.ref C_T) "place" = some none)
    (nm_T : PySem.W.findIn K (.ref C_T) "message" = some none)
    (ga_T : PySem.W.findIn K (.ref C_T) "__getattribute__" = some (some (.builtin "BaseException.__getattribute__")))
    (gg_T : PySem.W.findIn K (.ref C_T) "__getattr__" = some none)
    (ha_T : PySem.W.findIn K (.ref C_T) "__class__" = some (some (.builtin "object.__class__")))
    (hm_T : PySem.W.mroIn K C_T (.type "object") = some true)
    (m_TT : PySem.W.subIn K (.ref C_T) (.ref C_T) = some true)
    (xn : PySem.W.specialIn K (.builtin "object.__class__") "__get__" = some (some (.builtin "getset_descriptor.__get__")))
    (xt : PySem.W.takesIn K (.builtin "object.__class__") = some true)
    (st_T : PySem.W.findIn K (.ref C_T) "__str__" = some (some (.builtin "BaseException.__str__")))
    {C_F : Addr} (aC_F : PySem.W.nsIn K mainGlobals "FrameError" = some (some (.ref C_F))) (sg_F : PySem.W.specialIn K (.ref C_F) "__getattribute__" = some (some (.builtin "type.__getattribute__"))) (tC_F : PySem.W.typeIn K (.ref C_F) = some (.type "type")) (rd_F : PySem.W.readsIn K C_F (.type "type") = true) (fi_F : PySem.W.findCls K (.ref C_F) (.type "type") "__init__" = some (.val (.builtin "ValueError.__init__"))) (ki_T : PySem.W.kitOne K (.ref C_T) (.ref C_F) = some true)
    {C_Reader : Addr} (aC_Reader : PySem.W.nsIn K mainGlobals "Reader" = some (some (.ref C_Reader))) (pg_Reader : PySem.W.plainGet K C_Reader Str.empty = true) (hd_Reader : PySem.W.hasDictIn K C_Reader = true) (po_Reader : PySem.W.plainOver K C_Reader = true) (sa_Reader : PySem.W.findIn K (.ref C_Reader) "__setattr__" = some (some (.builtin "object.__setattr__"))) (mk_Reader : PySem.W.makesIn K C_Reader = true) (kc_Reader : PySem.W.keepIn K (.ref C_Reader) = true)
    (nf_Reader_tokens : PySem.W.findIn K (.ref C_Reader) "tokens" = some none)
    (nf_Reader_length : PySem.W.findIn K (.ref C_Reader) "length" = some none)
    (nf_Reader_at : PySem.W.findIn K (.ref C_Reader) "at" = some none)
    (nf_Reader_wrong : PySem.W.findIn K (.ref C_Reader) "wrong" = some none)
    (nf_Reader_numbers : PySem.W.findIn K (.ref C_Reader) "numbers" = some none)
    (a1 : PySem.W.findIn K (.ref C_T) "__init__" = some (some (.ref f1))) (i1 : PySem.W.typeIn K (.ref f1) = some (.type "function")) (l1 : K.lookup f1 = some ⟨oc1, od1, .func (PySem.W.fnOf "__init__" "TextError.__init__" (defArgs sTextError_init) (defBody sTextError_init) (defScope sTextError_init) .none kV1 dc1 pm1 an1 cd1 ct1), sl1⟩) (c1 : PySem.W.codeIn K cd1 "TextError.__init__" = true) (k1 : PySem.W.keepIn K (.ref f1) = true)
    (a2 : PySem.W.nsIn K mainGlobals "parts_of" = some (some (.ref f2))) (l2 : K.lookup f2 = some ⟨oc2, od2, .func (PySem.W.fnOf "parts_of" "parts_of" (defArgs sparts_of) (defBody sparts_of) (defScope sparts_of) .none kV2 dc2 pm2 an2 cd2 ct2), sl2⟩) (c2 : PySem.W.codeIn K cd2 "parts_of" = true) (k2 : PySem.W.keepIn K (.ref f2) = true)
    (a3 : PySem.W.nsIn K mainGlobals "all_boxes" = some (some (.ref f3))) (l3 : K.lookup f3 = some ⟨oc3, od3, .func (PySem.W.fnOf "all_boxes" "all_boxes" (defArgs sall_boxes) (defBody sall_boxes) (defScope sall_boxes) .none kV3 dc3 pm3 an3 cd3 ct3), sl3⟩) (c3 : PySem.W.codeIn K cd3 "all_boxes" = true) (k3 : PySem.W.keepIn K (.ref f3) = true)
    (a4 : PySem.W.nsIn K mainGlobals "depth_of" = some (some (.ref f4))) (l4 : K.lookup f4 = some ⟨oc4, od4, .func (PySem.W.fnOf "depth_of" "depth_of" (defArgs sdepth_of) (defBody sdepth_of) (defScope sdepth_of) .none kV4 dc4 pm4 an4 cd4 ct4), sl4⟩) (c4 : PySem.W.codeIn K cd4 "depth_of" = true) (k4 : PySem.W.keepIn K (.ref f4) = true)
    (a5 : PySem.W.nsIn K mainGlobals "behind_run" = some (some (.ref f5))) (l5 : K.lookup f5 = some ⟨oc5, od5, .func (PySem.W.fnOf "behind_run" "behind_run" (defArgs sbehind_run) (defBody sbehind_run) (defScope sbehind_run) .none kV5 dc5 pm5 an5 cd5 ct5), sl5⟩) (c5 : PySem.W.codeIn K cd5 "behind_run" = true) (k5 : PySem.W.keepIn K (.ref f5) = true)
    (a6 : PySem.W.nsIn K mainGlobals "cut" = some (some (.ref f6))) (l6 : K.lookup f6 = some ⟨oc6, od6, .func (PySem.W.fnOf "cut" "cut" (defArgs scut) (defBody scut) (defScope scut) .none kV6 dc6 pm6 an6 cd6 ct6), sl6⟩) (c6 : PySem.W.codeIn K cd6 "cut" = true) (k6 : PySem.W.keepIn K (.ref f6) = true)
    (a7 : PySem.W.findIn K (.ref C_Reader) "__init__" = some (some (.ref f7))) (i7 : PySem.W.isFn K (.ref f7) = true) (l7 : K.lookup f7 = some ⟨oc7, od7, .func (PySem.W.fnOf "__init__" "Reader.__init__" (defArgs sReader_init) (defBody sReader_init) (defScope sReader_init) .none kV7 dc7 pm7 an7 cd7 ct7), sl7⟩) (c7 : PySem.W.codeIn K cd7 "Reader.__init__" = true) (k7 : PySem.W.keepIn K (.ref f7) = true)
    (a8 : PySem.W.findIn K (.ref C_Reader) "token" = some (some (.ref f8))) (i8 : PySem.W.isFn K (.ref f8) = true) (l8 : K.lookup f8 = some ⟨oc8, od8, .func (PySem.W.fnOf "token" "Reader.token" (defArgs sReader_token) (defBody sReader_token) (defScope sReader_token) .none kV8 dc8 pm8 an8 cd8 ct8), sl8⟩) (c8 : PySem.W.codeIn K cd8 "Reader.token" = true) (k8 : PySem.W.keepIn K (.ref f8) = true)
    (a9 : PySem.W.findIn K (.ref C_Reader) "place" = some (some (.ref f9))) (i9 : PySem.W.isFn K (.ref f9) = true) (l9 : K.lookup f9 = some ⟨oc9, od9, .func (PySem.W.fnOf "place" "Reader.place" (defArgs sReader_place) (defBody sReader_place) (defScope sReader_place) .none kV9 dc9 pm9 an9 cd9 ct9), sl9⟩) (c9 : PySem.W.codeIn K cd9 "Reader.place" = true) (k9 : PySem.W.keepIn K (.ref f9) = true)
    (a10 : PySem.W.findIn K (.ref C_Reader) "refuse" = some (some (.ref f10))) (i10 : PySem.W.isFn K (.ref f10) = true) (l10 : K.lookup f10 = some ⟨oc10, od10, .func (PySem.W.fnOf "refuse" "Reader.refuse" (defArgs sReader_refuse) (defBody sReader_refuse) (defScope sReader_refuse) .none kV10 dc10 pm10 an10 cd10 ct10), sl10⟩) (c10 : PySem.W.codeIn K cd10 "Reader.refuse" = true) (k10 : PySem.W.keepIn K (.ref f10) = true)
    (a11 : PySem.W.findIn K (.ref C_Reader) "need" = some (some (.ref f11))) (i11 : PySem.W.isFn K (.ref f11) = true) (l11 : K.lookup f11 = some ⟨oc11, od11, .func (PySem.W.fnOf "need" "Reader.need" (defArgs sReader_need) (defBody sReader_need) (defScope sReader_need) .none kV11 dc11 pm11 an11 cd11 ct11), sl11⟩) (c11 : PySem.W.codeIn K cd11 "Reader.need" = true) (k11 : PySem.W.keepIn K (.ref f11) = true)
    (a12 : PySem.W.findIn K (.ref C_Reader) "number" = some (some (.ref f12))) (i12 : PySem.W.isFn K (.ref f12) = true) (l12 : K.lookup f12 = some ⟨oc12, od12, .func (PySem.W.fnOf "number" "Reader.number" (defArgs sReader_number) (defBody sReader_number) (defScope sReader_number) .none kV12 dc12 pm12 an12 cd12 ct12), sl12⟩) (c12 : PySem.W.codeIn K cd12 "Reader.number" = true) (k12 : PySem.W.keepIn K (.ref f12) = true)
    (a13 : PySem.W.nsIn K mainGlobals "read_head" = some (some (.ref f13))) (l13 : K.lookup f13 = some ⟨oc13, od13, .func (PySem.W.fnOf "read_head" "read_head" (defArgs sread_head) (defBody sread_head) (defScope sread_head) .none kV13 dc13 pm13 an13 cd13 ct13), sl13⟩) (c13 : PySem.W.codeIn K cd13 "read_head" = true) (k13 : PySem.W.keepIn K (.ref f13) = true)
    (a14 : PySem.W.nsIn K mainGlobals "read_box" = some (some (.ref f14))) (l14 : K.lookup f14 = some ⟨oc14, od14, .func (PySem.W.fnOf "read_box" "read_box" (defArgs sread_box) (defBody sread_box) (defScope sread_box) .none kV14 dc14 pm14 an14 cd14 ct14), sl14⟩) (c14 : PySem.W.codeIn K cd14 "read_box" = true) (k14 : PySem.W.keepIn K (.ref f14) = true)
    (a15 : PySem.W.nsIn K mainGlobals "place_of_double" = some (some (.ref f15))) (l15 : K.lookup f15 = some ⟨oc15, od15, .func (PySem.W.fnOf "place_of_double" "place_of_double" (defArgs splace_of_double) (defBody splace_of_double) (defScope splace_of_double) .none kV15 dc15 pm15 an15 cd15 ct15), sl15⟩) (c15 : PySem.W.codeIn K cd15 "place_of_double" = true) (k15 : PySem.W.keepIn K (.ref f15) = true)
    (a16 : PySem.W.nsIn K mainGlobals "parse_document" = some (some (.ref f16))) (l16 : K.lookup f16 = some ⟨oc16, od16, .func (PySem.W.fnOf "parse_document" "parse_document" (defArgs sparse_document) (defBody sparse_document) (defScope sparse_document) .none kV16 dc16 pm16 an16 cd16 ct16), sl16⟩) (c16 : PySem.W.codeIn K cd16 "parse_document" = true) (k16 : PySem.W.keepIn K (.ref f16) = true)
    (a17 : PySem.W.nsIn K mainGlobals "_law_draw" = some (some (.ref f17))) (l17 : K.lookup f17 = some ⟨oc17, od17, .func (PySem.W.fnOf "_law_draw" "_law_draw" (defArgs slaw_draw) (defBody slaw_draw) (defScope slaw_draw) .none kV17 dc17 pm17 an17 cd17 ct17), sl17⟩) (c17 : PySem.W.codeIn K cd17 "_law_draw" = true) (k17 : PySem.W.keepIn K (.ref f17) = true)
    (a18 : PySem.W.nsIn K mainGlobals "_law_next" = some (some (.ref f18))) (l18 : K.lookup f18 = some ⟨oc18, od18, .func (PySem.W.fnOf "_law_next" "_law_next" (defArgs slaw_next) (defBody slaw_next) (defScope slaw_next) .none kV18 dc18 pm18 an18 cd18 ct18), sl18⟩) (c18 : PySem.W.codeIn K cd18 "_law_next" = true) (k18 : PySem.W.keepIn K (.ref f18) = true)
    (a19 : PySem.W.nsIn K mainGlobals "_law_same" = some (some (.ref f19))) (l19 : K.lookup f19 = some ⟨oc19, od19, .func (PySem.W.fnOf "_law_same" "_law_same" (defArgs slaw_same) (defBody slaw_same) (defScope slaw_same) .none kV19 dc19 pm19 an19 cd19 ct19), sl19⟩) (c19 : PySem.W.codeIn K cd19 "_law_same" = true) (k19 : PySem.W.keepIn K (.ref f19) = true)
    (a20 : PySem.W.nsIn K mainGlobals "_law_box" = some (some (.ref f20))) (l20 : K.lookup f20 = some ⟨oc20, od20, .func (PySem.W.fnOf "_law_box" "_law_box" (defArgs slaw_box) (defBody slaw_box) (defScope slaw_box) .none kV20 dc20 pm20 an20 cd20 ct20), sl20⟩) (c20 : PySem.W.codeIn K cd20 "_law_box" = true) (k20 : PySem.W.keepIn K (.ref f20) = true)
    (a21 : PySem.W.nsIn K mainGlobals "_law_document" = some (some (.ref f21))) (l21 : K.lookup f21 = some ⟨oc21, od21, .func (PySem.W.fnOf "_law_document" "_law_document" (defArgs slaw_document) (defBody slaw_document) (defScope slaw_document) .none kV21 dc21 pm21 an21 cd21 ct21), sl21⟩) (c21 : PySem.W.codeIn K cd21 "_law_document" = true) (k21 : PySem.W.keepIn K (.ref f21) = true)
    (a22 : PySem.W.nsIn K mainGlobals "_law_tokens" = some (some (.ref f22))) (l22 : K.lookup f22 = some ⟨oc22, od22, .func (PySem.W.fnOf "_law_tokens" "_law_tokens" (defArgs slaw_tokens) (defBody slaw_tokens) (defScope slaw_tokens) .none kV22 dc22 pm22 an22 cd22 ct22), sl22⟩) (c22 : PySem.W.codeIn K cd22 "_law_tokens" = true) (k22 : PySem.W.keepIn K (.ref f22) = true)
    (a23 : PySem.W.nsIn K mainGlobals "_law_changed" = some (some (.ref f23))) (l23 : K.lookup f23 = some ⟨oc23, od23, .func (PySem.W.fnOf "_law_changed" "_law_changed" (defArgs slaw_changed) (defBody slaw_changed) (defScope slaw_changed) .none kV23 dc23 pm23 an23 cd23 ct23), sl23⟩) (c23 : PySem.W.codeIn K cd23 "_law_changed" = true) (k23 : PySem.W.keepIn K (.ref f23) = true)
    (a24 : PySem.W.nsIn K mainGlobals "_law_text" = some (some (.ref f24))) (l24 : K.lookup f24 = some ⟨oc24, od24, .func (PySem.W.fnOf "_law_text" "_law_text" (defArgs slaw_text) (defBody slaw_text) (defScope slaw_text) .none kV24 dc24 pm24 an24 cd24 ct24), sl24⟩) (c24 : PySem.W.codeIn K cd24 "_law_text" = true) (k24 : PySem.W.keepIn K (.ref f24) = true)
    (a25 : PySem.W.nsIn K mainGlobals "_law_wrong_at" = some (some (.ref f25))) (l25 : K.lookup f25 = some ⟨oc25, od25, .func (PySem.W.fnOf "_law_wrong_at" "_law_wrong_at" (defArgs slaw_wrong_at) (defBody slaw_wrong_at) (defScope slaw_wrong_at) .none kV25 dc25 pm25 an25 cd25 ct25), sl25⟩) (c25 : PySem.W.codeIn K cd25 "_law_wrong_at" = true) (k25 : PySem.W.keepIn K (.ref f25) = true)
    (a26 : PySem.W.nsIn K mainGlobals "_law_due" = some (some (.ref f26))) (l26 : K.lookup f26 = some ⟨oc26, od26, .func (PySem.W.fnOf "_law_due" "_law_due" (defArgs slaw_due) (defBody slaw_due) (defScope slaw_due) .none kV26 dc26 pm26 an26 cd26 ct26), sl26⟩) (c26 : PySem.W.codeIn K cd26 "_law_due" = true) (k26 : PySem.W.keepIn K (.ref f26) = true)
    (a27 : PySem.W.nsIn K mainGlobals "_law_told" = some (some (.ref f27))) (l27 : K.lookup f27 = some ⟨oc27, od27, .func (PySem.W.fnOf "_law_told" "_law_told" (defArgs slaw_told) (defBody slaw_told) (defScope slaw_told) .none kV27 dc27 pm27 an27 cd27 ct27), sl27⟩) (c27 : PySem.W.codeIn K cd27 "_law_told" = true) (k27 : PySem.W.keepIn K (.ref f27) = true)
    (a28 : PySem.W.nsIn K mainGlobals "_law_large" = some (some (.ref f28))) (l28 : K.lookup f28 = some ⟨oc28, od28, .func (PySem.W.fnOf "_law_large" "_law_large" (defArgs slaw_large) (defBody slaw_large) (defScope slaw_large) .none kV28 dc28 pm28 an28 cd28 ct28), sl28⟩) (c28 : PySem.W.codeIn K cd28 "_law_large" = true) (k28 : PySem.W.keepIn K (.ref f28) = true)
    (a29 : PySem.W.nsIn K mainGlobals "law" = some (some (.ref f29))) (l29 : K.lookup f29 = some ⟨oc29, od29, .func (PySem.W.fnOf "law" "law" (defArgs slaw) (defBody slaw) (defScope slaw) .none kV29 dc29 pm29 an29 cd29 ct29), sl29⟩) (c29 : PySem.W.codeIn K cd29 "law" = true) (k29 : PySem.W.keepIn K (.ref f29) = true)
    {t_MOST_BOXES : Tok} (g_MOST_BOXES : PySem.W.nsIn K mainGlobals "MOST_BOXES" = some (some (.int 40 t_MOST_BOXES)))
    {t_MOST_DEPTH : Tok} (g_MOST_DEPTH : PySem.W.nsIn K mainGlobals "MOST_DEPTH" = some (some (.int 4 t_MOST_DEPTH)))
    {t_MOST_NUMBER : Tok} (g_MOST_NUMBER : PySem.W.nsIn K mainGlobals "MOST_NUMBER" = some (some (.int 999 t_MOST_NUMBER)))
    {t_MOST_HEIGHT : Tok} (g_MOST_HEIGHT : PySem.W.nsIn K mainGlobals "MOST_HEIGHT" = some (some (.int 1000 t_MOST_HEIGHT)))
    {t_DIGITS : Tok} (g_DIGITS : PySem.W.nsIn K mainGlobals "DIGITS" = some (some (.str "0123456789" t_DIGITS)))
    {t_SIGNS : Tok} (g_SIGNS : PySem.W.nsIn K mainGlobals "SIGNS" = some (some (.str ":[]" t_SIGNS)))
    (z_max : PySem.W.nsIn K mainGlobals "max" = some none)
    (z_len : PySem.W.nsIn K mainGlobals "len" = some none)
    (z_tuple : PySem.W.nsIn K mainGlobals "tuple" = some none)
    (z_list : PySem.W.nsIn K mainGlobals "list" = some none)
    (z_abs : PySem.W.nsIn K mainGlobals "abs" = some none)
    (z_int : PySem.W.nsIn K mainGlobals "int" = some none)
    (z_isinstance : PySem.W.nsIn K mainGlobals "isinstance" = some none)
    (z_str : PySem.W.nsIn K mainGlobals "str" = some none)
    (z_all : PySem.W.nsIn K mainGlobals "all" = some none)
    (z_bool : PySem.W.nsIn K mainGlobals "bool" = some none)
    (z_range : PySem.W.nsIn K mainGlobals "range" = some none)
    (z_sum : PySem.W.nsIn K mainGlobals "sum" = some none)
    : ∃ fd : FuncData, (∀ (s : Shared) (v : Value), BindsTo s fd ⟨[v], []⟩ [("_law_script", v)]) ∧ ∀ base : Heap, K.In base → base.Ns mainGlobals mg → FnOk l.prog w K mg base CX0 60 fa fd ["_law_script"] (spLaw K) := by
  have e := hfa.symm.trans (PySem.W.mg_of X G a29)
  cases e
  have T : Top mg := ⟨PySem.W.mg_none_of X G z_max, PySem.W.mg_none_of X G z_len, PySem.W.mg_none_of X G z_tuple, PySem.W.mg_none_of X G z_list, PySem.W.mg_none_of X G z_abs, PySem.W.mg_none_of X G z_int, PySem.W.mg_none_of X G z_isinstance, PySem.W.mg_none_of X G z_str, PySem.W.mg_none_of X G z_all, PySem.W.mg_none_of X G z_bool, PySem.W.mg_none_of X G z_range, PySem.W.mg_none_of X G z_sum, ⟨_, PySem.W.mg_of X G g_MOST_BOXES⟩, ⟨_, PySem.W.mg_of X G g_MOST_DEPTH⟩, ⟨_, PySem.W.mg_of X G g_MOST_NUMBER⟩, ⟨_, PySem.W.mg_of X G g_MOST_HEIGHT⟩, ⟨_, PySem.W.mg_of X G g_DIGITS⟩, ⟨_, PySem.W.mg_of X G g_SIGNS⟩⟩
  have ec_T : clsAd mg "TextError" = C_T := by unfold clsAd; rw [PySem.W.mg_of X G aC_T]
  have ec_F : clsAd mg "FrameError" = C_F := by unfold clsAd; rw [PySem.W.mg_of X G aC_F]
  have ox : OexC K (clsAd mg "TextError") := by rw [ec_T]; exact ⟨⟨_, _, _, _, _, _, _, _, _, _, _, _, _, _, _, lk_T, rv_T⟩, sa_T, sC_T, tC_T, kC_T⟩
  have TX : TopX K mg := ⟨⟨C_T, PySem.W.mg_of X G aC_T⟩, ⟨C_F, PySem.W.mg_of X G aC_F⟩, by rw [ec_F]; exact ⟨sg_F, tC_F, rd_F, fi_F⟩, by rw [ec_T]; exact ⟨ga_T, gg_T, sC_T, dC_T⟩, by rw [ec_T]; exact np_T, by rw [ec_T]; exact nm_T, by rw [ec_T]; exact PySem.W.exm_ref sC_T dC_T tC_T m_TT, by rw [ec_T]; exact ⟨ga_T, gg_T, sC_T, dC_T, ha_T, xn, xt, hm_T⟩, by rw [ec_T, ec_F]; exact ki_T, by rw [ec_T]; exact ⟨st_T, sC_T⟩⟩
  have ec_Reader : clsA mg "Reader" = C_Reader := by unfold clsA; rw [PySem.W.mg_of X G aC_Reader]
  have kk_Reader : ClsOk K mg "Reader" ["tokens", "length", "at", "wrong", "numbers"] := ⟨by rw [ec_Reader]; exact PySem.W.mg_of X G aC_Reader, by rw [ec_Reader]; exact ⟨pg_Reader, hd_Reader, po_Reader, sa_Reader⟩, by rw [ec_Reader]; intro f hf; simp only [List.mem_cons, List.not_mem_nil, or_false] at hf; rcases hf with rfl | rfl | rfl | rfl | rfl <;> exact by first | exact nf_Reader_tokens | exact nf_Reader_length | exact nf_Reader_at | exact nf_Reader_wrong | exact nf_Reader_numbers⟩
  have D1 : EiniAt K mg "TextError" "TextError.__init__" sTextError_init ["self", "place", "message"] := ⟨_, _, ox, by rw [ec_T]; exact a1, i1, fun_mk (st := sTextError_init) l1 c1 k1, by rw [ec_T]; exact PySem.W.mg_of X G aC_T, (fun_mk (st := sTextError_init) l1 c1 k1).binds (ps := ["self", "place", "message"]) (fun _ _ _ _ _ _ us hl => match us, hl with | [_, _, _], _ => rfl), by rw [ec_T]; exact np_T, by rw [ec_T]; exact nm_T⟩
  have D2 : DefAt K mg "parts_of" sparts_of ["box"] := ⟨_, _, fun_mk (st := sparts_of) l2 c2 k2, PySem.W.mg_of X G a2, (fun_mk (st := sparts_of) l2 c2 k2).binds (ps := ["box"]) fun _ _ _ _ _ _ us hl => match us, hl with | [_], _ => rfl⟩
  have D3 : DefAt K mg "all_boxes" sall_boxes ["document"] := ⟨_, _, fun_mk (st := sall_boxes) l3 c3 k3, PySem.W.mg_of X G a3, (fun_mk (st := sall_boxes) l3 c3 k3).binds (ps := ["document"]) fun _ _ _ _ _ _ us hl => match us, hl with | [_], _ => rfl⟩
  have D4 : DefAt K mg "depth_of" sdepth_of ["box"] := ⟨_, _, fun_mk (st := sdepth_of) l4 c4 k4, PySem.W.mg_of X G a4, (fun_mk (st := sdepth_of) l4 c4 k4).binds (ps := ["box"]) fun _ _ _ _ _ _ us hl => match us, hl with | [_], _ => rfl⟩
  have D5 : DefAt K mg "behind_run" sbehind_run ["text", "place", "characters"] := ⟨_, _, fun_mk (st := sbehind_run) l5 c5 k5, PySem.W.mg_of X G a5, (fun_mk (st := sbehind_run) l5 c5 k5).binds (ps := ["text", "place", "characters"]) fun _ _ _ _ _ _ us hl => match us, hl with | [_, _, _], _ => rfl⟩
  have D6 : DefAt K mg "cut" scut ["text"] := ⟨_, _, fun_mk (st := scut) l6 c6 k6, PySem.W.mg_of X G a6, (fun_mk (st := scut) l6 c6 k6).binds (ps := ["text"]) fun _ _ _ _ _ _ us hl => match us, hl with | [_], _ => rfl⟩
  have D7 : IniAt K mg "Reader" "Reader.__init__" sReader_init ["self", "text"] := ⟨_, _, fun_mk (st := sReader_init) l7 c7 k7, ⟨by rw [ec_Reader]; exact mk_Reader, by rw [ec_Reader]; exact a7, i7, by rw [ec_Reader]; exact kc_Reader⟩, (fun_mk (st := sReader_init) l7 c7 k7).binds (ps := ["self", "text"]) fun _ _ _ _ _ _ us hl => match us, hl with | [_, _], _ => rfl⟩
  have D8 : MetAt K mg "Reader" "token" "Reader.token" sReader_token ["self"] := ⟨_, _, fun_mk (st := sReader_token) l8 c8 k8, ⟨by rw [ec_Reader]; exact a8, i8, k8⟩, (fun_mk (st := sReader_token) l8 c8 k8).binds (ps := ["self"]) fun _ _ _ _ _ _ us hl => match us, hl with | [_], _ => rfl⟩
  have D9 : MetAt K mg "Reader" "place" "Reader.place" sReader_place ["self"] := ⟨_, _, fun_mk (st := sReader_place) l9 c9 k9, ⟨by rw [ec_Reader]; exact a9, i9, k9⟩, (fun_mk (st := sReader_place) l9 c9 k9).binds (ps := ["self"]) fun _ _ _ _ _ _ us hl => match us, hl with | [_], _ => rfl⟩
  have D10 : MetAt K mg "Reader" "refuse" "Reader.refuse" sReader_refuse ["self"] := ⟨_, _, fun_mk (st := sReader_refuse) l10 c10 k10, ⟨by rw [ec_Reader]; exact a10, i10, k10⟩, (fun_mk (st := sReader_refuse) l10 c10 k10).binds (ps := ["self"]) fun _ _ _ _ _ _ us hl => match us, hl with | [_], _ => rfl⟩
  have D11 : MetAt K mg "Reader" "need" "Reader.need" sReader_need ["self", "token"] := ⟨_, _, fun_mk (st := sReader_need) l11 c11 k11, ⟨by rw [ec_Reader]; exact a11, i11, k11⟩, (fun_mk (st := sReader_need) l11 c11 k11).binds (ps := ["self", "token"]) fun _ _ _ _ _ _ us hl => match us, hl with | [_, _], _ => rfl⟩
  have D12 : MetAt K mg "Reader" "number" "Reader.number" sReader_number ["self", "least", "most"] := ⟨_, _, fun_mk (st := sReader_number) l12 c12 k12, ⟨by rw [ec_Reader]; exact a12, i12, k12⟩, (fun_mk (st := sReader_number) l12 c12 k12).binds (ps := ["self", "least", "most"]) fun _ _ _ _ _ _ us hl => match us, hl with | [_, _, _], _ => rfl⟩
  have D13 : DefAt K mg "read_head" sread_head ["reader"] := ⟨_, _, fun_mk (st := sread_head) l13 c13 k13, PySem.W.mg_of X G a13, (fun_mk (st := sread_head) l13 c13 k13).binds (ps := ["reader"]) fun _ _ _ _ _ _ us hl => match us, hl with | [_], _ => rfl⟩
  have D14 : DefAt K mg "read_box" sread_box ["reader"] := ⟨_, _, fun_mk (st := sread_box) l14 c14 k14, PySem.W.mg_of X G a14, (fun_mk (st := sread_box) l14 c14 k14).binds (ps := ["reader"]) fun _ _ _ _ _ _ us hl => match us, hl with | [_], _ => rfl⟩
  have D15 : DefAt K mg "place_of_double" splace_of_double ["numbers"] := ⟨_, _, fun_mk (st := splace_of_double) l15 c15 k15, PySem.W.mg_of X G a15, (fun_mk (st := splace_of_double) l15 c15 k15).binds (ps := ["numbers"]) fun _ _ _ _ _ _ us hl => match us, hl with | [_], _ => rfl⟩
  have D16 : DefAt K mg "parse_document" sparse_document ["text"] := ⟨_, _, fun_mk (st := sparse_document) l16 c16 k16, PySem.W.mg_of X G a16, (fun_mk (st := sparse_document) l16 c16 k16).binds (ps := ["text"]) fun _ _ _ _ _ _ us hl => match us, hl with | [_], _ => rfl⟩
  have D17 : DefAt K mg "_law_draw" slaw_draw ["_law_script"] := ⟨_, _, fun_mk (st := slaw_draw) l17 c17 k17, PySem.W.mg_of X G a17, (fun_mk (st := slaw_draw) l17 c17 k17).binds (ps := ["_law_script"]) fun _ _ _ _ _ _ us hl => match us, hl with | [_], _ => rfl⟩
  have D18 : DefAt K mg "_law_next" slaw_next ["_law_draw_here", "_law_many"] := ⟨_, _, fun_mk (st := slaw_next) l18 c18 k18, PySem.W.mg_of X G a18, (fun_mk (st := slaw_next) l18 c18 k18).binds (ps := ["_law_draw_here", "_law_many"]) fun _ _ _ _ _ _ us hl => match us, hl with | [_, _], _ => rfl⟩
  have D19 : DefAt K mg "_law_same" slaw_same ["_law_actual", "_law_due_here"] := ⟨_, _, fun_mk (st := slaw_same) l19 c19 k19, PySem.W.mg_of X G a19, (fun_mk (st := slaw_same) l19 c19 k19).binds (ps := ["_law_actual", "_law_due_here"]) fun _ _ _ _ _ _ us hl => match us, hl with | [_, _], _ => rfl⟩
  have D20 : DefAt K mg "_law_box" slaw_box ["_law_draw_here", "_law_last", "_law_depth"] := ⟨_, _, fun_mk (st := slaw_box) l20 c20 k20, PySem.W.mg_of X G a20, (fun_mk (st := slaw_box) l20 c20 k20).binds (ps := ["_law_draw_here", "_law_last", "_law_depth"]) fun _ _ _ _ _ _ us hl => match us, hl with | [_, _, _], _ => rfl⟩
  have D21 : DefAt K mg "_law_document" slaw_document ["_law_draw_here"] := ⟨_, _, fun_mk (st := slaw_document) l21 c21 k21, PySem.W.mg_of X G a21, (fun_mk (st := slaw_document) l21 c21 k21).binds (ps := ["_law_draw_here"]) fun _ _ _ _ _ _ us hl => match us, hl with | [_], _ => rfl⟩
  have D22 : DefAt K mg "_law_tokens" slaw_tokens ["_law_box_here"] := ⟨_, _, fun_mk (st := slaw_tokens) l22 c22 k22, PySem.W.mg_of X G a22, (fun_mk (st := slaw_tokens) l22 c22 k22).binds (ps := ["_law_box_here"]) fun _ _ _ _ _ _ us hl => match us, hl with | [_], _ => rfl⟩
  have D23 : DefAt K mg "_law_changed" slaw_changed ["_law_draw_here", "_law_tokens_here"] := ⟨_, _, fun_mk (st := slaw_changed) l23 c23 k23, PySem.W.mg_of X G a23, (fun_mk (st := slaw_changed) l23 c23 k23).binds (ps := ["_law_draw_here", "_law_tokens_here"]) fun _ _ _ _ _ _ us hl => match us, hl with | [_, _], _ => rfl⟩
  have D24 : DefAt K mg "_law_text" slaw_text ["_law_draw_here", "_law_tokens_here"] := ⟨_, _, fun_mk (st := slaw_text) l24 c24 k24, PySem.W.mg_of X G a24, (fun_mk (st := slaw_text) l24 c24 k24).binds (ps := ["_law_draw_here", "_law_tokens_here"]) fun _ _ _ _ _ _ us hl => match us, hl with | [_, _], _ => rfl⟩
  have D25 : DefAt K mg "_law_wrong_at" slaw_wrong_at ["_law_tokens_here"] := ⟨_, _, fun_mk (st := slaw_wrong_at) l25 c25 k25, PySem.W.mg_of X G a25, (fun_mk (st := slaw_wrong_at) l25 c25 k25).binds (ps := ["_law_tokens_here"]) fun _ _ _ _ _ _ us hl => match us, hl with | [_], _ => rfl⟩
  have D26 : DefAt K mg "_law_due" slaw_due ["_law_text_here", "_law_tokens_here", "_law_places"] := ⟨_, _, fun_mk (st := slaw_due) l26 c26 k26, PySem.W.mg_of X G a26, (fun_mk (st := slaw_due) l26 c26 k26).binds (ps := ["_law_text_here", "_law_tokens_here", "_law_places"]) fun _ _ _ _ _ _ us hl => match us, hl with | [_, _, _], _ => rfl⟩
  have D27 : DefAt K mg "_law_told" slaw_told ["_law_text_here"] := ⟨_, _, fun_mk (st := slaw_told) l27 c27 k27, PySem.W.mg_of X G a27, (fun_mk (st := slaw_told) l27 c27 k27).binds (ps := ["_law_text_here"]) fun _ _ _ _ _ _ us hl => match us, hl with | [_], _ => rfl⟩
  have D28 : DefAt K mg "_law_large" slaw_large ["_law_draw_here"] := ⟨_, _, fun_mk (st := slaw_large) l28 c28 k28, PySem.W.mg_of X G a28, (fun_mk (st := slaw_large) l28 c28 k28).binds (ps := ["_law_draw_here"]) fun _ _ _ _ _ _ us hl => match us, hl with | [_], _ => rfl⟩
  have D29 : DefAt K mg "law" slaw ["_law_script"] := ⟨_, _, fun_mk (st := slaw) l29 c29 k29, PySem.W.mg_of X G a29, (fun_mk (st := slaw) l29 c29 k29).binds (ps := ["_law_script"]) fun _ _ _ _ _ _ us hl => match us, hl with | [_], _ => rfl⟩
  refine ⟨PySem.W.fnOf "law" "law" (defArgs slaw) (defBody slaw) (defScope slaw) .none kV29 dc29 pm29 an29 cd29 ct29, fun s v => .of_eq rfl, fun base _ _ => law_of ?_⟩
  have TK : TopK K mg := ⟨kk_Reader⟩
  exact chain T TK TX D1 D2 D3 D4 D5 D6 D7 D8 D9 D10 D11 D12 D13 D14 D15 D16 D17 D18 D19 D20 D21 D22 D23 D24 D25 D26 D27 D28 (fun_mk (st := slaw) l29 c29 k29)
theorem walk {l : PySem.W.OpenLaw} {q : Program} {loose : List Str} {XP : (Str → Option Value) → Heap → Prop} {YP : World → Heap → Prop} {d : DefRec} {K : Params → PySem.W.Frag} (hn : l.most = some 63) (hdf : d.params.defaults = [])
    (hY : ∀ (w : World) (h : Heap), YP w h → (K w.params).In h)
    (F : ∀ (w : World) (mg : Str → Option Value) (fa : Addr) (h : Heap), (K w.params).In h → h.Ns mainGlobals mg → mg d.name = some (.ref fa) →
      ∃ fd : FuncData, (∀ (s : Shared) (u : Value), BindsTo s fd ⟨[u], []⟩ [("_law_script", u)]) ∧ ∀ base : Heap, (K w.params).In base → base.Ns mainGlobals mg → FnOk l.prog w (K w.params) mg base CX0 60 fa fd ["_law_script"] (spLaw (K w.params))) :
    PySem.W.WalkO q loose XP YP l.row.toRowW d [] (fun f vs => PySem.call f vs) :=
  L2.walk_of (n := 63) (k := 60) (x := "_law_script") (CX := fun _ => CX0) (sp := fun w => spLaw (K w.params)) hn (by decide) hdf ⟨rfl, by decide, by decide⟩ hY F (fun _ _ a ns hl _ hS => ⟨a, ns, rfl, hS, hl, fun _ => rfl⟩) fun _ _ _ _ _ z => z
end Dv
open PySem PySem.W PyProof.Rows in
set_option maxRecDepth 100000 in
set_option maxHeartbeats 0 in
theorem PySem.Challenge.cw_asyncframes_k03_errors_of_documents_holds : PySem.Challenge.rw_asyncframes_k03_errors_of_documents.Holds := by
  w_on; o_law; k_head; (case hw => w_witness2)
  k_fill
  refine Dv.walk (l := PySem.Challenge.rw_asyncframes_k03_errors_of_documents) rfl rfl (fun w h Y => PySem.W.kIn_of Y) ?F
  case F =>
    intro w mg fa h KX G hmg
    refine' Dv.all_mk KX G hmg ?aC_T ?lk_T ?rv_T ?sa_T ?sC_T ?tC_T ?kC_T ?dC_T ?np_T ?nm_T ?ga_T ?gg_T ?ha_T ?hm_T ?m_TT ?xn ?xt ?st_T ?aC_F ?sg_F ?tC_F ?rd_F ?fi_F ?ki_T ?aC_Reader ?pg_Reader ?hd_Reader ?po_Reader ?sa_Reader ?mk_Reader ?kc_Reader ?nf_Reader_tokens ?nf_Reader_length ?nf_Reader_at ?nf_Reader_wrong ?nf_Reader_numbers ?a1 ?i1 ?l1 ?c1 ?k1 ?a2 ?l2 ?c2 ?k2 ?a3 ?l3 ?c3 ?k3 ?a4 ?l4 ?c4 ?k4 ?a5 ?l5 ?c5 ?k5 ?a6 ?l6 ?c6 ?k6 ?a7 ?i7 ?l7 ?c7 ?k7 ?a8 ?i8 ?l8 ?c8 ?k8 ?a9 ?i9 ?l9 ?c9 ?k9 ?a10 ?i10 ?l10 ?c10 ?k10 ?a11 ?i11 ?l11 ?c11 ?k11 ?a12 ?i12 ?l12 ?c12 ?k12 ?a13 ?l13 ?c13 ?k13 ?a14 ?l14 ?c14 ?k14 ?a15 ?l15 ?c15 ?k15 ?a16 ?l16 ?c16 ?k16 ?a17 ?l17 ?c17 ?k17 ?a18 ?l18 ?c18 ?k18 ?a19 ?l19 ?c19 ?k19 ?a20 ?l20 ?c20 ?k20 ?a21 ?l21 ?c21 ?k21 ?a22 ?l22 ?c22 ?k22 ?a23 ?l23 ?c23 ?k23 ?a24 ?l24 ?c24 ?k24 ?a25 ?l25 ?c25 ?k25 ?a26 ?l26 ?c26 ?k26 ?a27 ?l27 ?c27 ?k27 ?a28 ?l28 ?c28 ?k28 ?a29 ?l29 ?c29 ?k29 ?g_MOST_BOXES ?g_MOST_DEPTH ?g_MOST_NUMBER ?g_MOST_HEIGHT ?g_DIGITS ?g_SIGNS ?z_max ?z_len ?z_tuple ?z_list ?z_abs ?z_int ?z_isinstance ?z_str ?z_all ?z_bool ?z_range ?z_sum
    (case aC_T => k_is)
    (case lk_T => k_is)
    (case rv_T => first | decide +kernel | k_is)
    (case sa_T => k_is)
    (case sC_T => k_is)
    (case tC_T => k_is)
    (case kC_T => k_is)
    (case dC_T => k_is)
    (case np_T => k_is)
    (case nm_T => k_is)
    (case ga_T => k_is)
    (case gg_T => k_is)
    (case ha_T => k_is)
    (case hm_T => k_is)
    (case m_TT => k_is)
    (case xn => k_is)
    (case xt => k_is)
    (case st_T => k_is)
    (case aC_F => k_is)
    (case sg_F => first | k_is | kernel_rfl)
    (case tC_F => k_is)
    (case rd_F => first | k_is | kernel_rfl)
    (case fi_F => first | k_is | kernel_rfl)
    (case ki_T => kernel_rfl)
    (case aC_Reader => k_is)
    (case pg_Reader => k_is)
    (case hd_Reader => k_is)
    (case po_Reader => k_is)
    (case sa_Reader => k_is)
    (case mk_Reader => k_is)
    (case kc_Reader => k_is)
    (case nf_Reader_tokens => k_is)
    (case nf_Reader_length => k_is)
    (case nf_Reader_at => k_is)
    (case nf_Reader_wrong => k_is)
    (case nf_Reader_numbers => k_is)
    (case a1 => k_is)
    (case i1 => k_is)
    (case l1 => k_is)
    (case c1 => k_is)
    (case k1 => k_is)
    (case a2 => k_is)
    (case l2 => k_is)
    (case c2 => k_is)
    (case k2 => k_is)
    (case a3 => k_is)
    (case l3 => k_is)
    (case c3 => k_is)
    (case k3 => k_is)
    (case a4 => k_is)
    (case l4 => k_is)
    (case c4 => k_is)
    (case k4 => k_is)
    (case a5 => k_is)
    (case l5 => k_is)
    (case c5 => k_is)
    (case k5 => k_is)
    (case a6 => k_is)
    (case l6 => k_is)
    (case c6 => k_is)
    (case k6 => k_is)
    (case a7 => k_is)
    (case i7 => k_is)
    (case l7 => k_is)
    (case c7 => k_is)
    (case k7 => k_is)
    (case a8 => k_is)
    (case i8 => k_is)
    (case l8 => k_is)
    (case c8 => k_is)
    (case k8 => k_is)
    (case a9 => k_is)
    (case i9 => k_is)
    (case l9 => k_is)
    (case c9 => k_is)
    (case k9 => k_is)
    (case a10 => k_is)
    (case i10 => k_is)
    (case l10 => k_is)
    (case c10 => k_is)
    (case k10 => k_is)
    (case a11 => k_is)
    (case i11 => k_is)
    (case l11 => k_is)
    (case c11 => k_is)
    (case k11 => k_is)
    (case a12 => k_is)
    (case i12 => k_is)
    (case l12 => k_is)
    (case c12 => k_is)
    (case k12 => k_is)
    (case a13 => k_is)
    (case l13 => k_is)
    (case c13 => k_is)
    (case k13 => k_is)
    (case a14 => k_is)
    (case l14 => k_is)
    (case c14 => k_is)
    (case k14 => k_is)
    (case a15 => k_is)
    (case l15 => k_is)
    (case c15 => k_is)
    (case k15 => k_is)
    (case a16 => k_is)
    (case l16 => k_is)
    (case c16 => k_is)
    (case k16 => k_is)
    (case a17 => k_is)
    (case l17 => k_is)
    (case c17 => k_is)
    (case k17 => k_is)
    (case a18 => k_is)
    (case l18 => k_is)
    (case c18 => k_is)
    (case k18 => k_is)
    (case a19 => k_is)
    (case l19 => k_is)
    (case c19 => k_is)
    (case k19 => k_is)
    (case a20 => k_is)
    (case l20 => k_is)
    (case c20 => k_is)
    (case k20 => k_is)
    (case a21 => k_is)
    (case l21 => k_is)
    (case c21 => k_is)
    (case k21 => k_is)
    (case a22 => k_is)
    (case l22 => k_is)
    (case c22 => k_is)
    (case k22 => k_is)
    (case a23 => k_is)
    (case l23 => k_is)
    (case c23 => k_is)
    (case k23 => k_is)
    (case a24 => k_is)
    (case l24 => k_is)
    (case c24 => k_is)
    (case k24 => k_is)
    (case a25 => k_is)
    (case l25 => k_is)
    (case c25 => k_is)
    (case k25 => k_is)
    (case a26 => k_is)
    (case l26 => k_is)
    (case c26 => k_is)
    (case k26 => k_is)
    (case a27 => k_is)
    (case l27 => k_is)
    (case c27 => k_is)
    (case k27 => k_is)
    (case a28 => k_is)
    (case l28 => k_is)
    (case c28 => k_is)
    (case k28 => k_is)
    (case a29 => k_is)
    (case l29 => k_is)
    (case c29 => k_is)
    (case k29 => k_is)
    (case g_MOST_BOXES => k_is)
    (case g_MOST_DEPTH => k_is)
    (case g_MOST_NUMBER => k_is)
    (case g_MOST_HEIGHT => k_is)
    (case g_DIGITS => k_is)
    (case g_SIGNS => k_is)
    (case z_max => k_is)
    (case z_len => k_is)
    (case z_tuple => k_is)
    (case z_list => k_is)
    (case z_abs => k_is)
    (case z_int => k_is)
    (case z_isinstance => k_is)
    (case z_str => k_is)
    (case z_all => k_is)
    (case z_bool => k_is)
    (case z_range => k_is)
    (case z_sum => k_is)
#print axioms PySem.Challenge.cw_asyncframes_k03_errors_of_documents_holds

