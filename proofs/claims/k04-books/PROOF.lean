import PyProof.Rows.All
import Wide.All
import OpenK.AllK
import Wide.FinOn
import PySem.Challenge.RW_anylead_k04_books_made_and_refused
import PyProof.EqAt
import PyProof.EqKinds
import PyProof.TupleCall
import HandS.Base
import HandS.Call
import HandS.List
import HandS.Dict
import HandS.Comp
import HandS.Exc
import HandS.Lambda
import HandS.Wide
import HandS.Style
import HandS.TupAny
import HandS.Words
import HandS.WordsExc
import HandS.Iter
import HandS.Rev
import HandS.Zip
import KE.GoesMore
import HandS.Small
import HandS.IsInst
import HandS.Deep
import HandS.Text
import HandS.ExcInit
import HandS.TryMany
import HandS.ExcField
import HandS.Defaults
import HandS.HeadHook4
import HandS.HeadWalk
import HandS.Conv
import HandS.SortInts
import HandS.OwnEq
import PyProof.InstNe
import PyProof.NeKinds
import KE.KEqDict
import HandS.Head0
import HandS.Head1
import HandS.Head2
import HandS.HeadEnd
import HandS.HeadHook1
import HandS.HeadHook2
import HandS.HeadHook3
set_option Elab.async false
set_option linter.all false
set_option maxRecDepth 100000
set_option maxHeartbeats 3900000
namespace PI
open L2 PySem PyProof.Rows PySem.Spec
/-- the kind of a node; o: owned (may be changed by whoever holds it), otherwise frozen -/
inductive Kd where
  | tup | rol | lst (o : Bool) | dk (o : Bool) (ks : List Key) | dt (o : Bool) (ks : List (List Key)) | ob (o : Bool) (c : Str) (ns : List Str)
def Kd.own : Kd → Bool
  | .tup => false
  | .rol => false
  | .lst o => o
  | .dk o _ => o
  | .dt o _ => o
  | .ob o _ _ => o
def Kd.frz : Kd → Kd
  | .tup => .tup
  | .rol => .rol
  | .lst _ => .lst false
  | .dk _ ks => .dk false ks
  | .dt _ ks => .dt false ks
  | .ob _ c ns => .ob false c ns
/-- a value as a tree -/
inductive D where
  | un | non | bl (b : Bool) | int (i : Int) | str (x : Str) | ty (n : String) | fn (x : Str) | nd (k : Kd) (xs : List D)
mutual
def isFz : D → Bool
  | .nd k xs => !k.own && isFzL xs
  | _ => true
def isFzL : List D → Bool
  | [] => true
  | x :: xs => isFz x && isFzL xs
end
mutual
def frz : D → D
  | .nd k xs => .nd k.frz (frzL xs)
  | .un => .un
  | .non => .non
  | .bl b => .bl b
  | .int i => .int i
  | .str x => .str x
  | .ty n => .ty n
  | .fn x => .fn x
def frzL : List D → List D
  | [] => []
  | x :: xs => frz x :: frzL xs
end
theorem frzL_length : ∀ xs : List D, (frzL xs).length = xs.length
  | [] => rfl
  | x :: xs => by simp only [frzL, List.length_cons, frzL_length xs]
theorem frzL_map : ∀ xs : List D, frzL xs = xs.map frz
  | [] => rfl
  | x :: xs => by simp only [frzL, List.map_cons, frzL_map xs]
theorem isFzL_iff : ∀ xs : List D, isFzL xs = true ↔ ∀ x ∈ xs, isFz x = true
  | [] => by simp [isFzL]
  | x :: xs => by simp only [isFzL, Bool.and_eq_true, List.forall_mem_cons, isFzL_iff xs]
theorem Kd.frz_own : ∀ k : Kd, k.frz.own = false
  | .tup => rfl
  | .rol => rfl
  | .lst _ => rfl
  | .dk _ _ => rfl
  | .dt _ _ => rfl
  | .ob _ _ _ => rfl
theorem Kd.frz_of : ∀ {k : Kd}, k.own = false → k.frz = k
  | .tup, _ => rfl
  | .rol, _ => rfl
  | .lst _, h => by cases h; rfl
  | .dk _ _, h => by cases h; rfl
  | .dt _ _, h => by cases h; rfl
  | .ob _ _ _, h => by cases h; rfl
mutual
theorem isFz_frz : ∀ d : D, isFz (frz d) = true
  | .nd k xs => by simp only [frz, isFz, Kd.frz_own, Bool.not_false, Bool.true_and]; exact isFzL_frz xs
  | .un => rfl
  | .non => rfl
  | .bl _ => rfl
  | .int _ => rfl
  | .str _ => rfl
  | .ty _ => rfl
  | .fn _ => rfl
theorem isFzL_frz : ∀ xs : List D, isFzL (frzL xs) = true
  | [] => rfl
  | x :: xs => by simp only [frzL, isFzL, isFz_frz x, isFzL_frz xs, Bool.and_self]
end
mutual
theorem frz_of : ∀ {d : D}, isFz d = true → frz d = d
  | .nd k xs, h => by
    simp only [isFz, Bool.and_eq_true, Bool.not_eq_true'] at h
    simp only [frz, Kd.frz_of h.1, frzL_of h.2]
  | .un, _ => rfl
  | .non, _ => rfl
  | .bl _, _ => rfl
  | .int _, _ => rfl
  | .str _, _ => rfl
  | .ty _, _ => rfl
  | .fn _, _ => rfl
theorem frzL_of : ∀ {xs : List D}, isFzL xs = true → frzL xs = xs
  | [], _ => rfl
  | x :: xs, h => by
    simp only [isFzL, Bool.and_eq_true] at h
    simp only [frzL, frz_of h.1, frzL_of h.2]
end
/-- one part of the heap lies within another -/
def Le (F F' : Hp) : Prop := ∀ a o, F a = some o → F' a = some o
theorem Le.refl (F : Hp) : Le F F := fun _ _ h => h
theorem Le.trans {F F1 F2 : Hp} (a : Le F F1) (b : Le F1 F2) : Le F F2 := fun c o h => b c o (a c o h)
theorem Le.free {F F' : Hp} (e : Le F F') {a : Addr} (h : F' a = none) : F a = none := by
  cases q : F a with
  | none => rfl
  | some o => rw [e a o q] at h; cases h
theorem Le.rd {F F' : Hp} (e : Le F F') {a : Addr} {u : HO} (h : Rd F a u) : Rd F' a u := by
  rcases h with h | ⟨o, h⟩
  · exact .inl (e _ _ h)
  · exact .inr ⟨o, e _ _ h⟩
theorem Le.sqL {K : PySem.W.Frag} {F F' : Hp} (e : Le F F') {a : Addr} {xs : List V} (h : SqL K F a xs) : SqL K F' a xs := h.elim (fun h => .inl (e.rd h)) .inr
theorem Le.sqT {K : PySem.W.Frag} {F F' : Hp} (e : Le F F') {a : Addr} {xs : List V} (h : SqT K F a xs) : SqT K F' a xs := h.elim (fun h => .inl (e.rd h)) .inr
theorem Le.over {F H : Hp} (e : Le F H) {p : Addr} {o : HO} (h : H p = none) : Le F (upd H p o) := fun a u q => by
  rw [upd_ne (ne_of_none (e a u q) h)]; exact e a u q
theorem Le.new {F : Hp} {p : Addr} {o : HO} (h : F p = none) : Le F (upd F p o) := fun a u q => by
  rw [upd_ne (ne_of_none q h)]; exact q
section
variable (K : PySem.W.Frag) (mg : Str → Option Value)
def Leaf (v : Option V) : D → Prop
  | .un => True
  | .non => v = some .non
  | .bl b => v = some (.bl b)
  | .int i => v = some (.int i)
  | .str x => v = some (.str x)
  | .ty n => v = some (.ty n)
  | .fn x => ∃ a, mg x = some (.ref a) ∧ v = some (.ref a)
  | .nd _ _ => False
/-- what stands at a node's address -/
def Cont (G : Hp) (k : Kd) (p : Addr) (vs : List V) : Prop :=
  match k with
  | .tup => G p = some (.tup vs)
  | .rol => SqL K G p vs
  | .lst _ => G p = some (.lst vs)
  | .dk _ ks => G p = some (.dK (ks.zip vs)) ∧ ks.length = vs.length
  | .dt _ ks => G p = some (.dT (ks.zip vs)) ∧ ks.length = vs.length
  | .ob _ c ns => ∃ C dx, mg c = some (.ref C) ∧ G p = some (.ins C dx (ns.zip vs)) ∧ ns.length = vs.length
end
abbrev kids (vs : List V) (xs : List D) : List (Option V × D) := (vs.map some).zip xs
/-- the forest: the values of L are the trees of L; A: the addresses of the owned nodes -/
inductive Fo (K : PySem.W.Frag) (mg : Str → Option Value) (F H : Hp) : List (Option V × D) → List Addr → Prop where
  | nil : Fo K mg F H [] []
  | leaf {v : Option V} {d : D} {L : List (Option V × D)} {A : List Addr} : Leaf mg v d → Fo K mg F H L A → Fo K mg F H ((v, d) :: L) A
  | cold {p : Addr} {k : Kd} {xs : List D} {vs : List V} {L : List (Option V × D)} {A : List Addr} : k.own = false → Cont K mg F k p vs → vs.length = xs.length →
      Fo K mg F H (kids vs xs) [] → Fo K mg F H L A → Fo K mg F H ((some (.ref p), .nd k xs) :: L) A
  | hot {p : Addr} {k : Kd} {xs : List D} {vs : List V} {L : List (Option V × D)} {A : List Addr} : k.own = true → Cont K mg H k p vs → vs.length = xs.length →
      Fo K mg F H (kids vs xs ++ L) A → Fo K mg F H ((some (.ref p), .nd k xs) :: L) (p :: A)
section
variable {K : PySem.W.Frag} {mg : Str → Option Value} {F F' R R' H H' : Hp} {L L1 L2 L' : List (Option V × D)} {A A1 A2 : List Addr} {v : Option V} {d : D} {p : Addr} {k : Kd} {xs : List D} {vs : List V}
theorem Cont.le (e : Le F F') (hk : k.own = false) (h : Cont K mg F k p vs) : Cont K mg F' k p vs := by
  cases k with
  | tup => exact e _ _ h
  | rol => exact e.sqL h
  | lst o => exact e _ _ h
  | dk o ks => exact ⟨e _ _ h.1, h.2⟩
  | dt o ks => exact ⟨e _ _ h.1, h.2⟩
  | ob o c ns => obtain ⟨C, dx, h1, h2, h3⟩ := h; exact ⟨C, dx, h1, e _ _ h2, h3⟩
theorem Cont.at (e : H' p = H p) (hk : k.own = true) (h : Cont K mg H k p vs) : Cont K mg H' k p vs := by
  cases k with
  | tup => cases hk
  | rol => cases hk
  | lst o => exact e.trans h
  | dk o ks => exact ⟨e.trans h.1, h.2⟩
  | dt o ks => exact ⟨e.trans h.1, h.2⟩
  | ob o c ns => obtain ⟨C, dx, h1, h2, h3⟩ := h; exact ⟨C, dx, h1, e.trans h2, h3⟩
theorem Cont.there (hk : k.own = true) (h : Cont K mg H k p vs) : ∃ o, H p = some o := by
  cases k with
  | tup => cases hk
  | rol => cases hk
  | lst o => exact ⟨_, h⟩
  | dk o ks => exact ⟨_, h.1⟩
  | dt o ks => exact ⟨_, h.1⟩
  | ob o c ns => obtain ⟨C, dx, h1, h2, h3⟩ := h; exact ⟨_, h2⟩
/-- as it is read -/
theorem Cont.cool (e : H' p = H p) (hk : k.own = true) (h : Cont K mg H k p vs) : Cont K mg H' k.frz p vs := by
  cases k with
  | tup => cases hk
  | rol => cases hk
  | lst o => exact e.trans h
  | dk o ks => exact ⟨e.trans h.1, h.2⟩
  | dt o ks => exact ⟨e.trans h.1, h.2⟩
  | ob o c ns => obtain ⟨C, dx, h1, h2, h3⟩ := h; exact ⟨C, dx, h1, e.trans h2, h3⟩
theorem Fo.le (e : Le F F') (h : Fo K mg F H L A) : Fo K mg F' H L A := by
  induction h with
  | nil => exact .nil
  | leaf q _ ih => exact .leaf q ih
  | cold h1 h2 h3 _ _ i1 i2 => exact .cold h1 (h2.le e h1) h3 i1 i2
  | hot h1 h2 h3 _ ih => exact .hot h1 h2 h3 ih
theorem Fo.frame (h : Fo K mg F H L A) : (∀ a ∈ A, H' a = H a) → Fo K mg F H' L A := by
  induction h with
  | nil => exact fun _ => .nil
  | leaf q _ ih => exact fun e => .leaf q (ih e)
  | cold h1 h2 h3 _ _ i1 i2 => exact fun e => .cold h1 h2 h3 (i1 fun _ z => nomatch z) (i2 e)
  | hot h1 h2 h3 _ ih => exact fun e => .hot h1 (h2.at (e _ (List.mem_cons_self)) h1) h3 (ih fun a ha => e a (List.mem_cons_of_mem _ ha))
theorem Fo.there (h : Fo K mg F H L A) : ∀ a ∈ A, ∃ o, H a = some o := by
  induction h with
  | nil => exact fun _ z => nomatch z
  | leaf q _ ih => exact ih
  | cold h1 h2 h3 _ _ i1 i2 => exact i2
  | hot h1 h2 h3 _ ih =>
    intro a ha
    obtain rfl | ha := List.mem_cons.mp ha
    · exact h2.there h1
    · exact ih a ha
theorem Fo.app (h : Fo K mg F H L1 A1) (h2 : Fo K mg F H L2 A2) : Fo K mg F H (L1 ++ L2) (A1 ++ A2) := by
  induction h with
  | nil => exact h2
  | leaf q _ ih => exact .leaf q ih
  | cold h1 h2 h3 c _ i1 i2 => exact .cold h1 h2 h3 c i2
  | hot h1 h2 h3 _ ih => exact .hot h1 h2 h3 (by have := ih; rw [List.append_assoc] at this; exact this)
theorem Fo.split (h : Fo K mg F H L A) : ∀ L1 L2, L = L1 ++ L2 → ∃ A1 A2, A = A1 ++ A2 ∧ Fo K mg F H L1 A1 ∧ Fo K mg F H L2 A2 := by
  induction h with
  | nil =>
    intro L1 L2 e
    obtain ⟨rfl, rfl⟩ := List.append_eq_nil_iff.mp (Eq.symm e)
    exact ⟨[], [], rfl, .nil, .nil⟩
  | leaf q h ih =>
    intro L1 L2 e
    cases L1 with
    | nil => exact ⟨[], _, rfl, .nil, by rw [← (show _ = L2 from e)]; exact .leaf q h⟩
    | cons x L1 =>
      injection e with e1 e2
      obtain ⟨A1, A2, ea, f1, f2⟩ := ih L1 L2 e2
      exact ⟨A1, A2, ea, by rw [← e1]; exact .leaf q f1, f2⟩
  | cold h1 h2 h3 c h _ ih =>
    intro L1 L2 e
    cases L1 with
    | nil => exact ⟨[], _, rfl, .nil, by rw [← (show _ = L2 from e)]; exact .cold h1 h2 h3 c h⟩
    | cons x L1 =>
      injection e with e1 e2
      obtain ⟨A1, A2, ea, f1, f2⟩ := ih L1 L2 e2
      exact ⟨A1, A2, ea, by rw [← e1]; exact .cold h1 h2 h3 c f1, f2⟩
  | hot h1 h2 h3 h ih =>
    intro L1 L2 e
    cases L1 with
    | nil => exact ⟨[], _, rfl, .nil, by rw [← (show _ = L2 from e)]; exact .hot h1 h2 h3 h⟩
    | cons x L1 =>
      injection e with e1 e2
      obtain ⟨A1, A2, ea, f1, f2⟩ := ih (_ ++ L1) L2 (by rw [e2]; exact (List.append_assoc _ _ _).symm)
      exact ⟨_ :: A1, A2, by rw [ea]; rfl, by rw [← e1]; exact .hot h1 h2 h3 f1, f2⟩
theorem Fo.perm (e : L.Perm L') : ∀ {A}, Fo K mg F H L A → ∃ A', A.Perm A' ∧ Fo K mg F H L' A' := by
  induction e with
  | nil => exact fun h => ⟨_, .refl _, h⟩
  | @cons x l1 l2 _ ih =>
    intro A h
    obtain ⟨A1, A2, rfl, f1, f2⟩ := h.split [x] l1 rfl
    obtain ⟨A2', q, f2'⟩ := ih f2
    exact ⟨A1 ++ A2', List.Perm.append (.refl _) q, f1.app f2'⟩
  | swap x y l =>
    intro A h
    obtain ⟨A1, A2, rfl, f1, f2⟩ := h.split [y] (x :: l) rfl
    obtain ⟨A3, A4, rfl, f3, f4⟩ := f2.split [x] l rfl
    refine ⟨A3 ++ (A1 ++ A4), ?_, f3.app (f1.app f4)⟩
    rw [← List.append_assoc]
    rw [← List.append_assoc]
    exact List.Perm.append List.perm_append_comm (.refl _)
  | trans _ _ i1 i2 =>
    intro A h
    obtain ⟨A', q, h'⟩ := i1 h
    obtain ⟨A'', q', h''⟩ := i2 h'
    exact ⟨A'', q.trans q', h''⟩
theorem fz_kids : ∀ {vs : List V} {xs : List D}, isFzL xs = true → ∀ x ∈ kids vs xs, isFz x.2 = true := fun {vs xs} h x hx =>
  (isFzL_iff xs).mp h _ (List.of_mem_zip hx).2
/-- frozen trees own nothing -/
theorem Fo.fz (h : Fo K mg F H L A) : (∀ x ∈ L, isFz x.2 = true) → A = [] := by
  induction h with
  | nil => exact fun _ => rfl
  | leaf q _ ih => exact fun e => ih fun x hx => e x (List.mem_cons_of_mem _ hx)
  | cold h1 h2 h3 _ _ i1 i2 => exact fun e => i2 fun x hx => e x (List.mem_cons_of_mem _ hx)
  | hot h1 h2 h3 _ ih =>
    intro e
    have q := e _ List.mem_cons_self
    simp only [isFz, h1, Bool.not_true, Bool.false_and] at q
    cases q
/-- .. and those that own nothing are frozen -/
theorem Fo.isFz_nil (h : Fo K mg F H L A) : A = [] → ∀ x ∈ L, isFz x.2 = true := by
  induction h with
  | nil => exact fun _ _ z => nomatch z
  | leaf q _ ih =>
    intro e x hx
    obtain rfl | hx := List.mem_cons.mp hx
    · revert q
      rename_i d _ _ _
      cases d with
      | nd k xs => exact fun z => False.elim z
      | _ => exact fun _ => rfl
    · exact ih e x hx
  | cold h1 h2 h3 _ _ i1 i2 =>
    intro e x hx
    obtain rfl | hx := List.mem_cons.mp hx
    · simp only [isFz, h1, Bool.not_false, Bool.true_and]
      refine (isFzL_iff _).mpr fun y hy => ?_
      obtain ⟨i, hi⟩ := List.getElem?_of_mem hy
      have hl : i < _ := (List.getElem?_eq_some_iff.mp hi).1
      rw [← h3] at hl
      exact i1 rfl (some _, y) (List.mem_of_getElem? (i := i) (by rw [List.getElem?_zip_eq_some]; exact ⟨by rw [List.getElem?_map, List.getElem?_eq_getElem hl]; rfl, hi⟩))
    · exact i2 e x hx
  | hot h1 h2 h3 _ ih => exact fun e => nomatch e
/-- a frozen forest does not lean on H -/
theorem Fo.any (h : Fo K mg F H L []) (H' : Hp) : Fo K mg F H' L [] := h.frame fun _ z => nomatch z
/-- to freeze -/
theorem Fo.freeze (e : Le F F') (h : Fo K mg F H L A) : (∀ a ∈ A, F' a = H a) → Fo K mg F' H' (L.map fun x => (x.1, frz x.2)) [] := by
  induction h with
  | nil => exact fun _ => .nil
  | @leaf v d L A q _ ih =>
    intro k
    refine .leaf ?_ (ih k)
    revert q
    cases d with
    | nd k xs => exact fun z => False.elim z
    | _ => exact id
  | @cold p k xs vs L A h1 h2 h3 hc _ i1 i2 =>
    intro q
    have hz : frz (.nd k xs) = .nd k xs := frz_of (by
      simp only [isFz, h1, Bool.not_false, Bool.true_and]
      exact (by
        have := (Fo.cold (L := []) h1 h2 h3 hc .nil).isFz_nil rfl _ List.mem_cons_self
        simpa only [isFz, h1, Bool.not_false, Bool.true_and] using this))
    simp only [List.map_cons, hz]
    exact .cold h1 (h2.le e h1) h3 ((hc.le e).any _) (i2 q)
  | @hot p k xs vs L A h1 h2 h3 _ ih =>
    intro q
    have r := ih fun a ha => q a (List.mem_cons_of_mem _ ha)
    rw [List.map_append] at r
    obtain ⟨A1, A2, ea, f1, f2⟩ := r.split _ _ rfl
    obtain ⟨rfl, rfl⟩ := List.append_eq_nil_iff.mp ea.symm
    simp only [List.map_cons, frz]
    refine .cold (Kd.frz_own _) (h2.cool (q _ List.mem_cons_self) h1) (by rw [frzL_length]; exact h3) ?_ f2
    have ez : (kids vs xs).map (fun x => (x.1, frz x.2)) = kids vs (frzL xs) := by
      rw [frzL_map]
      show List.map _ (List.zip (vs.map some) xs) = List.zip (vs.map some) (xs.map frz)
      rw [List.zip_map_right]; rfl
    rw [← ez]
    exact f1
end
end PI
set_option maxHeartbeats 3900000
namespace PI
open L2 PySem PyProof.Rows PySem.Spec
/-- the tables of code objects that the program's lambdas have -/
class Tb where
  T : List (Addr × Str)
variable [Tb]
/-- what is reserved: a part of the heap, and the tables of code objects -/
structure Rv where
  hp : Hp
  T : List (Addr × Str)
instance : CoeFun Rv (fun _ => Hp) := ⟨Rv.hp⟩
def NoTbl (o : HO) : Prop := ∀ ps, o ≠ .tbl ps
/-- neither a table nor a code object -/
def Tame (o : HO) : Prop := (∀ ps, o ≠ .tbl ps) ∧ ∀ c q, o ≠ LamX.CodeO c q
structure Sep (K : PySem.W.Frag) (mg : Str → Option Value) (F : Hp) (R : Rv) (H : Hp) (L : List (Option V × D)) : Prop where
  fh : Le F H
  rh : Le R.hp H
  rf : ∀ a o, R a = some o → F a = none
  nf : ∀ a o, F a = some o → NoTbl o
  nr : ∀ a o, R a = some o → NoTbl o
  tb : LamX.Tabs Tb.T H
  fo : ∃ A, Fo K mg F H L A ∧ A.Nodup ∧ ∀ a ∈ A, F a = none ∧ R a = none
/-- a frozen value -/
def Rep (K : PySem.W.Frag) (mg : Str → Option Value) (F : Hp) (v : V) (d : D) : Prop := Fo K mg F (fun _ => none) [(some v, d)] []
def Reps (K : PySem.W.Frag) (mg : Str → Option Value) (F : Hp) (vs : List V) (ds : List D) : Prop := vs.length = ds.length ∧ Fo K mg F (fun _ => none) (kids vs ds) []
/-- one more address reserved -/
def hold (R : Rv) (H : Hp) (p : Addr) : Rv := ⟨fun a => if a = p then H p else R a, R.T⟩
section
variable {K : PySem.W.Frag} {mg : Str → Option Value} {F F' H H' : Hp} {R R' : Rv} {L L1 L2 L' : List (Option V × D)} {A A1 A2 : List Addr} {v : Option V} {d : D} {p : Addr} {k : Kd} {xs : List D} {vs : List V} {x : V}
theorem Cont.tame {o : HO} (hk : k.own = true) (h : Cont K mg H k p vs) (e : H p = some o) : Tame o := by
  have t : ∀ u : HO, H p = some u → Tame u → Tame o := fun u hu t => by rw [hu] at e; cases e; exact t
  cases k with
  | tup => cases hk
  | rol => cases hk
  | lst b => exact t _ h ⟨fun _ z => HO.noConfusion z, fun _ _ z => HO.noConfusion z⟩
  | dk b ks => exact t _ h.1 ⟨fun _ z => HO.noConfusion z, fun _ _ z => HO.noConfusion z⟩
  | dt b ks => exact t _ h.1 ⟨fun _ z => HO.noConfusion z, fun _ _ z => HO.noConfusion z⟩
  | ob b c ns => obtain ⟨C, dx, _, h, _⟩ := h; exact t _ h ⟨fun _ z => HO.noConfusion z, fun _ _ z => HO.noConfusion z⟩
theorem Fo.tame (h : Fo K mg F H L A) : ∀ a ∈ A, ∀ o, H a = some o → Tame o := by
  induction h with
  | nil => exact fun a ha => absurd ha List.not_mem_nil
  | leaf _ _ ih => exact ih
  | cold _ _ _ _ _ i1 i2 => exact i2
  | hot h1 h2 h3 f1 i1 =>
    intro a ha o e
    obtain rfl | ha := List.mem_cons.mp ha
    · exact h2.tame h1 e
    · exact i1 a ha o e
theorem Le.tabs {T : List (Addr × Str)} (t : LamX.Tabs T H) (e : Le H H') : LamX.Tabs T H' := t.ext e
theorem tabs_upd {T : List (Addr × Str)} {o : HO} (t : LamX.Tabs T H) (h : ∀ u, H p = some u → Tame u) : LamX.Tabs T (upd H p o) := by
  intro x hx
  obtain ⟨ps, h1, h2, h3⟩ := t x hx
  have ne : ∀ a u, H a = some u → ¬ Tame u → upd H p o a = some u := fun a u e nt => by
    have hne : a ≠ p := fun z => by subst z; exact nt (h u e)
    rw [upd_ne hne]; exact e
  refine ⟨ps, ne _ _ h1 fun z => z.1 _ rfl, h2, fun pos cv hc => ?_⟩
  obtain ⟨c, e1, e2⟩ := h3 _ cv hc
  exact ⟨c, e1, ne _ _ e2 fun z => z.2 _ _ rfl⟩
theorem Sep.perm (S : Sep K mg F R H L) (e : L.Perm L') : Sep K mg F R H L' := by
  obtain ⟨A, f, n, q⟩ := S.fo
  obtain ⟨A', e', f'⟩ := f.perm e
  exact ⟨S.fh, S.rh, S.rf, S.nf, S.nr, S.tb, A', f', e'.nodup_iff.mp n, fun a ha => q a (e'.mem_iff.mpr ha)⟩
theorem Sep.drop (S : Sep K mg F R H (L1 ++ L2)) : Sep K mg F R H L2 := by
  obtain ⟨A, f, n, q⟩ := S.fo
  obtain ⟨A1, A2, rfl, f1, f2⟩ := f.split L1 L2 rfl
  exact ⟨S.fh, S.rh, S.rf, S.nf, S.nr, S.tb, A2, f2, (List.nodup_append.mp n).2.1, fun a ha => q a (List.mem_append_right _ ha)⟩
theorem Sep.left (S : Sep K mg F R H (L1 ++ L2)) : Sep K mg F R H L1 := (S.perm List.perm_append_comm).drop
theorem Sep.tail {y} (S : Sep K mg F R H (y :: L)) : Sep K mg F R H L := Sep.drop (L1 := [y]) S
/-- some of it is lent out; whatever comes back goes with the rest -/
theorem Sep.lend (S : Sep K mg F R H (L1 ++ L2)) : ∃ R', Sep K mg F R' H L1 ∧ ∀ F' H' L1', Le F F' → Sep K mg F' R' H' L1' → Sep K mg F' R H' (L1' ++ L2) := by
  obtain ⟨A, f, n, q⟩ := S.fo
  obtain ⟨A1, A2, rfl, f1, f2⟩ := f.split L1 L2 rfl
  obtain ⟨n1, n2, n3⟩ := List.nodup_append.mp n
  refine ⟨⟨fun a => if a ∈ A2 then H a else R a, R.T⟩, ⟨S.fh, fun a o e => ?_, fun a o e => ?_, S.nf, fun a o e => ?_, S.tb, A1, f1, n1, fun a ha => ⟨(q a (List.mem_append_left _ ha)).1, ?_⟩⟩, fun F' H' L1' le S' => ?_⟩
  · try dsimp only at e
    split at e
    · exact e
    · exact S.rh a o e
  · try dsimp only at e
    split at e
    · exact (q a (List.mem_append_right _ (by assumption))).1
    · exact S.rf a o e
  · try dsimp only at e
    split at e
    · exact (f2.tame a (by assumption) o e).1
    · exact S.nr a o e
  · try dsimp only
    rw [if_neg fun z => n3 a ha a z rfl]
    exact (q a (List.mem_append_left _ ha)).2
  · obtain ⟨A1', f1', n1', q'⟩ := S'.fo
    have keep : ∀ a ∈ A2, H' a = H a := fun a ha => by
      obtain ⟨o, ho⟩ := f2.there a ha
      exact (S'.rh a o (show (if a ∈ A2 then H a else R a) = some o by rw [if_pos ha]; exact ho)).trans ho.symm
    have apart : ∀ a ∈ A1', a ∉ A2 := fun a ha z => by
      have := (q' a ha).2
      try dsimp only at this
      rw [if_pos z] at this
      obtain ⟨o, ho⟩ := f2.there a z
      rw [ho] at this; cases this
    have rr : ∀ a o, R a = some o → (if a ∈ A2 then H a else R a) = some o := fun a o e => by
      rw [if_neg fun z => by have := (q a (List.mem_append_right _ z)).2; rw [e] at this; cases this]
      exact e
    refine ⟨S'.fh, fun a o e => S'.rh a o (rr a o e), fun a o e => S'.rf a o (rr a o e), S'.nf, S.nr, S'.tb, A1' ++ A2, f1'.app ((f2.le le).frame keep), List.nodup_append.mpr ⟨n1', n2, fun a ha b hb z => apart a ha (z ▸ hb)⟩, fun a ha => ?_⟩
    obtain ha | ha := List.mem_append.mp ha
    · have := (q' a ha).2
      try dsimp only at this
      rw [if_neg (apart a ha)] at this
      exact ⟨(q' a ha).1, this⟩
    · obtain ⟨o, ho⟩ := f2.there a ha
      exact ⟨S'.rf a o (show (if a ∈ A2 then H a else R a) = some o by rw [if_pos ha]; exact ho), (q a (List.mem_append_right _ ha)).2⟩
theorem Sep.freeze (S : Sep K mg F R H ((v, d) :: L)) : ∃ F', Le F F' ∧ Sep K mg F' R H ((v, frz d) :: L) := by
  obtain ⟨A, f, n, q⟩ := S.fo
  obtain ⟨A1, A2, rfl, f1, f2⟩ := f.split [(v, d)] L rfl
  obtain ⟨n1, n2, n3⟩ := List.nodup_append.mp n
  have le : Le F (fun a => if a ∈ A1 then H a else F a) := fun a o e => by
    try dsimp only
    rw [if_neg fun z => by have := (q a (List.mem_append_left _ z)).1; rw [e] at this; cases this]
    exact e
  refine ⟨fun a => if a ∈ A1 then H a else F a, le, fun a o e => ?_, S.rh, fun a o e => ?_, fun a o e => ?_, S.nr, S.tb, A2, ?_, n2, fun a ha => ⟨?_, (q a (List.mem_append_right _ ha)).2⟩⟩
  · try dsimp only at e
    split at e
    · exact e
    · exact S.fh a o e
  · try dsimp only
    rw [if_neg fun z => by have := (q a (List.mem_append_left _ z)).2; rw [e] at this; cases this]
    exact S.rf a o e
  · try dsimp only at e
    split at e
    · exact (f1.tame a (by assumption) o e).1
    · exact S.nf a o e
  · exact Fo.app (A1 := []) (f1.freeze (H' := H) le fun a ha => by rw [if_pos ha]) (f2.le le)
  · try dsimp only
    rw [if_neg fun z => n3 a z a ha rfl]
    exact (q a (List.mem_append_right _ ha)).1
theorem Fo.rep (h : Fo K mg F H [(some x, d)] []) : Rep K mg F x d := h.any _
theorem Sep.rep (S : Sep K mg F R H ((some x, d) :: L)) (hz : isFz d = true) : Rep K mg F x d := by
  obtain ⟨A, f, n, q⟩ := S.fo
  obtain ⟨A1, A2, rfl, f1, f2⟩ := f.split [(some x, d)] L rfl
  obtain rfl := f1.fz (by simpa using hz)
  exact f1.rep
theorem Sep.get (S : Sep K mg F R H L) {y} (hy : y ∈ L) : Sep K mg F R H [y] := by
  obtain ⟨s, t, rfl⟩ := List.append_of_mem hy
  exact Sep.left (L1 := [y]) (Sep.drop (L1 := s) S)
theorem Sep.rep_mem (S : Sep K mg F R H L) (hy : (some x, d) ∈ L) (hz : isFz d = true) : Rep K mg F x d := (S.get hy).rep hz
theorem Sep.add (S : Sep K mg F R H L) (r : Rep K mg F x d) : Sep K mg F R H ((some x, d) :: L) := by
  obtain ⟨A, f, n, q⟩ := S.fo
  exact ⟨S.fh, S.rh, S.rf, S.nf, S.nr, S.tb, A, Fo.app (A1 := []) (r.any H) f, n, q⟩
theorem Sep.adds (S : Sep K mg F R H L) (r : Reps K mg F vs xs) : Sep K mg F R H (kids vs xs ++ L) := by
  obtain ⟨A, f, n, q⟩ := S.fo
  exact ⟨S.fh, S.rh, S.rf, S.nf, S.nr, S.tb, A, Fo.app (A1 := []) (r.2.any H) f, n, q⟩
theorem Rep.le (e : Le F F') (r : Rep K mg F x d) : Rep K mg F' x d := Fo.le e r
theorem Reps.le (e : Le F F') (r : Reps K mg F vs xs) : Reps K mg F' vs xs := ⟨r.1, Fo.le e r.2⟩
theorem Rep.isFz (r : Rep K mg F x d) : isFz d = true := Fo.isFz_nil r rfl _ List.mem_cons_self
theorem Reps.nil : Reps K mg F [] [] := ⟨rfl, .nil⟩
theorem Reps.cons (r : Rep K mg F x d) (rs : Reps K mg F vs xs) : Reps K mg F (x :: vs) (d :: xs) := ⟨by simp [rs.1], Fo.app (A1 := []) r rs.2⟩
theorem Reps.uncons {ds : List D} (r : Reps K mg F (x :: vs) ds) : ∃ d xs, ds = d :: xs ∧ Rep K mg F x d ∧ Reps K mg F vs xs := by
  obtain ⟨h, f⟩ := r
  cases ds with
  | nil => cases h
  | cons d ds =>
    obtain ⟨A1, A2, e, f1, f2⟩ := f.split [(some x, d)] (kids vs ds) rfl
    obtain ⟨rfl, rfl⟩ := List.append_eq_nil_iff.mp (Eq.symm e)
    exact ⟨d, ds, rfl, f1, by simpa using h, f2⟩
theorem Reps.get : ∀ {vs : List V} {xs : List D} {i : Nat} {d : D}, Reps K mg F vs xs → xs[i]? = some d → ∃ y, vs[i]? = some y ∧ Rep K mg F y d
  | [], xs, i, d, r, h => by
    have := r.1
    cases xs with
    | nil => cases h
    | cons _ _ => cases this
  | x :: vs, xs, i, d, r, h => by
    obtain ⟨d', xs', rfl, r1, r2⟩ := r.uncons
    cases i with
    | zero => cases h; exact ⟨x, rfl, r1⟩
    | succ i =>
      obtain ⟨y, h1, h2⟩ := Reps.get (i := i) r2 (by simpa using h)
      exact ⟨y, by simpa using h1, h2⟩
theorem Reps.app : ∀ {vs ws : List V} {xs ys : List D}, Reps K mg F vs xs → Reps K mg F ws ys → Reps K mg F (vs ++ ws) (xs ++ ys)
  | [], ws, xs, ys, r, s => by
    have := r.1
    cases xs with
    | nil => exact s
    | cons _ _ => cases this
  | x :: vs, ws, xs, ys, r, s => by
    obtain ⟨d', xs', rfl, r1, r2⟩ := r.uncons
    exact Reps.cons r1 (Reps.app r2 s)
/-- of a node that is read -/
theorem Sep.node (S : Sep K mg F R H ((some x, .nd k xs) :: L)) : ∃ p vs, x = .ref p ∧ vs.length = xs.length ∧ Cont K mg H k.frz p vs ∧ Sep K mg F (if k.own then hold R H p else R) H (kids vs xs ++ L) ∧ (k.own = true → Cont K mg H k p vs ∧ F p = none ∧ R p = none) ∧
    (k.own = false → Cont K mg F k p vs ∧ Reps K mg F vs xs) := by
  obtain ⟨A, f, n, q⟩ := S.fo
  cases f with
  | leaf z _ => exact z.elim
  | @cold p _ _ vs _ _ h1 h2 h3 f1 f2 =>
    refine ⟨p, vs, rfl, h3, by rw [Kd.frz_of h1]; exact h2.le S.fh h1, ?_, fun z => absurd (h1.symm.trans z) Bool.false_ne_true, fun _ => ⟨h2, h3, f1.any _⟩⟩
    rw [h1]
    exact ⟨S.fh, S.rh, S.rf, S.nf, S.nr, S.tb, A, Fo.app (A1 := []) f1 f2, n, q⟩
  | @hot p _ _ vs _ A' h1 h2 h3 f1 =>
    obtain ⟨n1, n2⟩ := List.nodup_cons.mp n
    refine ⟨p, vs, rfl, h3, h2.cool rfl h1, ?_, fun _ => ⟨h2, q p List.mem_cons_self⟩, fun z => absurd (z.symm.trans h1) Bool.false_ne_true⟩
    rw [h1]
    have nt : ∀ u, H p = some u → Tame u := fun u hu => h2.tame h1 hu
    refine ⟨S.fh, fun a o e => ?_, fun a o e => ?_, S.nf, fun a o e => ?_, S.tb, A', f1, n2, fun a ha => ⟨(q a (List.mem_cons_of_mem _ ha)).1, ?_⟩⟩
    · simp only [if_true, hold] at e
      split at e
      · subst a; exact e
      · exact S.rh a o e
    · simp only [if_true, hold] at e
      split at e
      · subst a; exact (q _ List.mem_cons_self).1
      · exact S.rf a o e
    · simp only [if_true, hold] at e
      split at e
      · subst a; exact (nt o e).1
      · exact S.nr a o e
    · simp only [if_true, hold]
      rw [if_neg fun (z : a = p) => n1 (z ▸ ha)]
      exact (q a (List.mem_cons_of_mem _ ha)).2
/-- a node is laid anew at p: a new one (R p = none, H p = none) or one that was held -/
theorem Sep.close {o : HO} (hk : k.own = true) (hf : F p = none) (hr : R p = none) (S : Sep K mg F (hold R H p) H (kids vs xs ++ L)) (hl : vs.length = xs.length) (ht : ∀ u, H p = some u → Tame u) (hc : Cont K mg (upd H p o) k p vs) :
    Sep K mg F R (upd H p o) ((some (.ref p), .nd k xs) :: L) := by
  obtain ⟨A, f, n, q⟩ := S.fo
  have hp : H p ≠ none → p ∉ A := fun hn hp => by
    have := (q p hp).2
    simp only [hold, if_true] at this
    exact hn this
  have hp : p ∉ A := fun z => by
    obtain ⟨o, ho⟩ := f.there p z
    exact hp (by rw [ho]; exact fun z => by cases z) z
  have up : ∀ a, a ≠ p → upd H p o a = H a := fun a h => upd_ne h
  refine ⟨fun a u e => ?_, fun a u e => ?_, fun a u e => ?_, S.nf, fun a u e => ?_, tabs_upd S.tb ht, p :: A, .hot hk hc hl (f.frame fun a ha => up a fun z => hp (z ▸ ha)), List.nodup_cons.mpr ⟨hp, n⟩, fun a ha => ?_⟩
  · rw [up a fun z => by rw [z, hf] at e; cases e]; exact S.fh a u e
  · have ne : a ≠ p := fun z => by rw [z, hr] at e; cases e
    rw [up a ne]; exact S.rh a u (by simp only [hold]; rw [if_neg ne]; exact e)
  · have ne : a ≠ p := fun z => by rw [z, hr] at e; cases e
    exact S.rf a u (by simp only [hold]; rw [if_neg ne]; exact e)
  · have ne : a ≠ p := fun z => by rw [z, hr] at e; cases e
    exact S.nr a u (by simp only [hold]; rw [if_neg ne]; exact e)
  · obtain rfl | ha := List.mem_cons.mp ha
    · exact ⟨hf, hr⟩
    · refine ⟨(q a ha).1, ?_⟩
      have := (q a ha).2
      simp only [hold] at this
      rwa [if_neg fun (z : a = p) => hp (z ▸ ha)] at this
theorem hold_none (h : H p = none) (hr : R p = none) : hold R H p = R := by
  have e : (fun a => if a = p then H p else R a) = R.hp := by
    funext a
    try dsimp only
    split
    · subst a; rw [h, hr]
    · rfl
  show Rv.mk _ R.T = R
  rw [e]
/-- a new owned node -/
theorem Sep.new {o : HO} (S : Sep K mg F R H (kids vs xs ++ L)) (hp : H p = none) (hk : k.own = true) (hl : vs.length = xs.length) (hc : Cont K mg (upd H p o) k p vs) : Sep K mg F R (upd H p o) ((some (.ref p), .nd k xs) :: L) :=
  Sep.close hk (S.fh.free hp) (S.rh.free hp) (by rw [hold_none hp (S.rh.free hp)]; exact S) hl (fun u z => by rw [hp] at z; cases z) hc
/-- a new frozen thing in the heap -/
theorem Sep.cold {o : HO} (S : Sep K mg F R H L) (hp : H p = none) (ho : NoTbl o) : Le F (upd F p o) ∧ Sep K mg (upd F p o) R (upd H p o) L := by
  have hf := S.fh.free hp
  have hr := S.rh.free hp
  obtain ⟨A, f, n, q⟩ := S.fo
  have hA : ∀ a ∈ A, a ≠ p := fun a ha z => by
    obtain ⟨u, hu⟩ := f.there a ha
    rw [z, hp] at hu; cases hu
  refine ⟨Le.new hf, fun a u e => ?_, S.rh.over hp, fun a u e => ?_, fun a u e => ?_, S.nr, tabs_upd S.tb (fun u z => by rw [hp] at z; cases z), A, (f.le (Le.new hf)).frame fun a ha => upd_ne (hA a ha), n, fun a ha => ⟨?_, (q a ha).2⟩⟩
  · by_cases z : a = p
    · subst z; rw [upd_same] at e ⊢; exact e
    · rw [upd_ne z] at e ⊢; exact S.fh a u e
  · have ne : a ≠ p := fun z => by rw [z, hr] at e; cases e
    rw [upd_ne ne]; exact S.rf a u e
  · by_cases z : a = p
    · subst z; rw [upd_same] at e; cases e; exact ho
    · rw [upd_ne z] at e; exact S.nf a u e
  · rw [upd_ne (hA a ha)]; exact (q a ha).1
/-- what does not matter may change -/
theorem Sep.junk {o : HO} (S : Sep K mg F R H L) (hp : H p = none) : Sep K mg F R (upd H p o) L := by
  obtain ⟨A, f, n, q⟩ := S.fo
  have hA : ∀ a ∈ A, a ≠ p := fun a ha z => by
    obtain ⟨u, hu⟩ := f.there a ha
    rw [z, hp] at hu; cases hu
  exact ⟨S.fh.over hp, S.rh.over hp, S.rf, S.nf, S.nr, tabs_upd S.tb (fun u z => by rw [hp] at z; cases z), A, f.frame fun a ha => upd_ne (hA a ha), n, q⟩
/-- a new frozen node -/
theorem Sep.newCold {o : HO} (S : Sep K mg F R H L) (r : Reps K mg F vs xs) (hp : H p = none) (hk : k.own = false) (hc : Cont K mg (upd F p o) k p vs) (ho : NoTbl o) :
    ∃ F', Le F F' ∧ Sep K mg F' R (upd H p o) ((some (.ref p), .nd k xs) :: L) ∧ Rep K mg F' (.ref p) (.nd k xs) := by
  obtain ⟨le, S'⟩ := S.cold (o := o) hp ho
  have rp : Rep K mg (upd F p o) (.ref p) (.nd k xs) := .cold hk hc r.1 (r.le le).2 .nil
  exact ⟨_, le, S'.add rp, rp⟩
theorem perm_erase {α : Type} : ∀ {l : List α} {i : Nat} {x : α}, l[i]? = some x → l.Perm (x :: l.eraseIdx i)
  | [], i, x, h => by simp at h
  | y :: l, 0, x, h => by simp at h; subst h; exact .refl _
  | y :: l, i + 1, x, h => by
    have := perm_erase (l := l) (i := i) (x := x) (by simpa using h)
    exact (List.Perm.cons y this).trans (.swap _ _ _)
theorem set_erase {α : Type} : ∀ {l : List α} {i : Nat} {x : α}, i < l.length → (l.set i x).Perm (x :: l.eraseIdx i)
  | [], i, x, h => by simp at h
  | y :: l, 0, x, h => .refl _
  | y :: l, i + 1, x, h => by
    have := set_erase (l := l) (i := i) (x := x) (by simpa using h)
    exact (List.Perm.cons y this).trans (.swap _ _ _)
theorem zip_set {α β : Type} : ∀ {l : List α} {m : List β} {i : Nat} {x : α} {y : β}, (l.set i x).zip (m.set i y) = (l.zip m).set i (x, y)
  | [], m, i, x, y => by simp
  | a :: l, [], i, x, y => by simp
  | a :: l, b :: m, 0, x, y => rfl
  | a :: l, b :: m, i + 1, x, y => by simp only [List.set_cons_succ, List.zip_cons_cons, zip_set]
theorem zip_set_r {α β : Type} : ∀ {l : List α} {m : List β} {i : Nat} {x : α} {y : β}, l[i]? = some x → l.zip (m.set i y) = (l.zip m).set i (x, y) := fun {l m i x y} h => by
  rw [← zip_set]
  congr 1
  have ⟨hi, e⟩ := List.getElem?_eq_some_iff.mp h
  rw [← e, List.set_getElem_self]
end
end PI
set_option maxHeartbeats 3900000
namespace PI
open L2 PySem PyProof.Rows PySem.Spec
variable [Tb]
inductive O (α : Type) where
  | ok (a : α) (e : List D) | ex (c : Str) (ns : List Str) (xs : List D) (e : List D) | st
abbrev M (α : Type) := List D → O α
def O.bd {α β : Type} (o : O α) (f : α → List D → O β) : O β :=
  match o with
  | .ok a e => f a e
  | .ex c ns xs e => .ex c ns xs e
  | .st => .st
def bd {α β : Type} (m : M α) (f : α → M β) : M β := fun e => (m e).bd f
def rt {α : Type} (a : α) : M α := fun e => .ok a e
def no {α : Type} : M α := fun _ => .st
def ofO {α : Type} (o : Option α) : M α := fun e => match o with | some a => .ok a e | none => .st
@[simp] theorem O.bd_ok {α β : Type} (a : α) (e : List D) (f : α → List D → O β) : (O.ok a e).bd f = f a e := rfl
@[simp] theorem O.bd_ex {α β : Type} (c : Str) (ns : List Str) (xs e : List D) (f : α → List D → O β) : (O.ex c ns xs e : O α).bd f = .ex c ns xs e := rfl
@[simp] theorem O.bd_st {α β : Type} (f : α → List D → O β) : (O.st : O α).bd f = .st := rfl
@[simp] theorem bd_at {α β : Type} (m : M α) (f : α → M β) (e : List D) : bd m f e = (m e).bd f := rfl
@[simp] theorem rt_at {α : Type} (a : α) (e : List D) : rt a e = .ok a e := rfl
@[simp] theorem no_at {α : Type} (e : List D) : (no e : O α) = .st := rfl
@[simp] theorem ofO_some {α : Type} (a : α) (e : List D) : ofO (some a) e = .ok a e := rfl
@[simp] theorem ofO_none {α : Type} (e : List D) : (ofO none e : O α) = .st := rfl
def wpO {α : Type} (o : O α) (Qk : α → List D → Prop) (Qx : Str → List Str → List D → List D → Prop) : Prop :=
  match o with
  | .ok a e => Qk a e
  | .ex c ns xs e => Qx c ns xs e
  | .st => False
theorem wpO_bd {α β : Type} {m : M α} {f : α → M β} {e : List D} {Qk : β → List D → Prop} {Qx : Str → List Str → List D → List D → Prop} :
    wpO (bd m f e) Qk Qx ↔ wpO (m e) (fun a e' => wpO (f a e') Qk Qx) Qx := by
  unfold bd
  cases m e <;> rfl
theorem wpO_mono {α : Type} {o : O α} {Qk Qk' : α → List D → Prop} {Qx Qx' : Str → List Str → List D → List D → Prop} (h : wpO o Qk Qx) (h1 : ∀ a e, Qk a e → Qk' a e) (h2 : ∀ c ns xs e, Qx c ns xs e → Qx' c ns xs e) : wpO o Qk' Qx' := by
  cases o with
  | ok a e => exact h1 _ _ h
  | ex c ns xs e => exact h2 _ _ _ _ h
  | st => exact h
/-- a part that waits: a value, or the slot that holds it -/
inductive Op where
  | v (d : D) | s (i : Nat)
def res (en : List D) : Op → D
  | .v d => d
  | .s i => en.getD i .un
@[simp] theorem res_v (en : List D) (d : D) : res en (.v d) = d := rfl
@[simp] theorem res_s (en : List D) (i : Nat) : res en (.s i) = en.getD i .un := rfl
def tmps : List V → List Op → List (Option V × D)
  | x :: xs, .v d :: os => (some x, d) :: tmps xs os
  | _ :: xs, .s _ :: os => tmps xs os
  | _, _ => []
def AtOps (σ : L2.St) : List V → List Op → Prop
  | [], [] => True
  | _ :: xs, .v _ :: os => AtOps σ xs os
  | x :: xs, .s i :: os => σ[i]? = some (some x) ∧ AtOps σ xs os
  | _, _ => False
structure SepQ (K : PySem.W.Frag) (mg : Str → Option Value) (F : Hp) (R : Rv) (H : Hp) (σ : L2.St) (en : List D) (T : List (Option V × D)) : Prop where
  len : σ.length = en.length
  sep : Sep K mg F R H (T ++ σ.zip en)
abbrev SepE (X : Cx) (F : Hp) (R : Rv) (H : Hp) (σ : L2.St) (en : List D) (T : List (Option V × D)) : Prop := SepQ X.K X.mg F R H σ en T
/-- the fields of an exception -/
def XdAt (K : PySem.W.Frag) (mg : Str → Option Value) (F : Hp) (dx : Addr) (ns : List Str) (xs : List D) : Prop := ∃ vs, F dx = some (.xd (ns.zip vs)) ∧ ns.length = vs.length ∧ Reps K mg F vs xs
def OpsS (X : Cx) (F : Hp) (R : Rv) (H : Hp) (σ : L2.St) (en : List D) (vs : List V) (os : List Op) : Prop := AtOps σ vs os ∧ SepE X F R H σ en (tmps vs os)
/-- what is wanted when an exception leaves -/
def PXc (X : Cx) (W : WX) (F : Hp) (R : Rv) (σ : L2.St) (c : Str) (ns : List Str) (xs en : List D) : Prop := ∀ C dx H' F', Le F F' → X.mg c = some (.ref C) → XdAt X.K X.mg F' dx ns xs → SepE X F' R H' σ en [] → W (.ref C) (some dx) σ H'
def PVo (X : Cx) (F : Hp) (R : Rv) (σ : L2.St) (Q : VK) (o : Op) (en : List D) : Prop := ∀ v H' F', Le F F' → OpsS X F' R H' σ en [v] [o] → Q v H'
def PVs (X : Cx) (F : Hp) (R : Rv) (σ : L2.St) (Q : List V → Hp → Prop) (os : List Op) (en : List D) : Prop := ∀ vs H' F', Le F F' → OpsS X F' R H' σ en vs os → Q vs H'
def uE (X : Cx) (σ : L2.St) (H : Hp) (e : Expr) (Q : VK) : Prop := ∀ pins s, Inv X pins σ H s → wpAny (model X.prog X.w) X.A (eval e X.env) (EP X pins σ Q) X.xe s
def uT (X : Cx) (σ : L2.St) (H : Hp) (e : Expr) (Q : Bool → Hp → Prop) : Prop := ∀ pins s, Inv X pins σ H s → wpAny (model X.prog X.w) X.A (isTrue e X.env (eval e X.env)) (TP X pins σ Q) X.xe s
def uW (X : Cx) (σ : L2.St) (H : Hp) (e : Expr) (Q : Bool → Hp → Prop) : Prop := ∀ whole pins s, Inv X pins σ H s → wpAny (model X.prog X.w) X.A (isTrue e X.env whole) (TP X pins σ Q) X.xe s
def uA (X : Cx) (σ : L2.St) (H : Hp) (es : List Expr) (Q : List V → Hp → Prop) : Prop := ∀ pos pins s, Inv X pins σ H s → wpAny (model X.prog X.w) X.A (spliced (backTo pos (starEach es X.env))) (AP X pins σ Q) X.xe s
theorem uE.pe (X : Cx) (e : Expr) : PE X e (fun σ H Q => uE X σ H e Q) := ⟨fun pins s σ H Q I h => h pins s I⟩
theorem uT.pt (X : Cx) (e : Expr) : PT X e (fun σ H Q => uT X σ H e Q) := ⟨fun pins s σ H Q I h => h pins s I⟩
theorem uW.pw (X : Cx) (e : Expr) : PW X e (fun σ H Q => uW X σ H e Q) := ⟨fun wh pins s σ H Q I h => h wh pins s I⟩
theorem uA.pa (X : Cx) (es : List Expr) : PA X es (fun σ H Q => uA X σ H es Q) := ⟨fun pos pins s σ H Q I h => h pos pins s I⟩
theorem uE.of {X : Cx} {e : Expr} {t : TE} {σ : L2.St} {H : Hp} {Q : VK} (h : PE X e t) (q : t σ H Q) : uE X σ H e Q := fun pins s I => h.run pins s σ H Q I q
theorem uT.of {X : Cx} {e : Expr} {t : TT} {σ : L2.St} {H : Hp} {Q : Bool → Hp → Prop} (h : PT X e t) (q : t σ H Q) : uT X σ H e Q := fun pins s I => h.run pins s σ H Q I q
theorem uW.of {X : Cx} {e : Expr} {t : TT} {σ : L2.St} {H : Hp} {Q : Bool → Hp → Prop} (h : PW X e t) (q : t σ H Q) : uW X σ H e Q := fun wh pins s I => h.run wh pins s σ H Q I q
theorem uA.of {X : Cx} {es : List Expr} {t : TA} {σ : L2.St} {H : Hp} {Q : List V → Hp → Prop} (h : PA X es t) (q : t σ H Q) : uA X σ H es Q := fun pos pins s I => h.run pos pins s σ H Q I q
theorem uE.mono {X : Cx} {e : Expr} {σ : L2.St} {H : Hp} {Q Q' : VK} (h : uE X σ H e Q) (k : ∀ v H', Q v H' → Q' v H') : uE X σ H e Q' := fun pins s I => thn (h pins s I) fun u s' ⟨v, H', I', r, q⟩ => ⟨v, H', I', r, k _ _ q⟩
structure DO (X : Cx) (e : Expr) (f : M Op) : Prop where
  run : ∀ (W : WX) (F : Hp) (R : Rv) (H : Hp) (σ : L2.St) (en : List D) (Q : VK), Takes X W → SepE X F R H σ en [] → wpO (f en) (PVo X F R σ Q) (PXc X W F R σ) → uE X σ H e Q
structure DOs (X : Cx) (es : List Expr) (f : M (List Op)) : Prop where
  len : ∀ en os en', f en = .ok os en' → os.length = es.length
  run : ∀ (W : WX) (F : Hp) (R : Rv) (H : Hp) (σ : L2.St) (en : List D) (Q : List V → Hp → Prop), Takes X W → SepE X F R H σ en [] → wpO (f en) (PVs X F R σ Q) (PXc X W F R σ) → uA X σ H es Q
def PVt (X : Cx) (F : Hp) (R : Rv) (σ : L2.St) (Q : Bool → Hp → Prop) (b : Bool) (en : List D) : Prop := ∀ H' F', Le F F' → SepE X F' R H' σ en [] → Q b H'
structure DT (X : Cx) (e : Expr) (f : M Bool) : Prop where
  run : ∀ (W : WX) (F : Hp) (R : Rv) (H : Hp) (σ : L2.St) (en : List D) (Q : Bool → Hp → Prop), Takes X W → SepE X F R H σ en [] → wpO (f en) (PVt X F R σ Q) (PXc X W F R σ) → uT X σ H e Q
structure DW (X : Cx) (e : Expr) (f : M Bool) : Prop where
  run : ∀ (W : WX) (F : Hp) (R : Rv) (H : Hp) (σ : L2.St) (en : List D) (Q : Bool → Hp → Prop), Takes X W → SepE X F R H σ en [] → wpO (f en) (PVt X F R σ Q) (PXc X W F R σ) → uW X σ H e Q
section
variable {X : Cx} {F F' F1 H H' H1 : Hp} {R : Rv} {σ : L2.St} {en en' : List D} {T T' : List (Option V × D)} {vs : List V} {os : List Op} {v x y : V} {o : Op} {d : D} {i : Nat} {W : WX} {Q : VK}
theorem SepE.lend (S : SepE X F R H σ en T) : ∃ R', SepE X F R' H σ en [] ∧ ∀ F' H' σ' en' T', Le F F' → SepE X F' R' H' σ' en' T' → SepE X F' R H' σ' en' (T ++ T') := by
  obtain ⟨R', S', k⟩ := (S.sep.perm List.perm_append_comm).lend
  refine ⟨R', ⟨S.len, S'⟩, fun F' H' σ' en' T' le S2 => ⟨S2.len, ?_⟩⟩
  have := k F' H' _ le S2.sep
  refine this.perm ?_
  rw [List.append_assoc T T' _]
  exact List.perm_append_comm
theorem SepE.drop (S : SepE X F R H σ en (T ++ T')) : SepE X F R H σ en T' := ⟨S.len, by have := S.sep; rw [List.append_assoc] at this; exact this.drop⟩
theorem SepE.clear (S : SepE X F R H σ en T) : SepE X F R H σ en [] := ⟨S.len, S.sep.drop⟩
theorem SepE.rep (S : SepE X F R H σ en ((some x, d) :: T)) (hz : isFz d = true) : Rep X.K X.mg F x d := Sep.rep (L := T ++ σ.zip en) S.sep hz
theorem SepE.add (S : SepE X F R H σ en T) (r : Rep X.K X.mg F x d) : SepE X F R H σ en ((some x, d) :: T) := ⟨S.len, S.sep.add r⟩
theorem tmps_nil_of : tmps ([] : List V) os = [] := by cases os <;> rfl
theorem AtOps.len : ∀ {vs : List V} {os : List Op}, AtOps σ vs os → vs.length = os.length
  | [], [], _ => rfl
  | _ :: xs, .v _ :: os, h => by simp [AtOps.len (vs := xs) (os := os) h]
  | _ :: xs, .s _ :: os, h => by simp [AtOps.len (vs := xs) (os := os) h.2]
  | [], .v _ :: _, h => h.elim
  | [], .s _ :: _, h => h.elim
  | _ :: _, [], h => h.elim
theorem AtOps.app : ∀ {vs ws : List V} {os ps : List Op}, AtOps σ vs os → AtOps σ ws ps → AtOps σ (vs ++ ws) (os ++ ps)
  | [], _, [], _, _, k => k
  | _ :: xs, _, .v _ :: os, _, h, k => AtOps.app (vs := xs) (os := os) h k
  | _ :: xs, _, .s _ :: os, _, h, k => ⟨h.1, AtOps.app (vs := xs) (os := os) h.2 k⟩
  | [], _, .v _ :: _, _, h, _ => h.elim
  | [], _, .s _ :: _, _, h, _ => h.elim
  | _ :: _, _, [], _, h, _ => h.elim
theorem tmps_app : ∀ {vs ws : List V} {os ps : List Op}, AtOps σ vs os → tmps (vs ++ ws) (os ++ ps) = tmps vs os ++ tmps ws ps
  | [], _, [], _, _ => by simp [tmps]
  | _ :: xs, _, .v _ :: os, _, h => by simp only [List.cons_append, tmps, tmps_app (vs := xs) (os := os) h]
  | _ :: xs, _, .s _ :: os, _, h => by simp only [List.cons_append, tmps, tmps_app (vs := xs) (os := os) h.2]
  | [], _, .v _ :: _, _, h => h.elim
  | [], _, .s _ :: _, _, h => h.elim
  | _ :: _, _, [], _, h => h.elim
/-- where the parts stand -/
theorem mem_slot (hl : σ.length = en.length) (h : σ[i]? = some (some x)) : (some x, en.getD i .un) ∈ σ.zip en := by
  have hi := (List.getElem?_eq_some_iff.mp h).1
  refine List.mem_of_getElem? (i := i) ?_
  rw [List.getElem?_zip_eq_some]
  refine ⟨h, ?_⟩
  rw [List.getD_eq_getElem?_getD, List.getElem?_eq_getElem (hl ▸ hi)]
  rfl
theorem mem_ops (hl : σ.length = en.length) : ∀ {vs : List V} {os : List Op}, AtOps σ vs os → ∀ {i : Nat} {x : V}, vs[i]? = some x → ∃ o, os[i]? = some o ∧ (some x, res en o) ∈ tmps vs os ++ σ.zip en
  | [], _, _, i, x, h => by simp at h
  | y :: xs, .v d :: os, a, i, x, h => by
    cases i with
    | zero => simp at h; subst h; exact ⟨_, rfl, List.mem_cons_self⟩
    | succ i =>
      obtain ⟨o, h1, h2⟩ := mem_ops hl (vs := xs) (os := os) a (i := i) (x := x) (by simpa using h)
      exact ⟨o, by simpa using h1, List.mem_cons_of_mem _ h2⟩
  | y :: xs, .s j :: os, a, i, x, h => by
    cases i with
    | zero => simp at h; subst h; exact ⟨_, rfl, List.mem_append_right _ (mem_slot hl a.1)⟩
    | succ i =>
      obtain ⟨o, h1, h2⟩ := mem_ops hl (vs := xs) (os := os) a.2 (i := i) (x := x) (by simpa using h)
      exact ⟨o, by simpa using h1, h2⟩
  | _ :: _, [], a, _, _, _ => a.elim
theorem PXc.le (h : PXc X W F R σ c ns xs en) (e : Le F F') : PXc X W F' R σ c ns xs en := fun C dx H' F2 e2 => h C dx H' F2 (e.trans e2)
def dNil : M (List Op) := rt []
def dCons (f : M Op) (g : M (List Op)) : M (List Op) := bd f fun o => bd g fun os => rt (o :: os)
theorem dos_nil : DOs X [] dNil := ⟨fun en os en' h => by cases h; rfl, fun W F R H σ en Q tk S h => uA.of pa_nil (h [] H F (Le.refl F) ⟨trivial, S⟩)⟩
theorem dos_cons {e : Expr} {es : List Expr} {f : M Op} {g : M (List Op)} (h1 : DO X e f) (h2 : DOs X es g) (hs : starEach (e :: es) X.env = (false, eval e X.env) :: starEach es X.env := by rfl) : DOs X (e :: es) (dCons f g) := by
  refine ⟨fun en os en' h => ?_, fun W F R H σ en Q tk S h => ?_⟩
  · unfold dCons bd at h
    cases e1 : f en with
    | st => rw [e1] at h; cases h
    | ex => rw [e1] at h; cases h
    | ok o en1 =>
      rw [e1] at h
      simp only [O.bd_ok] at h
      cases e2 : g en1 with
      | st => rw [e2] at h; cases h
      | ex => rw [e2] at h; cases h
      | ok os' en2 =>
        rw [e2] at h
        cases h
        rw [List.length_cons, List.length_cons, h2.len _ _ _ e2]
  refine uA.of (pa_cons (uE.pe X e) (uA.pa X es) hs) ?_
  show uE X σ H e fun x H1 => uA X σ H1 es fun xs H2 => Q (x :: xs) H2
  unfold dCons at h
  rw [wpO_bd] at h
  refine h1.run W F R H σ en _ tk S (wpO_mono h (fun o en1 h v H1 F1 le1 S1 => ?_) fun _ _ _ _ k => k)
  rw [wpO_bd] at h
  obtain ⟨R', S2, back⟩ := S1.2.lend
  refine h2.run W F1 R' H1 σ en1 _ tk S2 (wpO_mono h (fun os en2 h vs H2 F2 le2 S3 => ?_) fun c ns xs en2 k C dx H' F' le m xd S' => ?_)
  · exact h (v :: vs) H2 F2 (le1.trans le2) ⟨S1.1.app S3.1, (tmps_app (vs := [v]) (os := [o]) S1.1 : tmps (v :: vs) (o :: os) = tmps [v] [o] ++ tmps vs os) ▸ back _ _ _ _ _ le2 S3.2⟩
  · exact k C dx H' F' (le1.trans le) m xd (back _ _ _ _ _ le S').clear
def dName (i : Nat) : M Op := fun en => match en.getD i .un with
  | .un => .st
  | _ => .ok (.s i) en
theorem Leaf.some (h : Leaf X.mg ov d) (hd : d ≠ .un) : ∃ v, ov = Option.some v := by
  cases d <;> first | exact absurd rfl hd | exact ⟨_, h⟩ | exact (let ⟨a, _, e⟩ := h; ⟨_, e⟩) | exact h.elim
theorem Sep.val {K : PySem.W.Frag} {mg : Str → Option Value} {ov : Option V} {L : List (Option V × D)} (S : Sep K mg F R H L) (h : (ov, d) ∈ L) (hd : d ≠ .un) : ∃ v, ov = some v := by
  obtain ⟨A, f, _⟩ := (S.get h).fo
  cases f with
  | leaf q _ => cases d <;> first | exact absurd rfl hd | exact ⟨_, q⟩ | exact (let ⟨a, _, e⟩ := q; ⟨_, e⟩) | exact q.elim
  | cold => exact ⟨_, rfl⟩
  | hot => exact ⟨_, rfl⟩
theorem do_name (i : Nat) {x : Str} {pos : Pos} (hN : X.N[i]? = some x := by rfl) (hv : Vis X.env.scope x := by first | exact Or.inl rfl | exact Or.inr (Or.inl rfl) | exact Or.inr (Or.inr rfl)) (hd : (x == ("__debug__" : Str)) = false := by decide)
    (hcd : (x == ("__classdict__" : Str)) = false := by decide) : DO X (.Name x pos) (dName i) := by
  refine ⟨fun W F R H σ en Q tk S h pins s I => ?_⟩
  have hi : i < en.length := by rw [← S.len, I.len]; exact (List.getElem?_eq_some_iff.mp hN).1
  have hi' : i < σ.length := by rw [S.len]; exact hi
  have e : en.getD i .un = en[i] := by rw [List.getD_eq_getElem?_getD, List.getElem?_eq_getElem hi]; rfl
  unfold dName at h
  rw [e] at h
  by_cases hu : en[i] = .un
  · rw [hu] at h; exact h.elim
  have m : (σ[i], en[i]) ∈ σ.zip en := List.mem_of_getElem? (i := i) (by rw [List.getElem?_zip_eq_some]; exact ⟨List.getElem?_eq_getElem hi', List.getElem?_eq_getElem hi⟩)
  obtain ⟨v, ev⟩ := S.sep.val m hu
  have hσ : σ[i]? = some (some v) := by rw [List.getElem?_eq_getElem hi', ev]
  refine (pe_var hN hv hd hcd).run pins s σ H Q I ⟨v, hσ, ?_⟩
  have h' : PVo X F R σ Q (.s i) en := by
    revert h
    cases en[i] <;> first | exact fun z => z.elim | exact fun z => z
  exact h' v H F (Le.refl F) ⟨⟨hσ, trivial⟩, S⟩
theorem leaf_rep {K : PySem.W.Frag} {mg : Str → Option Value} (h : Leaf mg (some x) d) : Rep K mg F x d := .leaf h .nil
def dC (d : D) : M Op := rt (.v d)
theorem do_const {e : Expr} (d : D) (v : V) (hp : PE X e (tC v)) (hl : Leaf X.mg (some v) d) : DO X e (dC d) :=
  ⟨fun W F R H σ en Q tk S h => uE.of hp (h v H F (Le.refl F) ⟨trivial, S.add (leaf_rep hl)⟩)⟩
theorem do_int {i : Int} {j pos} : DO X (.Constant (.int i) j pos) (dC (.int i)) := do_const _ _ pe_int rfl
theorem do_bl {b : Bool} {j pos} : DO X (.Constant (.bool b) j pos) (dC (.bl b)) := do_const _ _ pe_bl rfl
theorem do_non {j pos} : DO X (.Constant .none j pos) (dC .non) := do_const _ _ pe_non rfl
theorem do_str {x : Str} {j pos} : DO X (.Constant (.str x) j pos) (dC (.str x)) := do_const _ _ pe_str rfl
/-- a def or a class of the module, as a value -/
theorem do_fn {x : Str} {a : Addr} {pos : Pos} (hg : Gl X x) (hm : X.mg x = some (.ref a)) (hd : (x == ("__debug__" : Str)) = false := by decide) : DO X (.Name x pos) (dC (.fn x)) :=
  do_const _ (.ref a) (pe_glob hg hm rfl hd) ⟨a, hm, rfl⟩
def Prim2 (X : Cx) (f : Value → Value → Sem Value) (g : D → D → Option D) : Prop := ∀ (F : Hp) (R : Rv) (H : Hp) (L : List (Option V × D)) (x y : V) (dx dy r : D) (Q : VK), Sep X.K X.mg F R H L → (some x, dx) ∈ L → (some y, dy) ∈ L → g dx dy = some r →
  (∀ v F' H', Le F F' → Sep X.K X.mg F' R H' ((some v, r) :: L) → Q v H') → ∃ rr, OpR X f rr ∧ rr x y H Q
def Prim1 (X : Cx) (f : Value → Sem Value) (g : D → Option D) : Prop := ∀ (F : Hp) (R : Rv) (H : Hp) (L : List (Option V × D)) (x : V) (dx r : D) (Q : VK), Sep X.K X.mg F R H L → (some x, dx) ∈ L → g dx = some r →
  (∀ v F' H', Le F F' → Sep X.K X.mg F' R H' ((some v, r) :: L) → Q v H') → ∃ rr, UnR X f rr ∧ rr x H Q
def PrimN (X : Cx) (f : Value) (g : List D → Option D) : Prop := ∀ (F : Hp) (R : Rv) (H : Hp) (L : List (Option V × D)) (vs : List V) (ds : List D) (r : D) (Q : VK), Sep X.K X.mg F R H L → vs.length = ds.length → (∀ (i : Nat) v d, vs[i]? = some v → ds[i]? = some d → (some v, d) ∈ L) → g ds = some r →
  (∀ v F' H', Le F F' → Sep X.K X.mg F' R H' ((some v, r) :: L) → Q v H') → ∃ rr, CallR X f rr ∧ rr vs H Q
def dOp2 (g : D → D → Option D) (fa fb : M Op) : M Op := bd fa fun a => bd fb fun b => fun en => ofO ((g (res en a) (res en b)).map .v) en
def dOp1 (g : D → Option D) (fa : M Op) : M Op := bd fa fun a => fun en => ofO ((g (res en a)).map .v) en
def dPrim (g : List D → Option D) (f : M (List Op)) : M Op := bd f fun os => fun en => ofO ((g (os.map (res en))).map .v) en
/-- two parts, then what is asked of both -/
theorem two {e1 e2 : Expr} {fa fb : M Op} {k : Op → Op → M Op} (h1 : DO X e1 fa) (h2 : DO X e2 fb) (tk : Takes X W) (S : SepE X F R H σ en []) (h : wpO (bd fa (fun a => bd fb fun b => k a b) en) (PVo X F R σ Q) (PXc X W F R σ)) {Q2 : V → V → Hp → Prop}
    (hk : ∀ x y a b en2 F2 H2, Le F F2 → OpsS X F2 R H2 σ en2 [x, y] [a, b] → wpO (k a b en2) (PVo X F R σ Q) (PXc X W F R σ) → Q2 x y H2) : uE X σ H e1 fun x H1 => uE X σ H1 e2 fun y H2 => Q2 x y H2 := by
  rw [wpO_bd] at h
  refine h1.run W F R H σ en _ tk S (wpO_mono h (fun a en1 h x H1 F1 le1 S1 => ?_) fun _ _ _ _ q => q)
  rw [wpO_bd] at h
  obtain ⟨R', S2, back⟩ := S1.2.lend
  refine h2.run W F1 R' H1 σ en1 _ tk S2 (wpO_mono h (fun b en2 h y H2 F2 le2 S3 => ?_) fun c ns xs en2 q C dx H' F' le m xd S' => ?_)
  · exact hk x y a b en2 F2 H2 (le1.trans le2) ⟨S1.1.app S3.1, (tmps_app (vs := [x]) (os := [a]) S1.1 : tmps [x, y] [a, b] = tmps [x] [a] ++ tmps [y] [b]) ▸ back _ _ _ _ _ le2 S3.2⟩ h
  · exact q C dx H' F' (le1.trans le) m xd (back _ _ _ _ _ le S').clear
theorem mem2 (S : OpsS X F R H σ en [x, y] [a, b]) : (some x, res en a) ∈ tmps [x, y] [a, b] ++ σ.zip en ∧ (some y, res en b) ∈ tmps [x, y] [a, b] ++ σ.zip en := by
  obtain ⟨o, h1, m1⟩ := mem_ops S.2.len S.1 (i := 0) (x := x) rfl
  obtain ⟨o', h1', m2⟩ := mem_ops S.2.len S.1 (i := 1) (x := y) rfl
  cases h1; cases h1'
  exact ⟨m1, m2⟩
theorem mem1 (S : OpsS X F R H σ en [x] [a]) : (some x, res en a) ∈ tmps [x] [a] ++ σ.zip en := by
  obtain ⟨o, h1, m1⟩ := mem_ops S.2.len S.1 (i := 0) (x := x) rfl
  cases h1
  exact m1
/-- the value r is made; the parts are given up -/
theorem made {os : List Op} {vs : List V} {r : D} {v : V} (len : σ.length = en.length) (S : Sep X.K X.mg F' R H' ((some v, r) :: (tmps vs os ++ σ.zip en))) : OpsS X F' R H' σ en [v] [.v r] := by
  refine ⟨trivial, len, ?_⟩
  have := S.perm (L' := tmps vs os ++ ((some v, r) :: σ.zip en)) List.perm_middle.symm
  exact this.drop
theorem do_op {op : Operator} {g : D → D → Option D} {a b : Expr} {fa fb : M Op} {pos : Pos} (hg : Prim2 X (binaryOp op) g) (h1 : DO X a fa) (h2 : DO X b fb) : DO X (.BinOp a op b pos) (dOp2 g fa fb) := by
  refine ⟨fun W F R H σ en Q tk S h => ?_⟩
  have := two h1 h2 tk S h (Q2 := fun x y H2 => ∃ rr, OpR X (binaryOp op) rr ∧ rr x y H2 Q) fun x y a b en2 F2 H2 le S2 h => by
    obtain ⟨m1, m2⟩ := mem2 S2
    cases e : g (res en2 a) (res en2 b) with
    | none => simp only [e, Option.map_none, ofO_none] at h; exact h.elim
    | some r =>
      simp only [e, Option.map_some, ofO_some] at h
      exact hg F2 R H2 _ x y _ _ r Q S2.2.sep m1 m2 e fun v F' H' le' S' => h v H' F' (le.trans le') (made S2.2.len S')
  intro pins s I
  exact wpAny_BinOp (bin (uE.pe X a) (uE.pe X b) I this fun v u s2 x y H2 I2 rx ry q => by
    obtain ⟨rr, ho, q⟩ := q
    exact ho pins s2 σ H2 x y v u Q I2 rx ry q)
theorem do_cmp {op : CmpOp} {g : D → D → Option D} {a b : Expr} {fa fb : M Op} {pos : Pos} (hg : Prim2 X (compareOp op) g) (h1 : DO X a fa) (h2 : DO X b fb) (hm : behindInMarks op b = false) : DO X (.Compare a [op] [b] pos) (dOp2 g fa fb) := by
  refine ⟨fun W F R H σ en Q tk S h => ?_⟩
  have := two h1 h2 tk S h (Q2 := fun x y H2 => ∃ rr, OpR X (compareOp op) rr ∧ rr x y H2 Q) fun x y a b en2 F2 H2 le S2 h => by
    obtain ⟨m1, m2⟩ := mem2 S2
    cases e : g (res en2 a) (res en2 b) with
    | none => simp only [e, Option.map_none, ofO_none] at h; exact h.elim
    | some r =>
      simp only [e, Option.map_some, ofO_some] at h
      exact hg F2 R H2 _ x y _ _ r Q S2.2.sep m1 m2 e fun v F' H' le' S' => h v H' F' (le.trans le') (made S2.2.len S')
  refine uE.of (pe_cmpR (r := fun x y H Q => ∃ rr, OpR X (compareOp op) rr ∧ rr x y H Q) (fun pins s σ H x y v u Q I rx ry q => ?_) (uE.pe X a) (uE.pe X b) hm) this
  obtain ⟨rr, ho, q⟩ := q
  exact ho pins s σ H x y v u Q I rx ry q
theorem one {e1 : Expr} {fa : M Op} {k : Op → M Op} (h1 : DO X e1 fa) (tk : Takes X W) (S : SepE X F R H σ en []) (h : wpO (bd fa k en) (PVo X F R σ Q) (PXc X W F R σ)) {Q2 : V → Hp → Prop}
    (hk : ∀ x a en2 F2 H2, Le F F2 → OpsS X F2 R H2 σ en2 [x] [a] → wpO (k a en2) (PVo X F R σ Q) (PXc X W F R σ) → Q2 x H2) : uE X σ H e1 Q2 := by
  rw [wpO_bd] at h
  exact h1.run W F R H σ en _ tk S (wpO_mono h (fun a en1 h x H1 F1 le1 S1 => hk x a en1 F1 H1 le1 S1 h) fun _ _ _ _ q => q)
theorem wpO_eq {α : Type} {o : O α} {Qk : α → List D → Prop} {Qx : Str → List Str → List D → List D → Prop} (h : wpO o Qk Qx) : wpO o (fun a e => o = .ok a e ∧ Qk a e) Qx := by
  cases o with
  | ok a e => exact ⟨rfl, h⟩
  | ex c ns xs e => exact h
  | st => exact h
theorem manyL {es : List Expr} {fa : M (List Op)} {k : List Op → M Op} (h1 : DOs X es fa) (tk : Takes X W) (S : SepE X F R H σ en []) (h : wpO (bd fa k en) (PVo X F R σ Q) (PXc X W F R σ)) {Q2 : List V → Hp → Prop}
    (hk : ∀ vs os en2 F2 H2, os.length = es.length → Le F F2 → OpsS X F2 R H2 σ en2 vs os → wpO (k os en2) (PVo X F R σ Q) (PXc X W F R σ) → Q2 vs H2) : uA X σ H es Q2 := by
  rw [wpO_bd] at h
  exact h1.run W F R H σ en _ tk S (wpO_mono (wpO_eq h) (fun a en1 ⟨e, h⟩ x H1 F1 le1 S1 => hk x a en1 F1 H1 (h1.len _ _ _ e) le1 S1 h) fun _ _ _ _ q => q)
theorem many {es : List Expr} {fa : M (List Op)} {k : List Op → M Op} (h1 : DOs X es fa) (tk : Takes X W) (S : SepE X F R H σ en []) (h : wpO (bd fa k en) (PVo X F R σ Q) (PXc X W F R σ)) {Q2 : List V → Hp → Prop}
    (hk : ∀ vs os en2 F2 H2, Le F F2 → OpsS X F2 R H2 σ en2 vs os → wpO (k os en2) (PVo X F R σ Q) (PXc X W F R σ) → Q2 vs H2) : uA X σ H es Q2 := by
  rw [wpO_bd] at h
  exact h1.run W F R H σ en _ tk S (wpO_mono h (fun a en1 h x H1 F1 le1 S1 => hk x a en1 F1 H1 le1 S1 h) fun _ _ _ _ q => q)
theorem do_un {op : UnaryOp} {g : D → Option D} {a : Expr} {fa : M Op} {pos : Pos} (hg : Prim1 X (unaryOp op) g) (h1 : DO X a fa) : DO X (.UnaryOp op a pos) (dOp1 g fa) := by
  refine ⟨fun W F R H σ en Q tk S h => ?_⟩
  have := one h1 tk S h (Q2 := fun x H2 => ∃ rr, UnR X (unaryOp op) rr ∧ rr x H2 Q) fun x a en2 F2 H2 le S2 h => by
    have m1 := mem1 S2
    cases e : g (res en2 a) with
    | none => simp only [e, Option.map_none, ofO_none] at h; exact h.elim
    | some r =>
      simp only [e, Option.map_some, ofO_some] at h
      exact hg F2 R H2 _ x _ r Q S2.2.sep m1 e fun v F' H' le' S' => h v H' F' (le.trans le') (made S2.2.len S')
  refine uE.of (pe_un (r := fun x H Q => ∃ rr, UnR X (unaryOp op) rr ∧ rr x H Q) (fun pins s σ H x v Q I rx q => ?_) (uE.pe X a)) this
  obtain ⟨rr, ho, q⟩ := q
  exact ho pins s σ H x v Q I rx q
/-- a built-in called by its name -/
theorem do_bi {id : String} {x : Str} {g : List D → Option D} {e : Expr} {es : List Expr} {f : M (List Op)} {p pos : Pos} (hc : PrimN X (.builtin id) g) (hg : Gl X x) (hm : X.mg x = none) (hv : bootBuiltins x = some (.builtin id)) (ha : DOs X (e :: es) f)
    (he : starEach (e :: es) X.env = (false, eval e X.env) :: starEach es X.env := by rfl) (hpl : (backTo pos (starEach es X.env)).any (·.1) = false := by rfl) (hn : x ≠ "__name__" := by decide) (hdb : (x == ("__debug__" : Str)) = false := by decide) : DO X (.Call (.Name x p) (e :: es) [] pos) (dPrim g f) := by
  refine ⟨fun W F R H σ en Q tk S h => ?_⟩
  have := many ha tk S h (Q2 := fun vs H2 => ∃ rr, CallR X (.builtin id) rr ∧ rr vs H2 Q) fun vs os en2 F2 H2 le S2 h => by
    cases q : g (os.map (res en2)) with
    | none => simp only [q, Option.map_none, ofO_none] at h; exact h.elim
    | some r =>
      simp only [q, Option.map_some, ofO_some] at h
      refine hc F2 R H2 _ vs _ r Q S2.2.sep (by rw [List.length_map]; exact S2.1.len) (fun i v d h1 h2 => ?_) q fun v F' H' le' S' => h v H' F' (le.trans le') (made S2.2.len S')
      obtain ⟨o, h3, m⟩ := mem_ops S2.2.len S2.1 h1
      rw [List.getElem?_map, h3] at h2
      cases h2
      exact m
  refine uE.of (pe_callB (r := fun vs H Q => ∃ rr, CallR X (.builtin id) rr ∧ rr vs H Q) (fun pins s σ H xs us Q I rx q => ?_) hg hm hv (uA.pa X (e :: es)) hn hdb he hpl) this
  obtain ⟨rr, ho, q⟩ := q
  exact ho pins s σ H xs us Q I rx q
theorem do_ty {T : String} {x : Str} {g : List D → Option D} {e : Expr} {es : List Expr} {f : M (List Op)} {p pos : Pos} (hc : PrimN X (.type T) g) (hg : Gl X x) (hm : X.mg x = none) (hv : bootBuiltins x = some (.type T)) (ha : DOs X (e :: es) f)
    (he : starEach (e :: es) X.env = (false, eval e X.env) :: starEach es X.env := by rfl) (hpl : (backTo pos (starEach es X.env)).any (·.1) = false := by rfl) (hn : x ≠ "__name__" := by decide) (hdb : (x == ("__debug__" : Str)) = false := by decide) : DO X (.Call (.Name x p) (e :: es) [] pos) (dPrim g f) := by
  refine ⟨fun W F R H σ en Q tk S h => ?_⟩
  have := many ha tk S h (Q2 := fun vs H2 => ∃ rr, CallR X (.type T) rr ∧ rr vs H2 Q) fun vs os en2 F2 H2 le S2 h => by
    cases q : g (os.map (res en2)) with
    | none => simp only [q, Option.map_none, ofO_none] at h; exact h.elim
    | some r =>
      simp only [q, Option.map_some, ofO_some] at h
      refine hc F2 R H2 _ vs _ r Q S2.2.sep (by rw [List.length_map]; exact S2.1.len) (fun i v d h1 h2 => ?_) q fun v F' H' le' S' => h v H' F' (le.trans le') (made S2.2.len S')
      obtain ⟨o, h3, m⟩ := mem_ops S2.2.len S2.1 h1
      rw [List.getElem?_map, h3] at h2
      cases h2
      exact m
  refine uE.of (pe_callTy (r := fun vs H Q => ∃ rr, CallR X (.type T) rr ∧ rr vs H Q) (fun pins s σ H xs us Q I rx q => ?_) hg hm hv (uA.pa X (e :: es)) hn hdb he hpl) this
  obtain ⟨rr, ho, q⟩ := q
  exact ho pins s σ H xs us Q I rx q
end
end PI
set_option maxHeartbeats 3900000
namespace PI
open L2 PySem PyProof.Rows PySem.Spec
variable [Tb]
section
variable {K : PySem.W.Frag} {mg : Str → Option Value} {F F' H H' : Hp} {R : Rv} {L : List (Option V × D)} {A : List Addr} {v : Option V} {d : D} {p : Addr} {k : Kd} {xs : List D} {vs : List V} {x y : V}
theorem Sep.leafAt (S : Sep K mg F R H L) (m : (v, d) ∈ L) (hk : ∀ k xs, d ≠ .nd k xs) : Leaf mg v d := by
  obtain ⟨A, f, _⟩ := (S.get m).fo
  cases f with
  | leaf q _ => exact q
  | cold => exact absurd rfl (hk _ _)
  | hot => exact absurd rfl (hk _ _)
theorem Sep.int (S : Sep K mg F R H L) {i : Int} (m : (some x, .int i) ∈ L) : x = .int i := Option.some.inj (S.leafAt m (by intro _ _ z; cases z))
theorem Sep.bl (S : Sep K mg F R H L) {i : Bool} (m : (some x, .bl i) ∈ L) : x = .bl i := Option.some.inj (S.leafAt m (by intro _ _ z; cases z))
theorem Sep.str (S : Sep K mg F R H L) {i : Str} (m : (some x, .str i) ∈ L) : x = .str i := Option.some.inj (S.leafAt m (by intro _ _ z; cases z))
theorem Sep.non (S : Sep K mg F R H L) (m : (some x, .non) ∈ L) : x = .non := Option.some.inj (S.leafAt m (by intro _ _ z; cases z))
theorem Sep.ty (S : Sep K mg F R H L) {n : String} (m : (some x, .ty n) ∈ L) : x = .ty n := Option.some.inj (S.leafAt m (by intro _ _ z; cases z))
theorem kid_mem {i : Nat} {y : V} {d : D} (h1 : vs[i]? = some y) (h2 : xs[i]? = some d) : (some y, d) ∈ kids vs xs :=
  List.mem_of_getElem? (i := i) (by rw [List.getElem?_zip_eq_some]; exact ⟨by rw [List.getElem?_map, h1]; rfl, h2⟩)
/-- a node is read -/
theorem Sep.rd (S : Sep K mg F R H L) (m : (some x, .nd k xs) ∈ L) : ∃ p vs, x = .ref p ∧ vs.length = xs.length ∧ Cont K mg H k.frz p vs ∧ (∀ (i : Nat) y d, vs[i]? = some y → xs[i]? = some d → isFz d = true → Rep K mg F y d) := by
  obtain ⟨p, vs, e, hl, hc, S', _⟩ := (S.get m).node
  exact ⟨p, vs, e, hl, hc, fun i y d h1 h2 hz => S'.rep_mem (List.mem_append_left _ (kid_mem h1 h2)) hz⟩
theorem reps_of {R' : Rv} {H' : Hp} (S : Sep K mg F R' H' (kids vs xs ++ L)) (hl : vs.length = xs.length) (hz : isFzL xs = true) : Reps K mg F vs xs := by
  obtain ⟨A, f, n, q⟩ := S.fo
  obtain ⟨A1, A2, rfl, f1, f2⟩ := f.split (kids vs xs) L rfl
  obtain rfl := f1.fz (fz_kids hz)
  exact ⟨hl, f1.any _⟩
theorem Sep.rds (S : Sep K mg F R H L) (m : (some x, .nd k xs) ∈ L) (hz : isFzL xs = true) : ∃ p vs, x = .ref p ∧ vs.length = xs.length ∧ Cont K mg H k.frz p vs ∧ Reps K mg F vs xs := by
  obtain ⟨p, vs, e, hl, hc, S', _⟩ := (S.get m).node
  exact ⟨p, vs, e, hl, hc, reps_of S' hl hz⟩
theorem Reps.isFzL (r : Reps K mg F vs xs) : isFzL xs = true := by
  refine (isFzL_iff _).mpr fun y hy => ?_
  obtain ⟨i, hi⟩ := List.getElem?_of_mem hy
  obtain ⟨v, _, q⟩ := r.get hi
  exact q.isFz
theorem isFz_tup : isFz (.nd .tup xs) = isFzL xs := by simp [isFz, Kd.own]
/-- a new tuple -/
theorem Sep.tup (S : Sep K mg F R H L) (r : Reps K mg F vs xs) (hp : H p = none) : ∃ F', Le F F' ∧ Sep K mg F' R (upd H p (.tup vs)) ((some (.ref p), .nd .tup xs) :: L) := by
  obtain ⟨F', h1, h2, _⟩ := S.newCold (k := .tup) (o := .tup vs) r hp rfl upd_same (fun _ z => HO.noConfusion z)
  exact ⟨F', h1, h2⟩
/-- a new list -/
theorem Sep.lst (S : Sep K mg F R H L) (r : Reps K mg F vs xs) (hp : H p = none) : Sep K mg F R (upd H p (.lst vs)) ((some (.ref p), .nd (.lst true) xs) :: L) :=
  Sep.new (k := .lst true) (S.adds r) hp rfl r.1 upd_same
end
mutual
def plain : Nat → D → Bool
  | _, .non => true
  | _, .bl _ => true
  | _, .int _ => true
  | _, .str x => PyData.strOk x
  | n + 1, .nd .tup xs => plainL n xs
  | n + 1, .nd .rol xs => plainL n xs
  | n + 1, .nd (.lst _) xs => plainL n xs
  | _, _ => false
def plainL : Nat → List D → Bool
  | _, [] => true
  | n, x :: xs => plain n x && plainL n xs
end
mutual
def toPy : D → PyData
  | .bl b => .bool b
  | .int i => .int i
  | .str x => .str x
  | .nd .tup xs => .tuple (toPyL xs)
  | .nd .rol xs => .list (toPyL xs)
  | .nd (.lst _) xs => .list (toPyL xs)
  | _ => .none
def toPyL : List D → List PyData
  | [] => []
  | x :: xs => toPy x :: toPyL xs
end
mutual
theorem shaped_py : ∀ (d : D) (n : Nat), plain n d = true → (toPy d).canLay0 = true ∧ (toPy d).depth ≤ n
  | .non, n, _ => ⟨by simp [toPy, PyData.canLay0], by simp [toPy, PyData.depth]⟩
  | .bl _, n, _ => ⟨by simp [toPy, PyData.canLay0], by simp [toPy, PyData.depth]⟩
  | .int _, n, _ => ⟨by simp [toPy, PyData.canLay0], by simp [toPy, PyData.depth]⟩
  | .str x, n, h => ⟨by simpa [toPy, PyData.canLay0, plain] using h, by simp [toPy, PyData.depth]⟩
  | .nd .tup xs, n + 1, h => by
    have := shaped_pyL xs n (by simpa [plain] using h)
    exact ⟨by simpa [toPy, PyData.canLay0] using this.1, by simp only [toPy, PyData.depth]; omega⟩
  | .nd .rol xs, n + 1, h => by
    have := shaped_pyL xs n (by simpa [plain] using h)
    exact ⟨by simpa [toPy, PyData.canLay0] using this.1, by simp only [toPy, PyData.depth]; omega⟩
  | .nd (.lst _) xs, n + 1, h => by
    have := shaped_pyL xs n (by simpa [plain] using h)
    exact ⟨by simpa [toPy, PyData.canLay0] using this.1, by simp only [toPy, PyData.depth]; omega⟩
  | .nd .tup xs, 0, h => by simp [plain] at h
  | .nd .rol xs, 0, h => by simp [plain] at h
  | .nd (.lst _) xs, 0, h => by simp [plain] at h
  | .nd (.dk _ _) _, n, h => by cases n <;> simp [plain] at h
  | .nd (.dt _ _) _, n, h => by cases n <;> simp [plain] at h
  | .nd (.ob _ _ _) _, n, h => by cases n <;> simp [plain] at h
  | .un, n, h => by cases n <;> simp [plain] at h
  | .ty _, n, h => by cases n <;> simp [plain] at h
  | .fn _, n, h => by cases n <;> simp [plain] at h
theorem shaped_pyL : ∀ (xs : List D) (n : Nat), plainL n xs = true → PyData.canLayAll0 (toPyL xs) = true ∧ PyData.depthAll (toPyL xs) ≤ n
  | [], n, _ => ⟨by simp [toPyL, PyData.canLayAll0], by simp [toPyL, PyData.depthAll]⟩
  | x :: xs, n, h => by
    simp only [plainL, Bool.and_eq_true] at h
    have h1 := shaped_py x n h.1
    have h2 := shaped_pyL xs n h.2
    refine ⟨by simp [toPyL, PyData.canLayAll0, h1.1, h2.1], ?_⟩
    simp only [toPyL, PyData.depthAll]
    omega
end
theorem plainL_mem : ∀ {xs : List D} {n : Nat}, plainL n xs = true → ∀ x ∈ xs, plain n x = true
  | [], _, _, _, h => nomatch h
  | x :: xs, n, h, y, hy => by
    simp only [plainL, Bool.and_eq_true] at h
    obtain rfl | hy := List.mem_cons.mp hy
    · exact h.1
    · exact plainL_mem h.2 y hy
theorem dpAll_of {K : PySem.W.Frag} {H : Hp} : ∀ {vs : List V} {xs : List D}, vs.length = xs.length → (∀ x ∈ kids vs xs, ∀ v, x.1 = some v → Dp K H v (toPy x.2)) → DpAll K H vs (toPyL xs)
  | [], [], _, _ => .nil
  | v :: vs, x :: xs, h, k => .cons (k (some v, x) List.mem_cons_self v rfl) (dpAll_of (by simpa using h) fun y hy => k y (List.mem_cons_of_mem _ hy))
  | [], _ :: _, h, _ => (by cases h)
  | _ :: _, [], h, _ => (by cases h)
theorem Fo.dp {K : PySem.W.Frag} {mg : Str → Option Value} {F H : Hp} {L : List (Option V × D)} {A : List Addr} (le : Le F H) (h : Fo K mg F H L A) : ∀ x ∈ L, ∀ v n, x.1 = some v → plain n x.2 = true → Dp K H v (toPy x.2) := by
  induction h with
  | nil => exact fun x z => nomatch z
  | @leaf ov d L A q _ ih =>
    intro x hx v n e hp
    obtain rfl | hx := List.mem_cons.mp hx
    · dsimp only at e hp ⊢
      subst e
      cases d with
      | non => cases q; exact .non
      | bl b => cases q; exact .bl b
      | int b => cases q; exact .int b
      | str b => cases q; exact .str b
      | nd k xs => exact q.elim
      | un => cases n <;> simp [plain] at hp
      | ty _ => cases n <;> simp [plain] at hp
      | fn _ => cases n <;> simp [plain] at hp
    · exact ih x hx v n e hp
  | @cold p k xs vs L A h1 h2 h3 _ _ i1 i2 =>
    intro x hx v n e hp
    obtain rfl | hx := List.mem_cons.mp hx
    · cases e
      have go : ∀ m, plainL m xs = true → DpAll K H vs (toPyL xs) := fun m hm => dpAll_of h3 fun y hy v e => i1 y hy v m e (plainL_mem hm _ (List.of_mem_zip hy).2)
      cases n with
      | zero => cases k <;> simp [plain] at hp
      | succ n =>
        cases k with
        | tup => simp only [toPy]; exact .tup (SqT.of (le _ _ h2)) (go n (by simpa [plain] using hp))
        | rol => simp only [toPy]; exact .lst (le.sqL h2) (go n (by simpa [plain] using hp))
        | lst o => simp only [toPy]; exact .lst (SqL.of (le _ _ h2)) (go n (by simpa [plain] using hp))
        | dk _ _ => simp [plain] at hp
        | dt _ _ => simp [plain] at hp
        | ob _ _ _ => simp [plain] at hp
    · exact i2 x hx v n e hp
  | @hot p k xs vs L A h1 h2 h3 _ ih =>
    intro x hx v n e hp
    obtain rfl | hx := List.mem_cons.mp hx
    · cases e
      have go : ∀ m, plainL m xs = true → DpAll K H vs (toPyL xs) := fun m hm => dpAll_of h3 fun y hy v e => ih y (List.mem_append_left _ hy) v m e (plainL_mem hm _ (List.of_mem_zip hy).2)
      cases n with
      | zero => cases k <;> simp [plain] at hp
      | succ n =>
        cases k with
        | tup => cases h1
        | rol => cases h1
        | lst o => simp only [toPy]; exact .lst (SqL.of h2) (go n (by simpa [plain] using hp))
        | dk _ _ => simp [plain] at hp
        | dt _ _ => simp [plain] at hp
        | ob _ _ _ => simp [plain] at hp
    · exact ih x (List.mem_append_right _ hx) v n e hp
theorem Sep.dp {K : PySem.W.Frag} {mg : Str → Option Value} {F H : Hp} {R : Rv} {L : List (Option V × D)} {x : V} {d : D} (S : Sep K mg F R H L) (m : (some x, d) ∈ L) (h : plain 60 d = true) : Dp K H x (toPy d) ∧ SeqAt.shaped (toPy d) = true := by
  obtain ⟨A, f, _⟩ := S.fo
  refine ⟨f.dp S.fh _ m x 60 rfl h, ?_⟩
  have := shaped_py d 60 h
  simp only [SeqAt.shaped, this.1, Bool.true_and, decide_eq_true_eq]
  omega
def gI (f : Int → Int → Option D) : D → D → Option D
  | .int i, .int j => f i j
  | _, _ => none
def gAdd : D → D → Option D
  | .int i, .int j => some (.int (i + j))
  | .str x, .str y => if x.length + y.length ≤ sizeLine then some (.str (x ++ y)) else none
  | .nd .tup xs, .nd .tup ys => if isFzL xs && isFzL ys && decide (xs.length + ys.length ≤ sizeLine) then some (.nd .tup (xs ++ ys)) else none
  | .nd (.lst _) xs, .nd (.lst _) ys => if isFzL xs && isFzL ys && decide (xs.length + ys.length ≤ sizeLine) then some (.nd (.lst true) (xs ++ ys)) else none
  | _, _ => none
def gSub : D → D → Option D := gI fun i j => some (.int (i - j))
def gMul : D → D → Option D
  | .int i, .int j => if i.natAbs.log2 + j.natAbs.log2 < 1000000 then some (.int (i * j)) else none
  | .nd (.lst _) xs, .int k => if isFzL xs && decide (-(2 ^ 63) ≤ k ∧ k < 2 ^ 63 ∧ xs.length * k.toNat ≤ sizeLine) then some (.nd (.lst true) (List.replicate k.toNat xs).flatten) else none
  | _, _ => none
def gDiv : D → D → Option D := gI fun i j => if 0 < j ∧ j.natAbs.log2 < 9000 then some (.int (i / j)) else if j < 0 ∧ j.natAbs < 1073741824 then some (.int (i.fdiv j)) else none
def gMod : D → D → Option D := gI fun i j => if 0 < j then some (.int (i % j)) else if j < 0 then some (.int (i.fmod j)) else none
def gPow : D → D → Option D := gI fun i j => if 0 ≤ j ∧ j ≤ 1000000 ∧ i.natAbs < 2 ^ 64 then some (.int (i ^ j.toNat)) else none
def gShl : D → D → Option D := gI fun i j => if 0 ≤ j ∧ j ≤ 1000000 ∧ i.natAbs < 2 ^ 64 then some (.int (i * 2 ^ j.toNat)) else none
def gShr : D → D → Option D := gI fun i j => if 0 ≤ j then some (.int (i / 2 ^ j.toNat)) else none
def gAnd : D → D → Option D := gI fun i j => some (.int (Builtin.bitAnd i j))
def gOr : D → D → Option D := gI fun i j => some (.int (Builtin.bitOr i j))
def gXor : D → D → Option D := gI fun i j => some (.int (Builtin.bitXor i j))
def gNeg : D → Option D
  | .int i => some (.int (-i))
  | _ => none
def gInv : D → Option D
  | .int i => some (.int (Builtin.bitNot i))
  | _ => none
def gLt : D → D → Option D
  | .int i, .int j => some (.bl (decide (i < j)))
  | .str i, .str j => some (.bl (decide (i.cps.toList < j.cps.toList)))
  | _, _ => none
def gLe : D → D → Option D := gI fun i j => some (.bl (decide (i ≤ j)))
def gGt : D → D → Option D := gI fun i j => some (.bl (decide (j < i)))
def gGe : D → D → Option D := gI fun i j => some (.bl (decide (j ≤ i)))
def gEq (d e : D) : Option D := if plain 60 d && plain 60 e then some (.bl (PyData.eqv (toPy d) (toPy e))) else none
def gNe (d e : D) : Option D := if plain 60 d && plain 60 e then some (.bl (!PyData.eqv (toPy d) (toPy e))) else none
def isNon : D → Option Bool
  | .non => some true
  | .un => none
  | _ => some false
def gIsN (d e : D) : Option D := match e with
  | .non => (isNon d).map .bl
  | _ => none
def gIsNotN (d e : D) : Option D := match e with
  | .non => (isNon d).map fun b => .bl (!b)
  | _ => none
def gIsB : D → D → Option D
  | .bl a, .bl b => some (.bl (decide (a = b)))
  | _, _ => none
def gIsNotB : D → D → Option D
  | .bl a, .bl b => some (.bl (!decide (a = b)))
  | _, _ => none
section
variable {X : Cx}
theorem fin_leaf {F H : Hp} {R : Rv} {L : List (Option V × D)} {Q : VK} {r : D} {v : V} (S : Sep X.K X.mg F R H L) (hQ : ∀ v F' H', Le F F' → Sep X.K X.mg F' R H' ((some v, r) :: L) → Q v H') (hl : Leaf X.mg (some v) r) : Q v H := hQ v F H (Le.refl F) (S.add (leaf_rep hl))
theorem p2I {f : Value → Value → Sem Value} {g : Int → Int → Option D} {C : Int → Int → Prop} {h : Int → Int → V} (ho : OpR X f (rI C h)) (hg : ∀ i j r, g i j = some r → C i j ∧ Leaf X.mg (some (h i j)) r) : Prim2 X f (gI g) := by
  intro F R H L x y dx dy r Q S m1 m2 e hQ
  cases dx <;> cases dy <;> first | (simp only [gI] at e; cases e; done) | skip
  rename_i i j
  obtain rfl := S.int m1
  obtain rfl := S.int m2
  obtain ⟨c, l⟩ := hg i j r e
  exact ⟨_, ho, i, j, rfl, rfl, c, fin_leaf S hQ l⟩
theorem rI_of {f : Value → Value → Sem Value} {h : Int → Int → V} (ho : OpR X f (rI0 h)) : OpR X f (rI (fun _ _ => True) h) := fun pins s σ H x y v u Q I rx ry ⟨i, j, e1, e2, _, q⟩ => ho pins s σ H x y v u Q I rx ry ⟨i, j, e1, e2, q⟩
theorem p2I0 {f : Value → Value → Sem Value} {g : Int → Int → D} {h : Int → Int → V} (ho : OpR X f (rI0 h)) (hg : ∀ i j, Leaf X.mg (some (h i j)) (g i j)) : Prim2 X f (gI fun i j => some (g i j)) :=
  p2I (rI_of ho) fun i j r e => by cases e; exact ⟨trivial, hg i j⟩
theorem Prim2.or {f : Value → Value → Sem Value} {g : Int → Int → Option D} {C C' : Int → Int → Prop} {h h' : Int → Int → V} (ho : OpR X f (rI C h)) (ho' : OpR X f (rI C' h')) (hg : ∀ i j r, g i j = some r → (C i j ∧ Leaf X.mg (some (h i j)) r) ∨ (C' i j ∧ Leaf X.mg (some (h' i j)) r)) : Prim2 X f (gI g) := by
  intro F R H L x y dx dy r Q S m1 m2 e hQ
  cases dx <;> cases dy <;> first | (simp only [gI] at e; cases e; done) | skip
  rename_i i j
  obtain rfl := S.int m1
  obtain rfl := S.int m2
  rcases hg i j r e with ⟨c, l⟩ | ⟨c, l⟩
  · exact ⟨_, ho, i, j, rfl, rfl, c, fin_leaf S hQ l⟩
  · exact ⟨_, ho', i, j, rfl, rfl, c, fin_leaf S hQ l⟩
theorem ok_sub : Prim2 X (binaryOp .Sub) gSub := p2I0 op_sub fun _ _ => rfl
theorem ok_and : Prim2 X (binaryOp .BitAnd) gAnd := p2I0 op_and fun _ _ => rfl
theorem ok_or : Prim2 X (binaryOp .BitOr) gOr := p2I0 op_or fun _ _ => rfl
theorem ok_xor : Prim2 X (binaryOp .BitXor) gXor := p2I0 op_xor fun _ _ => rfl
theorem ok_le : Prim2 X (compareOp .LtE) gLe := p2I0 op_le fun _ _ => rfl
theorem ok_gt : Prim2 X (compareOp .Gt) gGt := p2I0 op_gt fun _ _ => rfl
theorem ok_ge : Prim2 X (compareOp .GtE) gGe := p2I0 op_ge fun _ _ => rfl
theorem ok_pow : Prim2 X (binaryOp .Pow) gPow := p2I op_pow fun i j r e => by
  split at e
  · rename_i h; cases e; exact ⟨h, rfl⟩
  · cases e
theorem ok_shl : Prim2 X (binaryOp .LShift) gShl := p2I op_shl fun i j r e => by
  split at e
  · rename_i h; cases e; exact ⟨h, rfl⟩
  · cases e
theorem ok_shr : Prim2 X (binaryOp .RShift) gShr := p2I op_shr fun i j r e => by
  split at e
  · rename_i h; cases e; exact ⟨h, rfl⟩
  · cases e
theorem ok_div : Prim2 X (binaryOp .FloorDiv) gDiv := Prim2.or op_fdivW op_fdivN fun i j r e => by
  split at e
  · rename_i h; cases e; exact .inl ⟨h, rfl⟩
  · split at e
    · rename_i h; cases e; exact .inr ⟨⟨by omega, h.2⟩, rfl⟩
    · cases e
theorem ok_mod : Prim2 X (binaryOp .Mod) gMod := Prim2.or op_mod op_modN fun i j r e => by
  split at e
  · rename_i h; cases e; exact .inl ⟨h, rfl⟩
  · split at e
    · rename_i h; cases e; exact .inr ⟨by omega, rfl⟩
    · cases e
theorem ok_lt : Prim2 X (compareOp .Lt) gLt := by
  intro F R H L x y dx dy r Q S m1 m2 e hQ
  cases dx <;> cases dy <;> first | (simp only [gLt] at e; cases e; done) | skip
  · obtain rfl := S.int m1
    obtain rfl := S.int m2
    cases e
    exact ⟨_, op_lt, _, _, rfl, rfl, fin_leaf S hQ rfl⟩
  · obtain rfl := S.str m1
    obtain rfl := S.str m2
    cases e
    exact ⟨_, op_lt_str, _, _, rfl, rfl, fin_leaf S hQ rfl⟩
theorem ok_neg : Prim1 X (unaryOp .USub) gNeg := by
  intro F R H L x dx r Q S m1 e hQ
  cases dx <;> first | (simp only [gNeg] at e; cases e; done) | skip
  obtain rfl := S.int m1
  cases e
  exact ⟨_, un_neg, _, rfl, fin_leaf S hQ rfl⟩
theorem ok_inv : Prim1 X (unaryOp .Invert) gInv := by
  intro F R H L x dx r Q S m1 e hQ
  cases dx <;> first | (simp only [gInv] at e; cases e; done) | skip
  obtain rfl := S.int m1
  cases e
  exact ⟨_, un_inv, _, rfl, fin_leaf S hQ rfl⟩
theorem ok_eq (hu : X.A.units + 64 < cLine) : Prim2 X (compareOp .Eq) gEq := by
  intro F R H L x y dx dy r Q S m1 m2 e hQ
  unfold gEq at e
  split at e
  · rename_i h
    cases e
    obtain ⟨h1, h2⟩ := Bool.and_eq_true_iff.mp h
    obtain ⟨d1, s1⟩ := S.dp m1 h1
    obtain ⟨d2, s2⟩ := S.dp m2 h2
    exact ⟨_, op_eqD hu, _, _, d1, d2, s1, s2, fin_leaf S hQ rfl⟩
  · cases e
theorem ok_ne (hu : X.A.units + 64 < cLine) : Prim2 X (compareOp .NotEq) gNe := by
  intro F R H L x y dx dy r Q S m1 m2 e hQ
  unfold gNe at e
  split at e
  · rename_i h
    cases e
    obtain ⟨h1, h2⟩ := Bool.and_eq_true_iff.mp h
    obtain ⟨d1, s1⟩ := S.dp m1 h1
    obtain ⟨d2, s2⟩ := S.dp m2 h2
    exact ⟨_, op_neD hu, _, _, d1, d2, s1, s2, fin_leaf S hQ rfl⟩
  · cases e
theorem isNon_ok {F H : Hp} {R : Rv} {L : List (Option V × D)} {x : V} {d : D} {b : Bool} (S : Sep X.K X.mg F R H L) (m : (some x, d) ∈ L) (e : isNon d = some b) : decide (x = .non) = b := by
  cases d with
  | un => cases e
  | non => cases e; exact decide_eq_true (S.non m)
  | nd k xs => cases e; obtain ⟨p, vs, rfl, _⟩ := S.rd m; rfl
  | int i => cases e; rw [S.int m]; rfl
  | bl i => cases e; rw [S.bl m]; rfl
  | str i => cases e; rw [S.str m]; rfl
  | ty i => cases e; rw [S.ty m]; rfl
  | fn x => cases e; obtain ⟨a, _, e⟩ := S.leafAt m (by intro _ _ z; cases z); cases e; rfl
theorem ok_isN : Prim2 X (compareOp .Is) gIsN := by
  intro F R H L x y dx dy r Q S m1 m2 e hQ
  cases dy <;> first | (simp only [gIsN] at e; cases e; done) | skip
  cases q : isNon dx with
  | none => simp only [gIsN, q] at e; cases e
  | some b =>
    simp only [gIsN, q, Option.map_some] at e
    cases e
    refine ⟨_, op_isN, S.non m2, ?_⟩
    rw [isNon_ok S m1 q]
    exact fin_leaf S hQ rfl
theorem ok_isNotN : Prim2 X (compareOp .IsNot) gIsNotN := by
  intro F R H L x y dx dy r Q S m1 m2 e hQ
  cases dy <;> first | (simp only [gIsNotN] at e; cases e; done) | skip
  cases q : isNon dx with
  | none => simp only [gIsNotN, q] at e; cases e
  | some b =>
    simp only [gIsNotN, q, Option.map_some] at e
    cases e
    refine ⟨_, op_notN, S.non m2, ?_⟩
    rw [isNon_ok S m1 q]
    exact fin_leaf S hQ rfl
theorem ok_isB : Prim2 X (compareOp .Is) gIsB := by
  intro F R H L x y dx dy r Q S m1 m2 e hQ
  cases dx <;> cases dy <;> first | (simp only [gIsB] at e; cases e; done) | skip
  obtain rfl := S.bl m1
  obtain rfl := S.bl m2
  cases e
  exact ⟨_, op_isBl, _, _, rfl, rfl, fin_leaf S hQ rfl⟩
theorem ok_isNotB : Prim2 X (compareOp .IsNot) gIsNotB := by
  intro F R H L x y dx dy r Q S m1 m2 e hQ
  cases dx <;> cases dy <;> first | (simp only [gIsNotB] at e; cases e; done) | skip
  obtain rfl := S.bl m1
  obtain rfl := S.bl m2
  cases e
  exact ⟨_, op_notBl, _, _, rfl, rfl, fin_leaf S hQ rfl⟩
theorem ok_add : Prim2 X (binaryOp .Add) gAdd := by
  intro F R H L x y dx dy r Q S m1 m2 e hQ
  have case1 : ∀ i j, dx = .int i → dy = .int j → ∃ rr, OpR X (binaryOp .Add) rr ∧ rr x y H Q := fun i j e1 e2 => by
    subst e1; subst e2
    obtain rfl := S.int m1
    obtain rfl := S.int m2
    cases e
    exact ⟨_, op_add, _, _, rfl, rfl, fin_leaf S hQ rfl⟩
  have case2 : ∀ i j, dx = .str i → dy = .str j → ∃ rr, OpR X (binaryOp .Add) rr ∧ rr x y H Q := fun i j e1 e2 => by
    subst e1; subst e2
    obtain rfl := S.str m1
    obtain rfl := S.str m2
    simp only [gAdd] at e
    split at e
    · cases e
      exact ⟨_, op_add_str, _, _, rfl, rfl, by assumption, fin_leaf S hQ rfl⟩
    · cases e
  have case3 : ∀ as bs, dx = .nd .tup as → dy = .nd .tup bs → ∃ rr, OpR X (binaryOp .Add) rr ∧ rr x y H Q := fun as bs e1 e2 => by
    subst e1; subst e2
    simp only [gAdd] at e
    split at e
    · rename_i h
      cases e
      simp only [decide_eq_true_eq, Bool.and_eq_true] at h
      obtain ⟨p, vs, rfl, l1, c1, r1⟩ := S.rds m1 h.1.1
      obtain ⟨q, ws, rfl, l2, c2, r2⟩ := S.rds m2 h.1.2
      refine ⟨_, op_catA, p, q, vs, ws, rfl, rfl, SqT.of c1, SqT.of c2, by omega, fun ha => ?_, fun _ hb => ?_, fun _ _ u hu => ?_⟩
      · subst ha
        have ea : as = [] := List.eq_nil_of_length_eq_zero (by simpa using l1.symm)
        subst ea
        rw [List.nil_append] at hQ
        exact hQ _ F H (Le.refl F) (S.add (S.rep_mem m2 (by rw [isFz_tup]; exact h.1.2)))
      · subst hb
        have eb : bs = [] := List.eq_nil_of_length_eq_zero (by simpa using l2.symm)
        subst eb
        rw [List.append_nil] at hQ
        refine hQ _ F H (Le.refl F) (S.add ?_)
        exact S.rep_mem m1 (by rw [isFz_tup]; exact h.1.1)
      · obtain ⟨F', le, S'⟩ := S.tup (r1.app r2) hu
        exact hQ _ F' _ le S'
    · cases e
  have case4 : ∀ o o' as bs, dx = .nd (.lst o) as → dy = .nd (.lst o') bs → ∃ rr, OpR X (binaryOp .Add) rr ∧ rr x y H Q := fun o o' as bs e1 e2 => by
    subst e1; subst e2
    simp only [gAdd] at e
    split at e
    · rename_i h
      cases e
      simp only [decide_eq_true_eq, Bool.and_eq_true] at h
      obtain ⟨p, vs, rfl, l1, c1, r1⟩ := S.rds m1 h.1.1
      obtain ⟨q, ws, rfl, l2, c2, r2⟩ := S.rds m2 h.1.2
      exact ⟨_, op_cat, p, q, vs, ws, rfl, rfl, c1, c2, by omega, fun u hu => hQ _ F _ (Le.refl F) (S.lst (r1.app r2) hu)⟩
    · cases e
  match dx, dy, case1, case2, case3, case4, e with
  | .int i, .int j, c, _, _, _, _ => exact c i j rfl rfl
  | .str i, .str j, _, c, _, _, _ => exact c i j rfl rfl
  | .nd .tup as, .nd .tup bs, _, _, c, _, _ => exact c as bs rfl rfl
  | .nd (.lst o) as, .nd (.lst o') bs, _, _, _, c, _ => exact c o o' as bs rfl rfl
theorem reps_flat {K : PySem.W.Frag} {mg : Str → Option Value} {F : Hp} {vs : List V} {xs : List D} (r : Reps K mg F vs xs) : ∀ n : Nat, Reps K mg F (List.replicate n vs).flatten (List.replicate n xs).flatten
  | 0 => .nil
  | n + 1 => by simp only [List.replicate_succ, List.flatten_cons]; exact r.app (reps_flat r n)
theorem ok_mul : Prim2 X (binaryOp .Mult) gMul := by
  intro F R H L x y dx dy r Q S m1 m2 e hQ
  have case1 : ∀ i j, dx = .int i → dy = .int j → ∃ rr, OpR X (binaryOp .Mult) rr ∧ rr x y H Q := fun i j e1 e2 => by
    subst e1; subst e2
    obtain rfl := S.int m1
    obtain rfl := S.int m2
    simp only [gMul] at e
    split at e
    · cases e
      exact ⟨_, op_mulW, _, _, rfl, rfl, by assumption, fin_leaf S hQ rfl⟩
    · cases e
  have case4 : ∀ o as j, dx = .nd (.lst o) as → dy = .int j → ∃ rr, OpR X (binaryOp .Mult) rr ∧ rr x y H Q := fun o as j e1 e2 => by
    subst e1; subst e2
    obtain rfl := S.int m2
    simp only [gMul] at e
    split at e
    · rename_i h
      cases e
      simp only [decide_eq_true_eq, Bool.and_eq_true] at h
      obtain ⟨p, vs, rfl, l1, c1, r1⟩ := S.rds m1 h.1
      exact ⟨_, op_rep, p, j, vs, rfl, rfl, c1, h.2.1, h.2.2.1, by rw [l1]; exact h.2.2.2, fun u hu => hQ _ F _ (Le.refl F) (S.lst (reps_flat r1 _) hu)⟩
    · cases e
  match dx, dy, case1, case4, e with
  | .int i, .int j, c, _, _ => exact c i j rfl rfl
  | .nd (.lst o) as, .int j, _, c, _ => exact c o as j rfl rfl
end
end PI
set_option maxHeartbeats 3900000
namespace PI
open L2 PySem PyProof.Rows PySem.Spec
variable [Tb]
def cool (d : D) : D := if isFz d then d else frz d
def coolAt (en : List D) (i : Nat) : List D := if isFz (en.getD i .un) then en else en.set i (frz (en.getD i .un))
theorem cool_isFz (d : D) : isFz (cool d) = true := by
  unfold cool
  split
  · assumption
  · exact isFz_frz d
@[simp] theorem cool_of {d : D} (h : isFz d = true) : cool d = d := by unfold cool; rw [if_pos h]
@[simp] theorem coolAt_of {en : List D} {i : Nat} (h : isFz (en.getD i .un) = true) : coolAt en i = en := by unfold coolAt; rw [if_pos h]
def escD (en : List D) : Op → D
  | .v d => d
  | .s i => cool (en.getD i .un)
def escE (en : List D) : Op → List D
  | .v _ => en
  | .s i => coolAt en i
def escs : List Op → List D → List D × List D
  | [], en => ([], en)
  | o :: os, en => (escD en o :: (escs os (escE en o)).1, (escs os (escE en o)).2)
def cools : List Op → List D → List D × List D
  | [], en => ([], en)
  | o :: os, en => (cool (escD en o) :: (cools os (escE en o)).1, (cools os (escE en o)).2)
section
variable {X : Cx} {F F' F1 H H' H1 : Hp} {R : Rv} {σ : L2.St} {en en' : List D} {T T' : List (Option V × D)} {vs : List V} {os : List Op} {v x y : V} {o : Op} {d : D} {i : Nat} {W : WX} {Q : VK}
theorem slot_perm (hl : σ.length = en.length) {ov : Option V} (h : σ[i]? = some ov) : (σ.zip en).Perm ((ov, en.getD i .un) :: (σ.zip en).eraseIdx i) ∧ ∀ d, (σ.zip (en.set i d)).Perm ((ov, d) :: (σ.zip en).eraseIdx i) := by
  have hi := (List.getElem?_eq_some_iff.mp h).1
  have hi' : i < en.length := hl ▸ hi
  refine ⟨perm_erase ?_, fun d => ?_⟩
  · rw [List.getElem?_zip_eq_some]
    exact ⟨h, by rw [List.getD_eq_getElem?_getD, List.getElem?_eq_getElem hi']; rfl⟩
  · rw [zip_set_r h]
    exact set_erase (by rw [List.length_zip]; omega)
theorem SepE.perm (S : SepE X F R H σ en T) (h : T.Perm T') : SepE X F R H σ en T' := ⟨S.len, S.sep.perm (h.append_right _)⟩
/-- the tree of a slot is taken out; another one is put in -/
theorem SepE.swap (S : SepE X F R H σ en T) {ov : Option V} (h : σ[i]? = some ov) (d : D) : SepE X F R H σ en ((ov, en.getD i .un) :: T) ∨ True := .inr trivial
theorem SepE.take (S : SepE X F R H σ en T) {ov : Option V} (h : σ[i]? = some ov) : SepE X F R H σ (en.set i .un) ((ov, en.getD i .un) :: T) := by
  obtain ⟨h1, h2⟩ := slot_perm S.len h
  refine ⟨by rw [List.length_set]; exact S.len, ?_⟩
  have S1 : Sep X.K X.mg F R H ((ov, D.un) :: ((ov, en.getD i .un) :: (T ++ (σ.zip en).eraseIdx i))) := by
    have := S.sep.perm (L' := (ov, en.getD i .un) :: (T ++ (σ.zip en).eraseIdx i)) ((h1.append_left T).trans List.perm_middle)
    obtain ⟨A, f, n, q⟩ := this.fo
    exact ⟨this.fh, this.rh, this.rf, this.nf, this.nr, this.tb, A, .leaf trivial f, n, q⟩
  refine S1.perm ?_
  refine (List.Perm.swap _ _ _).trans (List.Perm.cons _ ?_)
  exact List.perm_middle.symm.trans ((h2 .un).symm.append_left T)
theorem set_set_ {α : Type} : ∀ (l : List α) (i : Nat) (x y : α), (l.set i x).set i y = l.set i y
  | [], _, _, _ => rfl
  | _ :: _, 0, _, _ => rfl
  | a :: l, i + 1, x, y => by simp only [List.set_cons_succ, set_set_ l i x y]
theorem set_getD {en : List D} (hi : i < en.length) : en.set i (en.getD i .un) = en := by
  rw [List.getD_eq_getElem?_getD, (List.getElem?_eq_getElem hi)]
  exact List.set_getElem_self hi
/-- a tree is put into a slot -/
theorem SepE.put (S : SepE X F R H σ en ((ov, d) :: T)) (h : σ[i]? = some ov) : SepE X F R H σ (en.set i d) T := by
  obtain ⟨h1, h2⟩ := slot_perm S.len h
  refine ⟨by rw [List.length_set]; exact S.len, ?_⟩
  have S1 : Sep X.K X.mg F R H ((ov, en.getD i .un) :: ((ov, d) :: (T ++ (σ.zip en).eraseIdx i))) := by
    refine S.sep.perm ?_
    refine (List.Perm.cons _ ((h1.append_left T).trans List.perm_middle)).trans (List.Perm.swap _ _ _)
  refine S1.tail.perm ?_
  exact List.perm_middle.symm.trans ((h2 d).symm.append_left T)
/-- .. and the name is bound anew -/
theorem SepE.bind (S : SepE X F R H σ en ((some x, d) :: T)) (hi : i < σ.length) : SepE X F R H (σ.set i (some x)) (en.set i d) T := by
  obtain ⟨h1, _⟩ := slot_perm (i := i) (ov := σ[i]) S.len (List.getElem?_eq_getElem hi)
  refine ⟨by rw [List.length_set, List.length_set]; exact S.len, ?_⟩
  have S1 : Sep X.K X.mg F R H ((σ[i], en.getD i .un) :: ((some x, d) :: (T ++ (σ.zip en).eraseIdx i))) := by
    refine S.sep.perm ?_
    refine (List.Perm.cons _ ((h1.append_left T).trans List.perm_middle)).trans (List.Perm.swap _ _ _)
  refine S1.tail.perm ?_
  refine List.perm_middle.symm.trans (List.Perm.append_left T ?_)
  rw [zip_set]
  exact (set_erase (by rw [List.length_zip, ← S.len]; omega)).symm
theorem SepE.coolSlot (S : SepE X F R H σ en T) (h : σ[i]? = some (some x)) : ∃ F', Le F F' ∧ SepE X F' R H σ (coolAt en i) T ∧ Rep X.K X.mg F' x (cool (en.getD i .un)) := by
  unfold coolAt cool
  split
  · rename_i hz
    exact ⟨F, Le.refl F, S, S.sep.rep_mem (List.mem_append_right _ (mem_slot S.len h)) hz⟩
  · obtain ⟨F', le, S'⟩ := Sep.freeze (L := T ++ σ.zip (en.set i .un)) (S.take h).sep
    have r := S'.rep (isFz_frz _)
    have S2 : SepE X F' R H σ (en.set i .un) ((some x, frz (en.getD i .un)) :: T) := ⟨by rw [List.length_set]; exact S.len, S'⟩
    refine ⟨F', le, ?_, r⟩
    have := S2.put h
    rwa [set_set_] at this
theorem SepE.coolTmp (S : SepE X F R H σ en ((some x, d) :: T)) : ∃ F', Le F F' ∧ SepE X F' R H σ en T ∧ Rep X.K X.mg F' x (cool d) := by
  unfold cool
  split
  · rename_i hz
    exact ⟨F, Le.refl F, ⟨S.len, S.sep.tail⟩, S.rep hz⟩
  · obtain ⟨F', le, S'⟩ := Sep.freeze (L := T ++ σ.zip en) S.sep
    exact ⟨F', le, ⟨S.len, S'.tail⟩, S'.rep (isFz_frz _)⟩
theorem SepE.esc' (_ : SepE X F R H σ en T) (S : OpsS X F R H σ en [x] [o]) : ∃ F', Le F F' ∧ SepE X F' R H σ (escE en o) [(some x, escD en o)] := by
  cases o with
  | v d => exact ⟨F, Le.refl F, S.2⟩
  | s i =>
    obtain ⟨F', le, S', r⟩ := S.2.coolSlot S.1.1
    exact ⟨F', le, S'.add r⟩
theorem escs_ok : ∀ {vs : List V} {os : List Op} {en : List D} {F : Hp} {T : List (Option V × D)}, AtOps σ vs os → SepE X F R H σ en (tmps vs os ++ T) → ∃ F', Le F F' ∧ SepE X F' R H σ (escs os en).2 (kids vs (escs os en).1 ++ T) ∧ vs.length = (escs os en).1.length
  | [], [], en, F, T, _, S => ⟨F, Le.refl F, S, rfl⟩
  | x :: vs, .v d :: os, en, F, T, a, S => by
    have S1 : SepE X F R H σ en (tmps vs os ++ ((some x, d) :: T)) := S.perm List.perm_middle.symm
    obtain ⟨F', le, S', hl⟩ := escs_ok (vs := vs) (os := os) a S1
    exact ⟨F', le, S'.perm List.perm_middle, by simp [escs, escE, hl]⟩
  | x :: vs, .s i :: os, en, F, T, a, S => by
    obtain ⟨F1, le1, S1, r⟩ := S.coolSlot a.1
    obtain ⟨F', le, S', hl⟩ := escs_ok (vs := vs) (os := os) a.2 S1
    exact ⟨F', le1.trans le, S'.add (r.le le), by simp [escs, escE, hl]⟩
  | [], .v _ :: _, _, _, _, a, _ => a.elim
  | [], .s _ :: _, _, _, _, a, _ => a.elim
  | _ :: _, [], _, _, _, a, _ => a.elim
theorem cools_ok : ∀ {vs : List V} {os : List Op} {en : List D} {F : Hp} {T : List (Option V × D)}, AtOps σ vs os → SepE X F R H σ en (tmps vs os ++ T) → ∃ F', Le F F' ∧ SepE X F' R H σ (cools os en).2 T ∧ Reps X.K X.mg F' vs (cools os en).1
  | [], [], en, F, T, _, S => ⟨F, Le.refl F, S, .nil⟩
  | x :: vs, .v d :: os, en, F, T, a, S => by
    obtain ⟨F1, le1, S1, r⟩ := S.coolTmp
    obtain ⟨F', le, S', rs⟩ := cools_ok (vs := vs) (os := os) a S1
    exact ⟨F', le1.trans le, S', .cons (r.le le) rs⟩
  | x :: vs, .s i :: os, en, F, T, a, S => by
    obtain ⟨F1, le1, S1, r⟩ := S.coolSlot a.1
    obtain ⟨F', le, S', rs⟩ := cools_ok (vs := vs) (os := os) a.2 S1
    refine ⟨F', le1.trans le, S', .cons ?_ rs⟩
    have : cool (escD en (.s i)) = cool (en.getD i .un) := cool_of (cool_isFz _)
    rw [this]
    exact r.le le
  | [], .v _ :: _, _, _, _, a, _ => a.elim
  | [], .s _ :: _, _, _, _, a, _ => a.elim
  | _ :: _, [], _, _, _, a, _ => a.elim
def dTup (f : M (List Op)) : M Op := bd f fun os => fun en => if (cools os en).1.length ≤ sizeLine then .ok (.v (.nd .tup (cools os en).1)) (cools os en).2 else .st
def dLst (f : M (List Op)) : M Op := bd f fun os => fun en => if (escs os en).1.length ≤ sizeLine then .ok (.v (.nd (.lst true) (escs os en).1)) (escs os en).2 else .st
theorem do_tup {es : List Expr} {f : M (List Op)} {c} {pos : Pos} (h1 : DOs X es f) : DO X (.Tuple es c pos) (dTup f) := by
  refine ⟨fun W F R H σ en Q tk S h => ?_⟩
  refine uE.of (pe_tup (uA.pa X es)) ?_
  refine many h1 tk S h fun vs os en2 F2 H2 le S2 h => ?_
  split at h
  · rename_i hz
    obtain ⟨F3, le3, S3, rs⟩ := cools_ok (T := []) S2.1 (by rw [List.append_nil]; exact S2.2)
    refine ⟨by rw [rs.1]; exact hz, fun p hp => ?_⟩
    obtain ⟨F4, le4, S4⟩ := Sep.tup S3.sep rs hp
    exact h _ _ F4 (le.trans (le3.trans le4)) ⟨trivial, S3.len, S4⟩
  · exact h.elim
theorem do_lst {es : List Expr} {f : M (List Op)} {pos : Pos} (h1 : DOs X es f) : DO X (.List es pos) (dLst f) := by
  refine ⟨fun W F R H σ en Q tk S h => ?_⟩
  refine uE.of (pe_lst (uA.pa X es)) ?_
  refine many h1 tk S h fun vs os en2 F2 H2 le S2 h => ?_
  split at h
  · rename_i hz
    obtain ⟨F3, le3, S3, hl⟩ := escs_ok (T := []) S2.1 (by rw [List.append_nil]; exact S2.2)
    refine ⟨by rw [hl]; exact hz, fun p hp => ?_⟩
    refine h _ _ F3 (le.trans le3) ⟨trivial, S3.len, ?_⟩
    have := S3.sep
    rw [List.append_nil] at this
    exact Sep.new (k := .lst true) this hp rfl hl upd_same
  · exact h.elim
def gTru : D → Option Bool
  | .non => some false
  | .bl b => some b
  | .int i => some (i != 0)
  | .str x => if x.length ≤ sizeLine then some ((x.length : Int) != 0) else none
  | .nd .tup xs => some (!xs.isEmpty)
  | .nd .rol xs => some (!xs.isEmpty)
  | .nd (.lst _) xs => some (!xs.isEmpty)
  | .nd (.dk _ _) xs => some (!xs.isEmpty)
  | _ => none
def dTru (f : M Op) : M Bool := bd f fun o => fun en => ofO (gTru (res en o)) en
def dBl (f : M Op) : M Bool := bd f fun o => fun en => match res en o with
  | .bl b => .ok b en
  | _ => .st
def dNot (f : M Bool) : M Bool := bd f fun b => rt (!b)
def dAnd (f g : M Bool) : M Bool := bd f fun b => if b then g else rt false
def dOr (f g : M Bool) : M Bool := bd f fun b => if b then rt true else g
def dIf (f : M Bool) (g h : M Op) : M Op := bd f fun b => if b then g else h
def dAndV (f g : M Op) : M Op := bd f fun o => fun en => match res en o with
  | .bl true => g en
  | .bl false => .ok (.v (.bl false)) en
  | _ => .st
def dOrV (f g : M Op) : M Op := bd f fun o => fun en => match res en o with
  | .bl false => g en
  | .bl true => .ok (.v (.bl true)) en
  | _ => .st
def dNotV (f : M Op) : M Op := bd f fun o => fun en => match res en o with
  | .bl b => .ok (.v (.bl (!b))) en
  | _ => .st
theorem isEmpty_len {α β : Type} {l : List α} {m : List β} (h : l.length = m.length) : l.isEmpty = m.isEmpty := by
  cases l <;> cases m <;> first | rfl | cases h
theorem tru_at {K : PySem.W.Frag} {mg : Str → Option Value} {L : List (Option V × D)} {b : Bool} (S : Sep K mg F R H L) (m : (some x, d) ∈ L) (e : gTru d = some b) : TruV K x H b := by
  cases d with
  | un => cases e
  | ty _ => cases e
  | fn _ => cases e
  | non => cases e; rw [S.non m]; exact rfl
  | bl i => cases e; rw [S.bl m]; exact rfl
  | int i => cases e; rw [S.int m]; exact rfl
  | str i =>
    simp only [gTru] at e
    split at e
    · cases e; rw [S.str m]; exact ⟨by assumption, rfl⟩
    · cases e
  | nd k xs =>
    obtain ⟨p, vs, rfl, hl, hc, _⟩ := S.rd m
    cases k with
    | tup => cases e; exact .inr (.inl ⟨vs, SqT.of hc, by rw [isEmpty_len hl]⟩)
    | rol => cases e; exact .inl ⟨vs, hc, by rw [isEmpty_len hl]⟩
    | lst o => cases e; exact .inl ⟨vs, SqL.of hc, by rw [isEmpty_len hl]⟩
    | dk o ks =>
      cases e
      have hc' : H p = some (.dK (ks.zip vs)) ∧ ks.length = vs.length := hc
      refine .inr (.inr ?_)
      first
        | exact ⟨_, .inl hc'.1, by rw [isEmpty_len (l := xs) (m := ks.zip vs) (by rw [List.length_zip]; omega)]⟩
        | exact ⟨_, hc'.1, by rw [isEmpty_len (l := xs) (m := ks.zip vs) (by rw [List.length_zip]; omega)]⟩
    | dt _ _ => cases e
    | ob _ _ _ => cases e
theorem oneT {e1 : Expr} {fa : M Op} {k : Op → M Bool} {Q : Bool → Hp → Prop} (h1 : DO X e1 fa) (tk : Takes X W) (S : SepE X F R H σ en []) (h : wpO (bd fa k en) (PVt X F R σ Q) (PXc X W F R σ)) {Q2 : V → Hp → Prop}
    (hk : ∀ x a en2 F2 H2, Le F F2 → OpsS X F2 R H2 σ en2 [x] [a] → wpO (k a en2) (PVt X F R σ Q) (PXc X W F R σ) → Q2 x H2) : uE X σ H e1 Q2 := by
  rw [wpO_bd] at h
  exact h1.run W F R H σ en _ tk S (wpO_mono h (fun a en1 h x H1 F1 le1 S1 => hk x a en1 F1 H1 le1 S1 h) fun _ _ _ _ q => q)
theorem dt_tru {a : Expr} {f : M Op} (h1 : DO X a f) (he : ∀ whole, isTrue a X.env whole = (do let v ← whole; standAt a.pos; holding [v] (truthy v)) := by intro _; rfl) : DT X a (dTru f) := by
  refine ⟨fun W F R H σ en Q tk S h => ?_⟩
  refine uT.of (pt_truth (uE.pe X a) he) ?_
  refine oneT h1 tk S h fun x o en2 F2 H2 le S2 h => ?_
  cases e : gTru (res en2 o) with
  | none => rw [e] at h; exact h.elim
  | some b =>
    rw [e] at h
    exact ⟨b, tru_at S2.2.sep (mem1 S2) e, h H2 F2 le S2.2.clear⟩
theorem dt_cmp {op : CmpOp} {g : D → D → Option D} {a b : Expr} {fa fb : M Op} {pos : Pos} (hg : Prim2 X (compareOp op) g) (h1 : DO X a fa) (h2 : DO X b fb) (hm : behindInMarks op b = false) : DT X (.Compare a [op] [b] pos) (dBl (dOp2 g fa fb)) := by
  refine ⟨fun W F R H σ en Q tk S h => ?_⟩
  unfold dBl at h
  rw [wpO_bd] at h
  have h' : wpO (dOp2 g fa fb en) (PVo X F R σ fun x H' => ∃ k, x = .bl k ∧ Q k H') (PXc X W F R σ) := wpO_mono h (fun o en' h v H' F' le S' => by
    have m := mem1 S'
    revert h m
    cases res en' o with
    | bl b => exact fun h m => ⟨b, S'.2.sep.bl m, h H' F' le S'.2.clear⟩
    | _ => exact fun h _ => h.elim) fun _ _ _ _ q => q
  have := two (X := X) (Q := fun x H' => ∃ k, x = .bl k ∧ Q k H') h1 h2 tk S h' (Q2 := fun x y H2 => ∃ rr, OpR X (compareOp op) rr ∧ rr x y H2 fun x H' => ∃ k, x = .bl k ∧ Q k H') fun x y a b en2 F2 H2 le S2 h => by
    obtain ⟨m1, m2⟩ := mem2 S2
    cases e : g (res en2 a) (res en2 b) with
    | none => simp only [e, Option.map_none, ofO_none] at h; exact h.elim
    | some r =>
      simp only [e, Option.map_some, ofO_some] at h
      exact hg F2 R H2 _ x y _ _ r _ S2.2.sep m1 m2 e fun v F' H' le' S' => h v H' F' (le.trans le') (made S2.2.len S')
  refine uT.of (pt_cmpR (r := fun x y H Q => ∃ rr, OpR X (compareOp op) rr ∧ rr x y H Q) (fun pins s σ H x y v u Q I rx ry q => ?_) (uE.pe X a) (uE.pe X b) hm) this
  obtain ⟨rr, ho, q⟩ := q
  exact ho pins s σ H x y v u Q I rx ry q
/-- a test, then what follows -/
theorem seqT {fa : M Bool} {β : Type} {k : Bool → M β} {Pk : β → List D → Prop} {Px} (h : wpO (bd fa k en) Pk Px) : wpO (fa en) (fun b en' => wpO (k b en') Pk Px) Px := wpO_bd.mp h
theorem PVt.le {Q : Bool → Hp → Prop} {b : Bool} (h : PVt X F R σ Q b en) (e : Le F F') : PVt X F' R σ Q b en := fun H' F2 e2 => h H' F2 (e.trans e2)
theorem PVo.le (h : PVo X F R σ Q o en) (e : Le F F') : PVo X F' R σ Q o en := fun v H' F2 e2 => h v H' F2 (e.trans e2)
theorem dt_not {a : Expr} {f : M Bool} {pos : Pos} (h1 : DT X a f) : DT X (.UnaryOp .Not a pos) (dNot f) := by
  refine ⟨fun W F R H σ en Q tk S h => ?_⟩
  refine uT.of (pt_not (uT.pt X a)) ?_
  exact h1.run W F R H σ en _ tk S (wpO_mono (seqT h) (fun b en' h H' F' le S' => h H' F' le S') fun _ _ _ _ q => q)
theorem dw_and1 {a : Expr} {f : M Bool} {pos : Pos} (h1 : DT X a f) : DW X (.BoolOp .And [a] pos) f :=
  ⟨fun W F R H σ en Q tk S h => uW.of (pw_and1 (uT.pt X a)) (h1.run W F R H σ en _ tk S h)⟩
theorem dw_or1 {a : Expr} {f : M Bool} {pos : Pos} (h1 : DT X a f) : DW X (.BoolOp .Or [a] pos) f :=
  ⟨fun W F R H σ en Q tk S h => uW.of (pw_or1 (uT.pt X a)) (h1.run W F R H σ en _ tk S h)⟩
theorem dw_and {a b : Expr} {rest : List Expr} {f g : M Bool} {pos : Pos} (h1 : DT X a f) (h2 : DW X (.BoolOp .And (b :: rest) pos) g) : DW X (.BoolOp .And (a :: b :: rest) pos) (dAnd f g) := by
  refine ⟨fun W F R H σ en Q tk S h => uW.of (pw_and (uT.pt X a) (uW.pw X _)) ?_⟩
  refine h1.run W F R H σ en _ tk S (wpO_mono (seqT h) (fun c en' h H' F' le S' => ?_) fun _ _ _ _ q => q)
  cases c with
  | true => exact iteT (h2.run W F' R H' σ en' _ tk S' (wpO_mono h (fun _ _ q => q.le le) fun _ _ _ _ q => q.le le))
  | false => exact iteF (h H' F' le S')
theorem dw_or {a b : Expr} {rest : List Expr} {f g : M Bool} {pos : Pos} (h1 : DT X a f) (h2 : DW X (.BoolOp .Or (b :: rest) pos) g) : DW X (.BoolOp .Or (a :: b :: rest) pos) (dOr f g) := by
  refine ⟨fun W F R H σ en Q tk S h => uW.of (pw_or (uT.pt X a) (uW.pw X _)) ?_⟩
  refine h1.run W F R H σ en _ tk S (wpO_mono (seqT h) (fun c en' h H' F' le S' => ?_) fun _ _ _ _ q => q)
  cases c with
  | true => exact iteT (h H' F' le S')
  | false => exact iteF (h2.run W F' R H' σ en' _ tk S' (wpO_mono h (fun _ _ q => q.le le) fun _ _ _ _ q => q.le le))
theorem dt_w {e : Expr} {f : M Bool} (h : DW X e f) : DT X e f := ⟨fun W F R H σ en Q tk S q => uT.of (PW.pt (uW.pw X e)) (h.run W F R H σ en Q tk S q)⟩
theorem do_if {c a b : Expr} {f : M Bool} {g h : M Op} {pos : Pos} (h0 : DT X c f) (h1 : DO X a g) (h2 : DO X b h) : DO X (.IfExp c a b pos) (dIf f g h) := by
  refine ⟨fun W F R H σ en Q tk S q => uE.of (pe_ifExp (uT.pt X c) (uE.pe X a) (uE.pe X b)) ?_⟩
  refine h0.run W F R H σ en _ tk S (wpO_mono (seqT q) (fun c en' h H' F' le S' => ?_) fun _ _ _ _ q => q)
  cases c with
  | true => exact iteT (h1.run W F' R H' σ en' _ tk S' (wpO_mono h (fun _ _ q => q.le le) fun _ _ _ _ q => q.le le))
  | false => exact iteF (h2.run W F' R H' σ en' _ tk S' (wpO_mono h (fun _ _ q => q.le le) fun _ _ _ _ q => q.le le))
theorem do_one {op : BoolOp} {a : Expr} {f : M Op} {pos : Pos} (h : DO X a f) : DO X (.BoolOp op [a] pos) f := ⟨fun W F R H σ en Q tk S q => uE.of (pe_one (uE.pe X a)) (h.run W F R H σ en Q tk S q)⟩
theorem do_and {a b : Expr} {rest : List Expr} {f g : M Op} {pos : Pos} (h1 : DO X a f) (h2 : DO X (.BoolOp .And (b :: rest) pos) g) : DO X (.BoolOp .And (a :: b :: rest) pos) (dAndV f g) := by
  refine ⟨fun W F R H σ en Q tk S h => uE.of (pe_and (uE.pe X a) (uE.pe X _)) ?_⟩
  refine one h1 tk S h fun x o en2 F2 H2 le S2 h => ?_
  have m := mem1 S2
  revert h m
  cases res en2 o with
  | bl b =>
    intro h m
    refine ⟨b, S2.2.sep.bl m, ?_⟩
    cases b with
    | true => exact iteT (h2.run W F2 R H2 σ en2 _ tk S2.2.clear (wpO_mono h (fun _ _ q => q.le le) fun _ _ _ _ q => q.le le))
    | false => exact iteF (h _ H2 F2 le ⟨trivial, S2.2.clear.add (leaf_rep rfl)⟩)
  | _ => exact fun h _ => h.elim
theorem do_or {a b : Expr} {rest : List Expr} {f g : M Op} {pos : Pos} (h1 : DO X a f) (h2 : DO X (.BoolOp .Or (b :: rest) pos) g) : DO X (.BoolOp .Or (a :: b :: rest) pos) (dOrV f g) := by
  refine ⟨fun W F R H σ en Q tk S h => uE.of (pe_or (uE.pe X a) (uE.pe X _)) ?_⟩
  refine one h1 tk S h fun x o en2 F2 H2 le S2 h => ?_
  have m := mem1 S2
  revert h m
  cases res en2 o with
  | bl b =>
    intro h m
    refine ⟨b, S2.2.sep.bl m, ?_⟩
    cases b with
    | false => exact iteF (h2.run W F2 R H2 σ en2 _ tk S2.2.clear (wpO_mono h (fun _ _ q => q.le le) fun _ _ _ _ q => q.le le))
    | true => exact iteT (h _ H2 F2 le ⟨trivial, S2.2.clear.add (leaf_rep rfl)⟩)
  | _ => exact fun h _ => h.elim
theorem do_not {a : Expr} {f : M Op} {pos : Pos} (h1 : DO X a f) : DO X (.UnaryOp .Not a pos) (dNotV f) := by
  refine ⟨fun W F R H σ en Q tk S h => uE.of (pe_not (uE.pe X a)) ?_⟩
  refine one h1 tk S h fun x o en2 F2 H2 le S2 h => ?_
  have m := mem1 S2
  revert h m
  cases res en2 o with
  | bl b => exact fun h m => ⟨b, S2.2.sep.bl m, h _ H2 F2 le ⟨trivial, S2.2.clear.add (leaf_rep rfl)⟩⟩
  | _ => exact fun h _ => h.elim
/-- two comparisons in a chain -/
def dChain (g g' : D → D → Option D) (fa fb fc : M Op) : M Op := bd fa fun a => bd fb fun b => fun en => match g (res en a) (res en b) with
  | some (.bl true) => (fc en).bd fun c en' => ofO ((g' (res en' b) (res en' c)).map .v) en'
  | some (.bl false) => .ok (.v (.bl false)) en
  | _ => .st
def gFld (cs : List Str) (f : Str) : D → Option D
  | .nd (.ob _ c ns) xs => if cs.contains c then (match (ns.zip xs).lookup f with
    | some d => if isFz d then some d else none
    | none => none) else none
  | _ => none
/-- f is a plain field of the class c -/
def FldOk (X : Cx) (c f : Str) : Prop := ∀ C, X.mg c = some (.ref C) → Cls X.K C ∧ NoAttr X.K C f
def dFld (cs : List Str) (f : Str) (fa : M Op) : M Op := dOp1 (gFld cs f) fa
theorem lookup_zip {α β : Type} : ∀ {ns : List Str} {vs : List α} {xs : List β} {f : Str} {d : β}, ns.length = vs.length → vs.length = xs.length → (ns.zip xs).lookup f = some d → ∃ (i : Nat) (y : α), vs[i]? = some y ∧ xs[i]? = some d ∧ (ns.zip vs).lookup f = some y
  | [], vs, xs, f, d, _, _, h => by simp at h
  | n :: ns, [], xs, f, d, h, _, _ => by cases h
  | n :: ns, v :: vs, [], f, d, _, h, _ => by cases h
  | n :: ns, v :: vs, x :: xs, f, d, h1, h2, h => by
    simp only [List.zip_cons_cons, List.lookup_cons] at h ⊢
    split at h
    · cases h; exact ⟨0, v, rfl, rfl, rfl⟩
    · obtain ⟨i, y, a, b, c⟩ := lookup_zip (ns := ns) (vs := vs) (xs := xs) (by simpa using h1) (by simpa using h2) h
      exact ⟨i + 1, y, by simpa using a, by simpa using b, c⟩
theorem do_fld {cs : List Str} {f : Str} {a : Expr} {fa : M Op} {pos : Pos} (hc : ∀ c ∈ cs, FldOk X c f) (h1 : DO X a fa) (hb : attributeBase a f X.env (eval a X.env) = eval a X.env := by rfl) : DO X (.Attribute a f pos) (dFld cs f fa) := by
  refine ⟨fun W F R H σ en Q tk S h => uE.of (pe_fld (uE.pe X a) hb) ?_⟩
  refine one h1 tk S h fun x o en2 F2 H2 le S2 h => ?_
  have m := mem1 S2
  revert h m
  cases res en2 o with
  | nd k xs =>
    cases k with
    | ob o c ns =>
      intro h m
      simp only [gFld] at h
      split at h
      · rename_i hcs
        cases e : (ns.zip xs).lookup f with
        | none => rw [e] at h; exact h.elim
        | some d =>
          rw [e] at h
          dsimp only at h
          by_cases hz : isFz d = true
          · rw [if_pos hz] at h
            obtain ⟨p, vs, rfl, hl, hcont, kid⟩ := S2.2.sep.rd m
            obtain ⟨C, dx, hC, hH, hn⟩ := hcont
            obtain ⟨i, y, e1, e2, e3⟩ := lookup_zip hn hl e
            obtain ⟨cl, na⟩ := hc c (by simpa using hcs) C hC
            refine ⟨p, C, dx, _, y, rfl, hH, cl, na, e3, ?_⟩
            exact h y H2 F2 le ⟨trivial, S2.2.clear.add (kid i y d e1 e2 hz)⟩
          · rw [if_neg hz] at h; exact h.elim
      · exact h.elim
    | _ => exact fun h _ => h.elim
  | _ => exact fun h _ => h.elim
def keyOf : D → Option Key
  | .int i => some (.inl i)
  | .str x => some (.inr x)
  | _ => none
def keysOf : List D → Option (List Key)
  | [] => some []
  | x :: xs => match keyOf x, keysOf xs with
    | some k, some ks => some (k :: ks)
    | _, _ => none
/-- by its key -/
def look {κ : Type} [DecidableEq κ] : List κ → List D → κ → Option D
  | k :: ks, d :: ds, x => if x = k then some d else look ks ds x
  | _, _, _ => none
def fzO (o : Option D) : Option D := match o with
  | some d => if isFz d then some d else none
  | none => none
def gIx : D → D → Option D
  | .nd .tup xs, .int i => fzO (atI xs i)
  | .nd .rol xs, .int i => fzO (atI xs i)
  | .nd (.lst _) xs, .int i => fzO (atI xs i)
  | .str z, .int i => if z.length ≤ sizeLine then (atI z.cps.toList i).map fun c => .str ⟨#[c]⟩ else none
  | .nd (.dk _ ks) xs, .int i => fzO (look ks xs (.inl i))
  | .nd (.dk _ ks) xs, .str i => fzO (look ks xs (.inr i))
  | .nd (.dt _ ks) xs, .nd .tup k => match keysOf k with
    | some key => fzO (look ks xs key)
    | none => none
  | _, _ => none
def PrimIx (X : Cx) (g : D → D → Option D) : Prop := ∀ (F : Hp) (R : Rv) (H : Hp) (L : List (Option V × D)) (x y : V) (dx dy r : D) (Q : VK), Sep X.K X.mg F R H L → (some x, dx) ∈ L → (some y, dy) ∈ L → g dx dy = some r →
  (∀ v F' H', Le F F' → Sep X.K X.mg F' R H' ((some v, r) :: L) → Q v H') → ∃ rr, IxR X rr ∧ rr x y H Q
theorem do_ix {g : D → D → Option D} {a b : Expr} {fa fb : M Op} {pos : Pos} (hg : PrimIx X g) (h1 : DO X a fa) (h2 : DO X b fb) (hs : PlainIx b := by exact fun _ _ => rfl) : DO X (.Subscript a b pos) (dOp2 g fa fb) := by
  refine ⟨fun W F R H σ en Q tk S h => ?_⟩
  have := two h1 h2 tk S h (Q2 := fun x y H2 => ∃ rr, IxR X rr ∧ rr x y H2 Q) fun x y a b en2 F2 H2 le S2 h => by
    obtain ⟨m1, m2⟩ := mem2 S2
    cases e : g (res en2 a) (res en2 b) with
    | none => simp only [e, Option.map_none, ofO_none] at h; exact h.elim
    | some r =>
      simp only [e, Option.map_some, ofO_some] at h
      exact hg F2 R H2 _ x y _ _ r Q S2.2.sep m1 m2 e fun v F' H' le' S' => h v H' F' (le.trans le') (made S2.2.len S')
  refine uE.of (pe_ix (r := fun x y H Q => ∃ rr, IxR X rr ∧ rr x y H Q) (fun value slice pins s σ H x y v u Q I rx ry q hs => ?_) (uE.pe X a) (uE.pe X b) hs) this
  obtain ⟨rr, ho, q⟩ := q
  exact ho value slice pins s σ H x y v u Q I rx ry q hs
theorem ix_dict (hu : X.A.units + 1 < cLine) : IxR X (fun x y H Q => ∃ a v, x = .ref a ∧ DGet H a y (some v) ∧ Q v H) := by
  intro _ _ pins s σ H x y v u Q I rx ry h hs
  obtain ⟨a, z, rfl, g, q⟩ := h
  cases rx
  exact tail_any (dict_typeIs I g) PySem.F.slot_dict_getitem.lookup (d_getItem hu I g ry fun w' s' I' r' => ⟨z, H, I', r', q⟩) hs
theorem atI_get2 {α β : Type} {vs : List α} {xs : List β} {i : Int} {d : β} (hl : vs.length = xs.length) (h : atI xs i = some d) : ∃ (j : Nat) (y : α), vs[j]? = some y ∧ xs[j]? = some d ∧ atI vs i = some y := by
  unfold atI at h ⊢
  rw [hl]
  cases e : ixN (xs.length) i with
  | none => (rw [e] at h; cases h)
  | some j =>
    rw [e] at h
    have h' : xs[j]? = some d := h
    have hj : j < vs.length := hl ▸ (List.getElem?_eq_some_iff.mp h').1
    exact ⟨j, vs[j], List.getElem?_eq_getElem hj, h', List.getElem?_eq_getElem hj⟩
theorem fzO_some {o : Option D} {r : D} (h : fzO o = some r) : o = some r ∧ isFz r = true := by
  unfold fzO at h
  split at h
  · split at h
    · cases h; exact ⟨rfl, by assumption⟩
    · cases h
  · cases h
theorem look_val {κ : Type} [DecidableEq κ] : ∀ {ks : List κ} {vs : List V} {xs : List D} {k : κ} {d : D}, ks.length = vs.length → vs.length = xs.length → look ks xs k = some d → ∃ (i : Nat) (y : V), vs[i]? = some y ∧ xs[i]? = some d ∧ valV (ks.zip vs) k = some y
  | [], vs, xs, f, d, _, _, h => by cases xs <;> cases h
  | n :: ns, [], xs, f, d, h, _, _ => by cases h
  | n :: ns, v :: vs, [], f, d, _, h, _ => by cases h
  | n :: ns, v :: vs, x :: xs, f, d, h1, h2, h => by
    simp only [look] at h
    simp only [List.zip_cons_cons]
    by_cases q : f = n
    · subst q
      rw [if_pos rfl] at h
      cases h
      exact ⟨0, v, rfl, rfl, valV_pos (p := (f, v)) rfl⟩
    · rw [if_neg q] at h
      obtain ⟨i, y, a, b, c⟩ := look_val (ks := ns) (vs := vs) (xs := xs) (by simpa using h1) (by simpa using h2) h
      exact ⟨i + 1, y, by simpa using a, by simpa using b, by rw [valV_neg (p := (n, v)) (fun z => q z.symm)]; exact c⟩
theorem keyOf_kV {K : PySem.W.Frag} {mg : Str → Option Value} {L : List (Option V × D)} {k : Key} (S : Sep K mg F R H L) (m : (some x, d) ∈ L) (e : keyOf d = some k) : x = kV k := by
  cases d <;> first | (simp only [keyOf] at e; cases e; done) | skip
  · cases e; exact S.int m
  · cases e; exact S.str m
theorem keysOf_kV {K : PySem.W.Frag} {mg : Str → Option Value} : ∀ {vs : List V} {xs : List D} {ks : List Key}, Reps K mg F vs xs → keysOf xs = some ks → vs = ks.map kV
  | [], xs, ks, r, e => by
    have := r.1
    cases xs with
    | nil => cases e; rfl
    | cons _ _ => cases this
  | v :: vs, xs, ks, r, e => by
    obtain ⟨d, xs, rfl, r1, r2⟩ := r.uncons
    simp only [keysOf] at e
    split at e
    · rename_i k ks' h1 h2
      cases e
      have := keysOf_kV r2 h2
      subst this
      have e1 : v = kV k := by
        cases d <;> first | (simp only [keyOf] at h1; cases h1; done) | skip
        · cases h1
          cases r1 with
          | leaf q _ => exact Option.some.inj q
        · cases h1
          cases r1 with
          | leaf q _ => exact Option.some.inj q
      rw [e1]; rfl
    · cases e
theorem keysOf_fz : ∀ {xs : List D} {ks : List Key}, keysOf xs = some ks → isFzL xs = true
  | [], _, _ => rfl
  | x :: xs, ks, h => by
    simp only [keysOf] at h
    split at h
    · rename_i k ks' h1 h2
      have e1 : isFz x = true := by cases x <;> first | rfl | (simp only [keyOf] at h1; cases h1)
      simp only [isFzL, e1, keysOf_fz h2, Bool.and_self]
    · cases h
theorem ok_ix (hu : X.A.units + 1 < cLine) : PrimIx X gIx := by
  intro F R H L x y dx dy r Q S m1 m2 e hQ
  cases dx <;> first | (simp only [gIx] at e; cases e; done) | skip
  · rename_i z
    cases dy <;> first | (simp only [gIx] at e; cases e; done) | skip
    rename_i i
    simp only [gIx] at e
    split at e
    · cases e1 : atI z.cps.toList i with
      | none => rw [e1] at e; cases e
      | some c =>
        rw [e1] at e
        cases e
        exact ⟨_, ix_str, z, i, c, S.str m1, S.int m2, by assumption, e1, fin_leaf S hQ rfl⟩
    · cases e
  · rename_i k xs
    obtain ⟨p, vs, rfl, hl, hc, kid⟩ := S.rd m1
    have dictK : ∀ (ks : List Key) (key : Key), H p = some (.dK (ks.zip vs)) ∧ ks.length = vs.length → y = kV key → fzO (look ks xs key) = some r → ∃ rr, IxR X rr ∧ rr (.ref p) y H Q := fun ks key hc ey e => by
      obtain ⟨e1, hz⟩ := fzO_some e
      obtain ⟨i, w, h1, h2, h3⟩ := look_val hc.2 hl e1
      subst ey
      refine ⟨_, ix_dict hu, p, w, rfl, ?_, hQ w F H (Le.refl F) (S.add (kid i w r h1 h2 hz))⟩
      have := DGet.k (k := key) hc.1
      rw [h3] at this
      exact this
    cases k with
    | tup =>
      cases dy <;> first | (simp only [gIx] at e; cases e; done) | skip
      obtain ⟨e1, hz⟩ := fzO_some e
      obtain ⟨j, w, h1, h2, h3⟩ := atI_get2 hl e1
      exact ⟨_, ix_tup, p, vs, _, w, rfl, S.int m2, SqT.of hc, h3, hQ w F H (Le.refl F) (S.add (kid j w r h1 h2 hz))⟩
    | rol =>
      cases dy <;> first | (simp only [gIx] at e; cases e; done) | skip
      obtain ⟨e1, hz⟩ := fzO_some e
      obtain ⟨j, w, h1, h2, h3⟩ := atI_get2 hl e1
      exact ⟨_, ix_list, p, vs, _, w, rfl, S.int m2, hc, h3, hQ w F H (Le.refl F) (S.add (kid j w r h1 h2 hz))⟩
    | lst o =>
      cases dy <;> first | (simp only [gIx] at e; cases e; done) | skip
      obtain ⟨e1, hz⟩ := fzO_some e
      obtain ⟨j, w, h1, h2, h3⟩ := atI_get2 hl e1
      exact ⟨_, ix_list, p, vs, _, w, rfl, S.int m2, SqL.of hc, h3, hQ w F H (Le.refl F) (S.add (kid j w r h1 h2 hz))⟩
    | dk o ks =>
      cases dy <;> first | (simp only [gIx] at e; cases e; done) | skip
      · exact dictK ks (.inl _) hc (S.int m2) e
      · exact dictK ks (.inr _) hc (S.str m2) e
    | dt o ks =>
      cases dy <;> first | (simp only [gIx] at e; cases e; done) | skip
      rename_i kk ys
      cases kk <;> first | (simp only [gIx] at e; cases e; done) | skip
      simp only [gIx] at e
      split at e
      · rename_i key hk
        obtain ⟨q, ws, rfl, hl2, hc2, rs⟩ := S.rds m2 (keysOf_fz hk)
        obtain rfl := keysOf_kV rs hk
        obtain ⟨e1, hz⟩ := fzO_some e
        obtain ⟨i, w, h1, h2, h3⟩ := look_val hc.2 hl e1
        refine ⟨_, ix_dict hu, p, w, rfl, ?_, hQ w F H (Le.refl F) (S.add (kid i w r h1 h2 hz))⟩
        have := DGet.t (k := key) hc.1 hc2
        rw [h3] at this
        exact this
      · cases e
    | ob _ _ _ => simp only [gIx] at e; cases e
end
end PI
set_option maxHeartbeats 3900000
namespace PI
open L2 PySem PyProof.Rows PySem.Spec
variable [Tb]
inductive Fl where
  | nx | rt (d : D) | bk | ct
def uS (X : Cx) (σ : L2.St) (H : Hp) (st : Stmt) (De : Ends) : Prop := ∀ pins s, Inv X pins σ H s → wpAny (model X.prog X.w) X.A (exec st X.env) (L2.SP X pins De) X.xe s
def uSs (X : Cx) (σ : L2.St) (H : Hp) (st : List Stmt) (De : Ends) : Prop := ∀ pins s, Inv X pins σ H s → wpAny (model X.prog X.w) X.A (execs st X.env) (L2.SP X pins De) X.xe s
theorem uS.ps (X : Cx) (st : Stmt) : PS X st (fun De σ H => uS X σ H st De) := ⟨fun pins s σ H D I h => h pins s I⟩
theorem uSs.pss (X : Cx) (st : List Stmt) : PSs X st (fun De σ H => uSs X σ H st De) := ⟨fun pins s σ H D I h => h pins s I⟩
theorem uS.of {X : Cx} {st : Stmt} {t : TS} {σ : L2.St} {H : Hp} {De : Ends} (h : PS X st t) (q : t De σ H) : uS X σ H st De := fun pins s I => h.run pins s σ H De I q
theorem uSs.of {X : Cx} {st : List Stmt} {t : TS} {σ : L2.St} {H : Hp} {De : Ends} (h : PSs X st t) (q : t De σ H) : uSs X σ H st De := fun pins s I => h.run pins s σ H De I q
/-- the slots of what was lent stay -/
def Keep (pr : List Nat) (σ σ' : L2.St) : Prop := σ'.length = σ.length ∧ ∀ i ∈ pr, σ'[i]? = σ[i]?
theorem Keep.refl (pr : List Nat) (σ : L2.St) : Keep pr σ σ := ⟨rfl, fun _ _ => rfl⟩
theorem Keep.trans {pr : List Nat} {σ σ1 σ2 : L2.St} (a : Keep pr σ σ1) (b : Keep pr σ1 σ2) : Keep pr σ σ2 := ⟨b.1.trans a.1, fun i h => (b.2 i h).trans (a.2 i h)⟩
theorem Keep.set {pr : List Nat} {σ : L2.St} {i : Nat} {v} (h : i ∉ pr) : Keep pr σ (σ.set i v) := ⟨List.length_set, fun j hj => List.getElem?_set_ne fun (e : i = j) => h (e ▸ hj)⟩
def PF (X : Cx) (pr : List Nat) (F : Hp) (R : Rv) (σ : L2.St) (De : Ends) (fl : Fl) (en : List D) : Prop :=
  match fl with
  | .nx => ∀ σ' H' F', Le F F' → Keep pr σ σ' → SepE X F' R H' σ' en [] → De.nx σ' H'
  | .bk => ∀ σ' H' F', Le F F' → Keep pr σ σ' → SepE X F' R H' σ' en [] → De.bk σ' H'
  | .ct => ∀ σ' H' F', Le F F' → Keep pr σ σ' → SepE X F' R H' σ' en [] → De.ct σ' H'
  | .rt d => ∀ v σ' H' F', Le F F' → Keep pr σ σ' → SepE X F' R H' σ' en [(some v, d)] → De.rt v H'
def PXs (X : Cx) (W : WX) (pr : List Nat) (F : Hp) (R : Rv) (σ : L2.St) (c : Str) (ns : List Str) (xs en : List D) : Prop :=
  ∀ C dx σ' H' F', Le F F' → X.mg c = some (.ref C) → Keep pr σ σ' → XdAt X.K X.mg F' dx ns xs → SepE X F' R H' σ' en [] → W (.ref C) (some dx) σ' H'
structure DS (X : Cx) (pr : List Nat) (st : Stmt) (f : M Fl) : Prop where
  run : ∀ (W : WX) (F : Hp) (R : Rv) (H : Hp) (σ : L2.St) (en : List D) (De : Ends), Takes X W → SepE X F R H σ en [] → wpO (f en) (PF X pr F R σ De) (PXs X W pr F R σ) → uS X σ H st De
structure DSs (X : Cx) (pr : List Nat) (st : List Stmt) (f : M Fl) : Prop where
  run : ∀ (W : WX) (F : Hp) (R : Rv) (H : Hp) (σ : L2.St) (en : List D) (De : Ends), Takes X W → SepE X F R H σ en [] → wpO (f en) (PF X pr F R σ De) (PXs X W pr F R σ) → uSs X σ H st De
section
variable {X : Cx} {F F' F1 H H' H1 : Hp} {R : Rv} {σ σ' σ1 : L2.St} {en en' : List D} {T T' : List (Option V × D)} {vs : List V} {os : List Op} {v x y : V} {o : Op} {d : D} {i : Nat} {W : WX} {Q : VK} {pr : List Nat} {De : Ends} {pos : Pos}
theorem PXs.toC (h : PXs X W pr F R σ c ns xs en) : PXc X W F R σ c ns xs en := fun C dx H' F' le m xd S => h C dx σ H' F' le m (Keep.refl pr σ) xd S
theorem PXs.le (h : PXs X W pr F R σ c ns xs en) (e : Le F F') : PXs X W pr F' R σ c ns xs en := fun C dx σ' H' F2 e2 => h C dx σ' H' F2 (e.trans e2)
theorem PXs.on (h : PXs X W pr F R σ c ns xs en) (e : Le F F') (k : Keep pr σ σ1) : PXs X W pr F' R σ1 c ns xs en := fun C dx σ' H' F2 e2 m kk => h C dx σ' H' F2 (e.trans e2) m (k.trans kk)
theorem PF.on {fl : Fl} (h : PF X pr F R σ De fl en) (e : Le F F') (k : Keep pr σ σ1) : PF X pr F' R σ1 De fl en := by
  cases fl with
  | nx => exact fun σ' H' F2 e2 kk => h σ' H' F2 (e.trans e2) (k.trans kk)
  | bk => exact fun σ' H' F2 e2 kk => h σ' H' F2 (e.trans e2) (k.trans kk)
  | ct => exact fun σ' H' F2 e2 kk => h σ' H' F2 (e.trans e2) (k.trans kk)
  | rt d => exact fun v σ' H' F2 e2 kk => h v σ' H' F2 (e.trans e2) (k.trans kk)
/-- a part, then a statement's end -/
theorem oneS {e1 : Expr} {fa : M Op} {k : Op → M Fl} (h1 : DO X e1 fa) (tk : Takes X W) (S : SepE X F R H σ en []) (h : wpO (bd fa k en) (PF X pr F R σ De) (PXs X W pr F R σ)) {Q2 : V → Hp → Prop}
    (hk : ∀ x a en2 F2 H2, Le F F2 → OpsS X F2 R H2 σ en2 [x] [a] → wpO (k a en2) (PF X pr F R σ De) (PXs X W pr F R σ) → Q2 x H2) : uE X σ H e1 Q2 := by
  rw [wpO_bd] at h
  exact h1.run W F R H σ en _ tk S (wpO_mono h (fun a en1 h x H1 F1 le1 S1 => hk x a en1 F1 H1 le1 S1 h) fun _ _ _ _ q => q.toC)
theorem oneST {e1 : Expr} {fa : M Bool} {k : Bool → M Fl} (h1 : DT X e1 fa) (tk : Takes X W) (S : SepE X F R H σ en []) (h : wpO (bd fa k en) (PF X pr F R σ De) (PXs X W pr F R σ)) {Q2 : Bool → Hp → Prop}
    (hk : ∀ b en2 F2 H2, Le F F2 → SepE X F2 R H2 σ en2 [] → wpO (k b en2) (PF X pr F R σ De) (PXs X W pr F R σ) → Q2 b H2) : uT X σ H e1 Q2 := by
  rw [wpO_bd] at h
  exact h1.run W F R H σ en _ tk S (wpO_mono h (fun b en1 h H1 F1 le1 S1 => hk b en1 F1 H1 le1 S1 h) fun _ _ _ _ q => q.toC)
def dNx : M Fl := rt .nx
def sSeq (f g : M Fl) : M Fl := bd f fun fl => match fl with
  | .nx => g
  | fl => rt fl
theorem dss_nil : DSs X pr [] dNx := ⟨fun W F R H σ en De tk S h => uSs.of pss_nil (h σ H F (Le.refl F) (Keep.refl pr σ) S)⟩
theorem dss_cons {st : Stmt} {sts : List Stmt} {f g : M Fl} (h1 : DS X pr st f) (h2 : DSs X pr sts g) : DSs X pr (st :: sts) (sSeq f g) := by
  refine ⟨fun W F R H σ en De tk S h => uSs.of (pss_cons (uS.ps X st) (uSs.pss X sts)) ?_⟩
  unfold sSeq at h
  rw [wpO_bd] at h
  refine h1.run W F R H σ en _ tk S (wpO_mono h (fun fl en1 h => ?_) fun _ _ _ _ q => q)
  cases fl with
  | nx => exact fun σ1 H1 F1 le1 k1 S1 => h2.run W F1 R H1 σ1 en1 _ tk S1 (wpO_mono h (fun _ _ q => q.on le1 k1) fun _ _ _ _ q => q.on le1 k1)
  | bk => exact h
  | ct => exact h
  | rt d => exact h
theorem ds_pass : DS X pr (.Pass pos) dNx := ⟨fun W F R H σ en De tk S h => uS.of ps_pass (h σ H F (Le.refl F) (Keep.refl pr σ) S)⟩
theorem ds_break : DS X pr (.Break pos) (rt .bk) := ⟨fun W F R H σ en De tk S h => uS.of ps_break (h σ H F (Le.refl F) (Keep.refl pr σ) S)⟩
theorem ds_continue : DS X pr (.Continue pos) (rt .ct) := ⟨fun W F R H σ en De tk S h => uS.of ps_continue (h σ H F (Le.refl F) (Keep.refl pr σ) S)⟩
theorem ds_doc {z : Str} {j pos'} : DS X pr (.Expr (.Constant (.str z) j pos') pos) dNx := ⟨fun W F R H σ en De tk S h => uS.of ps_doc (h σ H F (Le.refl F) (Keep.refl pr σ) S)⟩
def sExpr (f : M Op) : M Fl := bd f fun _ => rt .nx
theorem ds_expr {e : Expr} {f : M Op} (h1 : DO X e f) (hs : swapsWith e none pos.line X.env = pure false := by rfl) : DS X pr (.Expr e pos) (sExpr f) := by
  refine ⟨fun W F R H σ en De tk S h => uS.of (ps_expr (uE.pe X e) hs) ?_⟩
  exact oneS h1 tk S h fun x a en2 F2 H2 le S2 h => h σ H2 F2 le (Keep.refl pr σ) S2.2.clear
def sRet (pr : List Nat) (f : M Op) : M Fl := bd f fun o => fun en => match o with
  | .v d => .ok (.rt d) en
  | .s i => if isFz (en.getD i .un) then .ok (.rt (en.getD i .un)) en else if i ∈ pr then .ok (.rt (cool (en.getD i .un))) (coolAt en i) else .ok (.rt (en.getD i .un)) (en.set i .un)
theorem ds_ret {e : Expr} {f : M Op} (h1 : DO X e f) : DS X pr (.Return (some e) pos) (sRet pr f) := by
  refine ⟨fun W F R H σ en De tk S h => uS.of (ps_ret (uE.pe X e)) ?_⟩
  refine oneS h1 tk S h fun x o en2 F2 H2 le S2 h => ?_
  cases o with
  | v d => exact h x σ H2 F2 le (Keep.refl pr σ) S2.2
  | s i =>
    dsimp only at h
    split at h
    · rename_i hz
      exact h x σ H2 F2 le (Keep.refl pr σ) (S2.2.clear.add (S2.2.sep.rep_mem (mem1 S2) hz))
    · split at h
      · obtain ⟨F3, le3, S3, r⟩ := S2.2.coolSlot S2.1.1
        exact h x σ H2 F3 (le.trans le3) (Keep.refl pr σ) (S3.clear.add r)
      · exact h x σ H2 F2 le (Keep.refl pr σ) (S2.2.take S2.1.1)
theorem ds_retN : DS X pr (.Return none pos) (rt (.rt .non)) :=
  ⟨fun W F R H σ en De tk S h => uS.of ps_retN (h _ σ H F (Le.refl F) (Keep.refl pr σ) (S.add (leaf_rep rfl)))⟩
def sSet (i : Nat) (f : M Op) : M Fl := bd f fun o => fun en => .ok .nx ((escE en o).set i (escD en o))
theorem ds_set {i : Nat} {x : Str} {e : Expr} {f : M Op} {pos' : Pos} (h1 : DO X e f) (hp : i ∉ pr := by decide) (hN : X.N.Nodup := by exact FnScope.nd (by assumption)) (hi : X.N[i]? = some x := by rfl) (hx : Loc X.env.scope x := by first | exact Or.inl rfl | exact Or.inr rfl) (hs : swapsWith e (some (.Name x pos')) pos.line X.env = pure false := by rfl)
    (hf : X.fn x = true ∨ X.env.scope.names.lookup x = some .local := by first | exact .inl rfl | exact .inr rfl | assumption) : DS X pr (.Assign [.Name x pos'] e pos) (sSet i f) := by
  refine ⟨fun W F R H σ en De tk S h => uS.of (t := tAsg (fun σ H Q => uE X σ H e Q) (fun v σ H Q => i < σ.length → Q (σ.set i (some v)) H)) ⟨fun pins s σ H D I h => ?_⟩ ?_⟩
  · refine wpAny_Assign_Name (thn (h pins s I) fun v s1 ⟨y, H1, I1, r1, q1⟩ => ?_) hs
    exact store_ok I1 hN hi hx r1 (fun s2 I2 => ⟨_, H1, I2, q1 (by rw [I1.len]; exact (List.getElem?_eq_some_iff.mp hi).1)⟩) hf
  · refine oneS h1 tk S h fun x o en2 F2 H2 le S2 h hlt => ?_
    obtain ⟨F3, le3, S3⟩ := S2.2.esc' S2
    exact h _ H2 F3 (le.trans le3) (Keep.set hp) (S3.bind hlt)
def sIf (t : M Bool) (f g : M Fl) : M Fl := bd t fun b => if b then f else g
theorem ds_if {c : Expr} {a b : List Stmt} {t : M Bool} {f g : M Fl} (h0 : DT X c t) (h1 : DSs X pr a f) (h2 : DSs X pr b g) : DS X pr (.If c a b pos) (sIf t f g) := by
  refine ⟨fun W F R H σ en De tk S h => uS.of (ps_if (uT.pt X c) (uSs.pss X a) (uSs.pss X b)) ?_⟩
  refine oneST h0 tk S h fun b en2 F2 H2 le S2 h => ?_
  cases b with
  | true => exact iteT (h1.run W F2 R H2 σ en2 _ tk S2 (wpO_mono h (fun _ _ q => q.on le (Keep.refl pr σ)) fun _ _ _ _ q => q.le le))
  | false => exact iteF (h2.run W F2 R H2 σ en2 _ tk S2 (wpO_mono h (fun _ _ q => q.on le (Keep.refl pr σ)) fun _ _ _ _ q => q.le le))
end
end PI
set_option maxHeartbeats 3900000
namespace PI
open L2 PySem PyProof.Rows PySem.Spec
variable [Tb]
inductive OF where
  | ok (d : D) (bk : List D) | ex (c : Str) (ns : List Str) (xs : List D) (bk : List D) | st
/-- what was lent comes back -/
def backL : List Bool → List V → List D → List (Option V × D)
  | true :: ms, v :: vs, b :: bk => (some v, b) :: backL ms vs bk
  | false :: ms, _ :: vs, bk => backL ms vs bk
  | _, _, _ => []
def wpF (o : OF) (Qk : D → List D → Prop) (Qx : Str → List Str → List D → List D → Prop) : Prop :=
  match o with
  | .ok d bk => Qk d bk
  | .ex c ns xs bk => Qx c ns xs bk
  | .st => False
/-- the promise of a def that is worth f; ms: which arguments are lent; n: how many -/
def spOf (K : PySem.W.Frag) (mg : Str → Option Value) (n : Nat) (ms : List Bool) (f : List D → OF) : Sp := fun vs H Q E =>
  vs.length = n ∧ ∃ (F : Hp) (R : Rv) (ds : List D), vs.length = ds.length ∧ Sep K mg F R H (kids vs ds) ∧
    wpF (f ds) (fun d bk => ∀ v H' F', Le F F' → Sep K mg F' R H' ((some v, d) :: backL ms vs bk) → Q v H')
      (fun c ns xs bk => ∀ C dx H' F', Le F F' → mg c = some (.ref C) → XdAt K mg F' dx ns xs → Sep K mg F' R H' (backL ms vs bk) → E (.ref C) (some dx) H')
/-- the def that stands under the name x is worth f, at level k -/
structure Gf (P : Program) (w : World) (K : PySem.W.Frag) (mg : Str → Option Value) (base : Heap) (x : Str) (k n : Nat) (ms : List Bool) (f : List D → OF) : Prop where
  ex : ∃ a fd ps, mg x = some (.ref a) ∧ PySem.W.keepIn K (.ref a) = true ∧ Binds K fd ps [] ∧ FnOk P w K mg base (L2.CX P w) k a fd ps (spOf K mg n ms f)
def pass : List Bool → List Op → List D → List D × List D
  | _, [], en => ([], en)
  | true :: ms, .s i :: os, en => (en.getD i .un :: (pass ms os (en.set i .un)).1, (pass ms os (en.set i .un)).2)
  | true :: ms, .v d :: os, en => (d :: (pass ms os en).1, (pass ms os en).2)
  | false :: ms, o :: os, en => (cool (escD en o) :: (pass ms os (escE en o)).1, (pass ms os (escE en o)).2)
  | [], o :: os, en => (cool (escD en o) :: (pass [] os (escE en o)).1, (pass [] os (escE en o)).2)
def give : List Bool → List Op → List D → List D → List D
  | true :: ms, .s i :: os, b :: bk, en => give ms os bk (en.set i b)
  | true :: ms, .v _ :: os, _ :: bk, en => give ms os bk en
  | false :: ms, _ :: os, bk, en => give ms os bk en
  | _, _, _, en => en
def dCall (ms : List Bool) (f : List D → OF) (fa : M (List Op)) : M Op := bd fa fun os => fun en =>
  match f (pass ms os en).1 with
  | .ok d bk => .ok (.v d) (give ms os bk (pass ms os en).2)
  | .ex c ns xs bk => .ex c ns xs (give ms os bk (pass ms os en).2)
  | .st => .st
section
variable {X : Cx} {F F' F1 H H' H1 : Hp} {R : Rv} {σ σ' σ1 : L2.St} {en en' : List D} {T T' : List (Option V × D)} {vs : List V} {os : List Op} {v x y : V} {o : Op} {d : D} {i : Nat} {W : WX} {Q : VK} {pr : List Nat} {De : Ends} {pos : Pos}
theorem pass_ok : ∀ {ms : List Bool} {vs : List V} {os : List Op} {en : List D} {F : Hp} {T : List (Option V × D)}, AtOps σ vs os → SepE X F R H σ en (tmps vs os ++ T) → ∃ F', Le F F' ∧ SepE X F' R H σ (pass ms os en).2 (kids vs (pass ms os en).1 ++ T) ∧ vs.length = (pass ms os en).1.length
  | ms, [], [], en, F, T, _, S => ⟨F, Le.refl F, by cases ms <;> exact S, by cases ms <;> rfl⟩
  | true :: ms, x :: vs, .s i :: os, en, F, T, a, S => by
    obtain ⟨F', le, S', hl⟩ := pass_ok (ms := ms) (vs := vs) (os := os) (T := (some x, en.getD i .un) :: T) a.2 ((S.take a.1).perm List.perm_middle.symm)
    exact ⟨F', le, S'.perm List.perm_middle, by simp [pass, hl]⟩
  | true :: ms, x :: vs, .v d :: os, en, F, T, a, S => by
    obtain ⟨F', le, S', hl⟩ := pass_ok (ms := ms) (vs := vs) (os := os) (T := (some x, d) :: T) a (S.perm List.perm_middle.symm)
    exact ⟨F', le, S'.perm List.perm_middle, by simp [pass, hl]⟩
  | false :: ms, x :: vs, .v d :: os, en, F, T, a, S => by
    obtain ⟨F1, le1, S1, r⟩ := S.coolTmp
    obtain ⟨F', le, S', hl⟩ := pass_ok (ms := ms) (vs := vs) (os := os) a S1
    exact ⟨F', le1.trans le, S'.add (r.le le), by simp [pass, escE, hl]⟩
  | false :: ms, x :: vs, .s i :: os, en, F, T, a, S => by
    obtain ⟨F1, le1, S1, r⟩ := S.coolSlot a.1
    obtain ⟨F', le, S', hl⟩ := pass_ok (ms := ms) (vs := vs) (os := os) a.2 S1
    refine ⟨F', le1.trans le, ?_, by simp [pass, escE, hl]⟩
    have : cool (escD en (.s i)) = cool (en.getD i .un) := cool_of (cool_isFz _)
    simp only [pass, this]
    exact S'.add (r.le le)
  | [], x :: vs, .v d :: os, en, F, T, a, S => by
    obtain ⟨F1, le1, S1, r⟩ := S.coolTmp
    obtain ⟨F', le, S', hl⟩ := pass_ok (ms := []) (vs := vs) (os := os) a S1
    exact ⟨F', le1.trans le, S'.add (r.le le), by simp [pass, escE, hl]⟩
  | [], x :: vs, .s i :: os, en, F, T, a, S => by
    obtain ⟨F1, le1, S1, r⟩ := S.coolSlot a.1
    obtain ⟨F', le, S', hl⟩ := pass_ok (ms := []) (vs := vs) (os := os) a.2 S1
    refine ⟨F', le1.trans le, ?_, by simp [pass, escE, hl]⟩
    have : cool (escD en (.s i)) = cool (en.getD i .un) := cool_of (cool_isFz _)
    simp only [pass, this]
    exact S'.add (r.le le)
  | _, [], .v _ :: _, _, _, _, a, _ => a.elim
  | _, [], .s _ :: _, _, _, _, a, _ => a.elim
  | _, _ :: _, [], _, _, _, a, _ => a.elim
theorem give_ok : ∀ {ms : List Bool} {vs : List V} {os : List Op} {bk : List D} {en : List D} {T : List (Option V × D)}, AtOps σ vs os → SepE X F R H σ en (backL ms vs bk ++ T) → SepE X F R H σ (give ms os bk en) T
  | true :: ms, x :: vs, .s i :: os, b :: bk, en, T, a, S => give_ok (ms := ms) (vs := vs) (os := os) (bk := bk) a.2 (S.put a.1)
  | true :: ms, x :: vs, .v d :: os, b :: bk, en, T, a, S => give_ok (ms := ms) (vs := vs) (os := os) (bk := bk) a (SepE.drop (T := [(some x, b)]) S)
  | false :: ms, x :: vs, .v _ :: os, bk, en, T, a, S => by
    have := give_ok (ms := ms) (vs := vs) (os := os) (bk := bk) a S
    cases bk <;> exact this
  | false :: ms, x :: vs, .s _ :: os, bk, en, T, a, S => by
    have := give_ok (ms := ms) (vs := vs) (os := os) (bk := bk) a.2 S
    cases bk <;> exact this
  | [], [], [], bk, en, T, _, S => by cases bk <;> exact S
  | true :: ms, [], [], bk, en, T, _, S => by cases bk <;> exact S
  | false :: ms, [], [], bk, en, T, _, S => by cases bk <;> exact S
  | [], x :: vs, o :: os, bk, en, T, _, S => by cases bk <;> exact S
  | true :: ms, x :: vs, .s _ :: os, [], en, T, _, S => S
  | true :: ms, x :: vs, .v _ :: os, [], en, T, _, S => S
  | _, [], .v _ :: _, _, _, _, a, _ => a.elim
  | _, [], .s _ :: _, _, _, _, a, _ => a.elim
  | _, _ :: _, [], _, _, _, a, _ => a.elim
/-- the callee runs; what it raises is wished for at the slots here -/
theorem run_fnW {k : Nat} {f : Addr} {fd : FuncData} {ps : List Str} {sp : Sp} {pins : List (Addr × Obj)} {s : Shared} {us : List Value} (Fn : FnOk X.prog X.w X.K X.mg X.base (L2.CX X.prog X.w) k f fd ps sp) (hr : Room k X.A) (hb : Binds X.K fd ps []) (tk : Takes X W)
    (I : Inv X pins σ H s) (r : Vals vs us) (h : sp vs H Q (fun c dx H' => W c dx σ H')) : wpAny (model X.prog X.w) X.A (call (.ref f) us) (EP X pins σ Q) X.xe s := by
  have hl : (us ++ []).length = ps.length := by rw [List.append_nil, ← r.length]; exact Fn.len _ _ _ _ h
  refine wpAny_call (codeAny_mono (Fn.run X.A X.stack s H ⟨us, []⟩ (us ++ []) vs Q _ hr I.env0 (hb s us I.kIn hl) (by rw [List.append_nil]; exact r) h) fun r s' hq => ?_)
  cases r with
  | error e => exact tk e s' (XE.of_call I (fun _ _ _ h => h) hq)
  | ok fl =>
    cases fl with
    | ret u => exact I.after hq
    | next => exact False.elim hq
    | brk => exact False.elim hq
    | cont => exact False.elim hq
/-- the promise, where it is called -/
theorem sp_here {n : Nat} {ms : List Bool} {f : List D → OF} {en2 : List D} {F2 H2 : Hp} (hn : os.length = n) (le : Le F F2) (S2 : OpsS X F2 R H2 σ en2 vs os)
    (h : wpO (match f (pass ms os en2).1 with | .ok d bk => (.ok (.v d) (give ms os bk (pass ms os en2).2) : O Op) | .ex c ns xs bk => .ex c ns xs (give ms os bk (pass ms os en2).2) | .st => .st) (PVo X F R σ Q) (PXc X W F R σ)) :
    spOf X.K X.mg n ms f vs H2 Q (fun c dx H' => W c dx σ H') := by
  obtain ⟨F3, le3, S3, hl⟩ := pass_ok (ms := ms) (T := []) S2.1 (by rw [List.append_nil]; exact S2.2)
  obtain ⟨R', S4, back⟩ := Sep.lend (L1 := kids vs (pass ms os en2).1) (L2 := σ.zip (pass ms os en2).2) (by have := S3.sep; rw [List.append_nil] at this; exact this)
  refine ⟨S2.1.len.trans hn, F3, R', _, hl, S4, ?_⟩
  cases e : f (pass ms os en2).1 with
  | st => rw [e] at h; exact h.elim
  | ok d bk =>
    rw [e] at h
    intro v H' F' le' S'
    refine h v H' F' (le.trans (le3.trans le')) ⟨trivial, ?_⟩
    have := back F' H' _ le' S'
    refine give_ok (ms := ms) (bk := bk) (T := [(some v, d)]) S2.1 ?_
    refine SepE.perm (T := (some v, d) :: backL ms vs bk) ⟨S3.len, this⟩ ?_
    exact List.perm_append_singleton _ _ |>.symm
  | ex c ns xs bk =>
    rw [e] at h
    intro C dx H' F' le' m xd S'
    refine h C dx H' F' (le.trans (le3.trans le')) m xd ?_
    have := back F' H' _ le' S'
    exact give_ok (ms := ms) (bk := bk) (T := []) S2.1 (by rw [List.append_nil]; exact ⟨S3.len, this⟩)
theorem do_call {k n : Nat} {ms : List Bool} {f : List D → OF} {x : Str} {p : Pos} {e : Expr} {es : List Expr} {fa : M (List Op)} (G : Gf X.prog X.w X.K X.mg X.base x k n ms f) (hr : Room k X.A) (hg : Gl X x) (ha : DOs X (e :: es) fa) (hn : (e :: es).length = n := by rfl)
    (hdb : ((x == ("__debug__" : Str)) = false) := by decide) (he : starEach (e :: es) X.env = ((false, eval e X.env) :: starEach es X.env) := by rfl) (hpl : (backTo pos (starEach es X.env)).any (·.1) = false := by rfl) :
    DO X (.Call (.Name x p) (e :: es) [] pos) (dCall ms f fa) := by
  refine ⟨fun W F R H σ en Q tk S h pins s I => ?_⟩
  obtain ⟨a, fd, ps, hm, hk, hb, Fn⟩ := G.ex
  have key := manyL ha tk S h (Q2 := fun vs H2 => spOf X.K X.mg n ms f vs H2 Q (fun c dx H' => W c dx σ H')) fun vs os en2 F2 H2 hlen le S2 h => sp_here (hlen.trans hn) le S2 h
  refine wpAny_Call_Name_kw (ld_glob (X := X) I hg hm ?_ hdb)
  refine PySem.W.callWith_K (h₀ := X.base) I.ok.mod.kin hk (thn (key pos pins s I) fun us s1 ⟨vs, H1, I1, r, q⟩ => ⟨I1.kIn, ?_⟩) he hpl
  exact run_fnW Fn hr hb tk I1 r q
end
end PI
set_option maxHeartbeats 3900000
namespace PI
open L2 PySem PyProof.Rows PySem.Spec
variable [Tb]
def posOf : Nat → List Bool → List Nat
  | _, [] => []
  | j, true :: ms => j :: posOf (j + 1) ms
  | j, false :: ms => posOf (j + 1) ms
def fden (g : M Fl) (m : Nat) (ms : List Bool) (ds : List D) : OF :=
  match g (ds ++ List.replicate (m - ds.length) .un) with
  | .ok .nx en => .ok .non ((posOf 0 ms).map fun i => en.getD i .un)
  | .ok (.rt d) en => .ok d ((posOf 0 ms).map fun i => en.getD i .un)
  | .ok _ _ => .st
  | .ex c ns xs en => .ex c ns xs ((posOf 0 ms).map fun i => en.getD i .un)
  | .st => .st
theorem posOf_ge : ∀ {ms : List Bool} {j i : Nat}, i ∈ posOf j ms → j ≤ i
  | [], _, _, h => nomatch h
  | true :: ms, j, i, h => by
    obtain rfl | h := List.mem_cons.mp h
    · exact Nat.le_refl _
    · exact Nat.le_of_succ_le (posOf_ge h)
  | false :: ms, j, i, h => Nat.le_of_succ_le (posOf_ge (ms := ms) h)
theorem getD_set_ne {en : List D} {i j : Nat} {d : D} (h : i ≠ j) : (en.set i d).getD j .un = en.getD j .un := by
  rw [List.getD_eq_getElem?_getD, List.getD_eq_getElem?_getD, List.getElem?_set_ne h]
section
variable {X : Cx} {F H : Hp} {R : Rv} {σ : L2.St}
theorem select : ∀ {ms : List Bool} {vs : List V} {j : Nat} {en : List D} {T : List (Option V × D)}, (∀ i v, vs[i]? = some v → j + i ∈ posOf j ms → σ[j + i]? = some (some v)) → SepE X F R H σ en T →
    ∃ en2, SepE X F R H σ en2 (backL ms vs ((posOf j ms).map fun i => en.getD i .un) ++ T)
  | [], vs, j, en, T, _, S => ⟨en, by cases vs <;> exact S⟩
  | true :: ms, [], j, en, T, _, S => ⟨en, S⟩
  | false :: ms, [], j, en, T, _, S => ⟨en, by simp only [backL]; exact S⟩
  | true :: ms, v :: vs, j, en, T, h, S => by
    have S1 := S.take (h 0 v rfl List.mem_cons_self)
    obtain ⟨en2, S2⟩ := select (ms := ms) (vs := vs) (j := j + 1) (fun i u hu hi => by
      have := h (i + 1) u (by simpa using hu) (List.mem_cons_of_mem _ (by rw [show j + (i + 1) = j + 1 + i by omega]; exact hi))
      rw [show j + 1 + i = j + (i + 1) by omega]; exact this) S1
    refine ⟨en2, S2.perm ?_⟩
    have e : ((posOf (j + 1) ms).map fun i => (en.set (j + 0) .un).getD i .un) = (posOf (j + 1) ms).map fun i => en.getD i .un :=
      List.map_congr_left fun i hi => getD_set_ne (by have := posOf_ge hi; omega)
    rw [e]
    exact List.perm_middle
  | false :: ms, v :: vs, j, en, T, h, S => by
    obtain ⟨en2, S2⟩ := select (ms := ms) (vs := vs) (j := j + 1) (fun i u hu hi => by
      have := h (i + 1) u (by simpa using hu) (by rw [show j + (i + 1) = j + 1 + i by omega]; exact hi)
      rw [show j + 1 + i = j + (i + 1) by omega]; exact this) S
    exact ⟨en2, by cases h : ((posOf (j + 1) ms).map fun i => en.getD i .un) <;> (simp only [posOf, backL]; rw [h] at S2 ⊢; exact S2)⟩
end
theorem fo_un {K : PySem.W.Frag} {mg : Str → Option Value} {F H : Hp} : ∀ (ovs : List (Option V)) (n : Nat), Fo K mg F H (ovs.zip (List.replicate n .un)) []
  | [], n => by simpa using Fo.nil
  | ov :: ovs, 0 => by simpa using Fo.nil
  | ov :: ovs, n + 1 => by
    rw [List.replicate_succ, List.zip_cons_cons]
    exact .leaf trivial (fo_un ovs n)
section
variable {base : Heap} {K : PySem.W.Frag} {P : Program} {mg : Str → Option Value} {w : World}
theorem gf_of {x qual : Str} {st : Stmt} {a : Addr} {fd : FuncData} {N ps : List Str} {k : Nat} {ms : List Bool} {g : M Fl} (Fn : Fun K x qual st a fd) (hm : mg x = some (.ref a)) (Sc : FnScope N ps (defScope st)) (hb : Binds K fd ps []) (hle : ps.length ≤ N.length := by decide)
    (body : ∀ (cdv : Value) (A : Around) (outer : List Env) (s : Shared) (H : Hp) (E : XK), Room k (A.deeper (envOfC qual (defScope st) s.heap.objs.size a cdv)) → DSs (cxOf (L2.CX P w) P w K mg base N qual (defScope st) a cdv A outer s H E) (posOf 0 ms) (defBody st) g) :
    Gf P w K mg base x (k + 1) ps.length ms (fden g N.length ms) := by
  refine ⟨a, fd, ps, hm, Fn.kp, hb, Fn.okX Sc (fun vs H Q E h => h.1) fun cdv A outer s H vs Q E hr h => ?_⟩
  obtain ⟨hn, F, R, ds, hl, S, h⟩ := h
  refine ⟨_, uSs.pss _ _, ?_⟩
  have B := body cdv A outer s H E hr
  generalize hX : cxOf (L2.CX P w) P w K mg base N qual (defScope st) a cdv A outer s H E = X at B
  have tk : Takes X (fun cls d _ H => E cls d H) := by subst hX; exact takes_of rfl rfl rfl rfl
  have eK : X.K = K := by subst hX; rfl
  have eM : X.mg = mg := by subst hX; rfl
  have eN : X.N = N := by subst hX; rfl
  have e0 : L2.start N vs = vs.map some ++ List.replicate (N.length - ds.length) none := by unfold L2.start; rw [hl]
  have S0 : SepE X F R H (L2.start N vs) (ds ++ List.replicate (N.length - ds.length) .un) [] := by
    refine ⟨by rw [e0]; simp [hl], ?_⟩
    rw [eK, eM, e0, List.nil_append, List.zip_append (by simp [hl])]
    obtain ⟨A', f, nn, q⟩ := S.fo
    exact ⟨S.fh, S.rh, S.rf, S.nf, S.nr, S.tb, A', by have := f.app (fo_un (K := K) (mg := mg) (F := F) (H := H) (List.replicate (N.length - ds.length) none) (N.length - ds.length)); rwa [List.append_nil] at this, nn, q⟩
  have at0 : ∀ i v, vs[i]? = some v → (L2.start N vs)[i]? = some (some v) := fun i v h => by
    rw [e0, List.getElem?_append_left (by rw [List.length_map]; exact (List.getElem?_eq_some_iff.mp h).1), List.getElem?_map, h]
    rfl
  have fin : ∀ {σ' H' F' en T}, Le F F' → Keep (posOf 0 ms) (L2.start N vs) σ' → SepE X F' R H' σ' en T → Sep K mg F' R H' (T ++ backL ms vs ((posOf 0 ms).map fun i => en.getD i .un)) := fun {σ' H' F' en T} le kk S' => by
    obtain ⟨en2, S2⟩ := select (ms := ms) (vs := vs) (j := 0) (fun i v hv hi => by rw [Nat.zero_add] at hi ⊢; rw [kk.2 i hi]; exact at0 i v hv) S'
    have := S2.sep.left
    rw [eK, eM] at this
    exact this.perm List.perm_append_comm
  refine B.run _ F R H (L2.start N vs) _ _ tk S0 ?_
  unfold fden at h
  cases e : g (ds ++ List.replicate (N.length - ds.length) .un) with
  | st => rw [e] at h; exact h.elim
  | ex c ns xs en =>
    rw [e] at h
    intro C dx σ' H' F' le m kk xd S'
    rw [eK, eM] at xd
    rw [eM] at m
    exact h C dx H' F' le m xd (fin (T := []) le kk S')
  | ok fl en =>
    rw [e] at h
    cases fl with
    | nx => exact fun σ' H' F' le kk S' => h .non H' F' le (Sep.add (fin (T := []) le kk S') (leaf_rep rfl))
    | rt d => exact fun v σ' H' F' le kk S' => h v H' F' le (fin (T := [(some v, d)]) le kk S')
    | bk => exact h.elim
    | ct => exact h.elim
end
end PI
set_option maxHeartbeats 3900000
namespace PI
open L2 PySem PyProof.Rows PySem.Spec
variable [Tb]
def uG (X : Cx) (σ : L2.St) (H : Hp) (tg : Expr) (x : V) (Q : L2.St → Hp → Prop) : Prop := ∀ pins s u, Inv X pins σ H s → RelV x u → wpAny (model X.prog X.w) X.A (assign tg X.env u) (fun _ s' => ∃ σ' H', Inv X pins σ' H' s' ∧ Q σ' H') X.xe s
def uGs (X : Cx) (σ : L2.St) (H : Hp) (tgs : List Expr) (xs : List V) (Q : L2.St → Hp → Prop) : Prop := ∀ pins s us, Inv X pins σ H s → Vals xs us → wpAny (model X.prog X.w) X.A (assignInOrder ((assignEach tgs X.env).map (·.2)) us) (fun _ s' => ∃ σ' H', Inv X pins σ' H' s' ∧ Q σ' H') X.xe s
theorem uG.pg (X : Cx) (tg : Expr) : PG X tg (fun v σ H Q => uG X σ H tg v Q) := ⟨fun pins s σ H v u Q I r h => h pins s u I r⟩
theorem uGs.pgs (X : Cx) (tgs : List Expr) : PGs X tgs (fun v σ H Q => uGs X σ H tgs v Q) := ⟨fun pins s σ H v u Q I r h => h pins s u I r⟩
def PGt (X : Cx) (pr : List Nat) (F : Hp) (R : Rv) (σ : L2.St) (Q : L2.St → Hp → Prop) (_ : Unit) (en : List D) : Prop := ∀ σ' H' F', Le F F' → Keep pr σ σ' → SepE X F' R H' σ' en [] → Q σ' H'
structure DG (X : Cx) (pr : List Nat) (tg : Expr) (g : D → M Unit) : Prop where
  noex : ∀ {d en c ns xs e}, g d en ≠ .ex c ns xs e
  run : ∀ (F : Hp) (R : Rv) (H : Hp) (σ : L2.St) (en : List D) (x : V) (d : D) (Q : L2.St → Hp → Prop), SepE X F R H σ en [(some x, d)] → wpO (g d en) (PGt X pr F R σ Q) (fun _ _ _ _ => False) → uG X σ H tg x Q
structure DGs (X : Cx) (pr : List Nat) (tgs : List Expr) (g : List D → M Unit) : Prop where
  noex : ∀ {d en c ns xs e}, g d en ≠ .ex c ns xs e
  run : ∀ (F : Hp) (R : Rv) (H : Hp) (σ : L2.St) (en : List D) (vs : List V) (ds : List D) (Q : L2.St → Hp → Prop), SepE X F R H σ en [] → Reps X.K X.mg F vs ds → wpO (g ds en) (PGt X pr F R σ Q) (fun _ _ _ _ => False) → uGs X σ H tgs vs Q
def gSet (i : Nat) (d : D) : M Unit := fun en => .ok () (en.set i d)
def gsNil (ds : List D) : M Unit := match ds with
  | [] => rt ()
  | _ => no
def gsCons (g : D → M Unit) (gs : List D → M Unit) (ds : List D) : M Unit := match ds with
  | d :: ds => bd (g d) fun _ => gs ds
  | [] => no
def gTup (n : Nat) (gs : List D → M Unit) (d : D) : M Unit := match d with
  | .nd .tup xs => if xs.length = n ∧ isFzL xs = true then gs xs else no
  | _ => no
section
variable {X : Cx} {F F' F1 H H' G1 : Hp} {R : Rv} {σ σ' σ1 : L2.St} {en en' : List D} {T T' : List (Option V × D)} {vs : List V} {os : List Op} {v x y : V} {o : Op} {d : D} {i : Nat} {W : WX} {Q : VK} {pr : List Nat} {De : Ends} {pos : Pos}
theorem dg_name {i : Nat} {x : Str} (hp : i ∉ pr := by decide) (hN : X.N.Nodup := by exact FnScope.nd (by assumption)) (hi : X.N[i]? = some x := by rfl) (hx : Loc X.env.scope x := by first | exact Or.inl rfl | exact Or.inr rfl)
    (hf : X.fn x = true ∨ X.env.scope.names.lookup x = some .local := by first | exact .inl rfl | exact .inr rfl | assumption) : DG X pr (.Name x pos) (gSet i) := by
  refine ⟨fun z => (by cases z), fun F R H σ en y d Q S h pins s u I r => ?_⟩
  have hlt : i < σ.length := by rw [I.len]; exact (List.getElem?_eq_some_iff.mp hi).1
  exact wpAny_assign_Name (store_ok I hN hi hx r (fun s' I' => ⟨_, H, I', h _ H F (Le.refl F) (Keep.set hp) (S.bind hlt)⟩) hf)
theorem dgs_nil : DGs X pr [] gsNil := by
  refine ⟨fun {d _ _ _ _ _} z => (by cases d <;> cases z), fun F R H σ en vs ds Q S r h pins s us I rv => ?_⟩
  cases ds with
  | cons _ _ => exact h.elim
  | nil =>
    have : vs = [] := List.eq_nil_of_length_eq_zero r.1
    subst this
    exact pgs_nil.run pins s σ H [] us Q I rv ⟨rfl, h σ H F (Le.refl F) (Keep.refl pr σ) S⟩
theorem dgs_cons {e : Expr} {es : List Expr} {g : D → M Unit} {gs : List D → M Unit} (h1 : DG X pr e g) (h2 : DGs X pr es gs)
    (hs : (assignEach (e :: es) X.env).map (·.2) = assign e X.env :: (assignEach es X.env).map (·.2) := by rfl) : DGs X pr (e :: es) (gsCons g gs) := by
  refine ⟨fun {d en c ns xs e'} z => ?_, ?_⟩
  · cases d with
    | nil => cases z
    | cons d ds =>
      simp only [gsCons, bd_at] at z
      cases q : g d en with
      | st => rw [q] at z; cases z
      | ex => exact h1.noex q
      | ok u en1 => rw [q] at z; exact h2.noex z
  intro F R H σ en vs ds Q S r h pins s us I rv
  cases ds with
  | nil => exact h.elim
  | cons d ds =>
    cases vs with
    | nil => cases r.1
    | cons v vs =>
      obtain ⟨d', ds', e1, r1, r2⟩ := r.uncons
      cases e1
      unfold gsCons at h
      rw [wpO_bd] at h
      refine (pgs_cons (uG.pg X e) (uGs.pgs X es) hs).run pins s σ H (v :: vs) us Q I rv ⟨v, vs, rfl, ?_⟩
      exact h1.run F R H σ en v d _ (S.add r1) (wpO_mono h (fun _ en1 h σ1 G1 F1 le1 k1 S1 => h2.run F1 R G1 σ1 en1 vs ds Q S1 (r2.le le1) (wpO_mono h (fun _ _ q σ' H' F' le k S' => q σ' H' F' (le1.trans le) (k1.trans k) S') fun _ _ _ _ q => q)) fun _ _ _ _ q => q)
theorem dg_tup {es : List Expr} {k : Nat} {n : Nat} {gs : List D → M Unit} (h1 : DGs X pr es gs) (hc : X.calm = true := by rfl) (hn : (assignEach es X.env).length = n := by rfl) (hst : (assignEach es X.env).findIdx? (·.1) = none := by rfl) :
    DG X pr (.Tuple es k pos) (gTup n gs) := by
  refine ⟨fun {d en c ns xs e'} z => ?_, ?_⟩
  · unfold gTup at z
    split at z
    · split at z
      · exact h1.noex z
      · cases z
    · cases z
  intro F R H σ en x d Q S h
  intro pins s u I r
  cases d with
  | nd k xs =>
    cases k with
    | tup =>
      unfold gTup at h
      dsimp only at h
      split at h
      · rename_i hh
        obtain ⟨p, vs, rfl, hl, hcn, rs⟩ := Sep.rds S.sep List.mem_cons_self hh.2
        exact (L2.pg_tup hc (uGs.pgs X es) hn hst).run pins s σ H _ u Q I r ⟨p, vs, rfl, SqT.of hcn, hl.trans hh.1, h1.run F R H σ en vs xs Q S.clear rs h⟩
      · exact h.elim
    | _ => exact h.elim
  | _ => exact h.elim
def uI (X : Cx) (σ : L2.St) (H : Hp) (tg iter : Expr) (Rr : It → Hp → Prop) : Prop := ∀ pins s, Inv X pins σ H s → wpAny (model X.prog X.w) X.A (eval iter X.env) (fun v s1 => wpAny (model X.prog X.w) X.A (pyIter v) (PIE X pins σ tg Rr) X.xe s1) X.xe s
theorem uI.pi (X : Cx) (tg iter : Expr) : L2.PI X tg iter (fun σ H R => uI X σ H tg iter R) := ⟨fun pins s σ H R I h => h pins s I⟩
theorem uI.of {X : Cx} {tg iter : Expr} {wi : TI} {σ : L2.St} {H : Hp} {Rr : It → Hp → Prop} (h : L2.PI X tg iter wi) (q : wi σ H Rr) : uI X σ H tg iter Rr := fun pins s I => h.run pins s σ H Rr I q
/-- J walks the frozen values ds -/
def Walks (K : PySem.W.Frag) (mg : Str → Option Value) (J : It) (F : Hp) (ds : List D) : Prop := ∀ F1 R H L, Le F F1 → Sep K mg F1 R H L →
  (∀ (i : Nat) d, ds[i]? = some d → J.go i H ∧ ∀ x H', J.yld i H x H' → ∃ F2, Le F1 F2 ∧ Sep K mg F2 R H' ((some x, d) :: L)) ∧ ∀ i, ds.length ≤ i → J.stop i H
structure DI (X : Cx) (tg iter : Expr) (f : M (List D)) : Prop where
  run : ∀ (W : WX) (F : Hp) (R : Rv) (H : Hp) (σ : L2.St) (en : List D) (Rr : It → Hp → Prop), Takes X W → SepE X F R H σ en [] →
    wpO (f en) (fun ds en' => ∀ J H' F', Le F F' → Walks X.K X.mg J F' ds → SepE X F' R H' σ en' [] → Rr J H') (PXc X W F R σ) → uI X σ H tg iter Rr
/-- the items of a list or tuple -/
def items : D → Option (List D)
  | .nd .tup xs => if isFzL xs then some xs else none
  | .nd .rol xs => if isFzL xs then some xs else none
  | .nd (.lst false) xs => if isFzL xs then some xs else none
  | _ => none
def iSeq (f : M Op) : M (List D) := bd f fun o => fun en => match items (cool (escD en o)) with
  | some ds => .ok ds (escE en o)
  | none => .st
def gTl : D → Option Bool
  | .nd .tup _ => some true
  | .nd .rol _ => some false
  | .nd (.lst _) _ => some false
  | _ => none
theorem walk_at {K : PySem.W.Frag} {mg : Str → Option Value} {a : Addr} {ds : List D} (hs : SqL K F a vs) (r : Reps K mg F vs ds) : Walks K mg (Itl K a) F ds := by
  intro F1 R H L le S
  have hH : SqL K H a vs := S.fh.sqL (le.sqL hs)
  refine ⟨fun i d hd => ?_, fun i hi => ⟨vs, hH, by rw [r.1]; exact hi⟩⟩
  obtain ⟨y, hy, rp⟩ := r.get hd
  refine ⟨⟨vs, y, hH, hy⟩, fun x H' q => ?_⟩
  obtain ⟨rfl, q⟩ := q
  have := q vs hH
  rw [hy] at this
  cases this
  exact ⟨F1, Le.refl F1, S.add (rp.le le)⟩
theorem walk_atT {K : PySem.W.Frag} {mg : Str → Option Value} {a : Addr} {ds : List D} (hs : SqT K F a vs) (r : Reps K mg F vs ds) : Walks K mg (Itt K a) F ds := by
  intro F1 R H L le S
  have hH : SqT K H a vs := S.fh.sqT (le.sqT hs)
  refine ⟨fun i d hd => ?_, fun i hi => ⟨vs, hH, by rw [r.1]; exact hi⟩⟩
  obtain ⟨y, hy, rp⟩ := r.get hd
  refine ⟨⟨vs, y, hH, hy⟩, fun x H' q => ?_⟩
  obtain ⟨rfl, q⟩ := q
  have := q vs hH
  rw [hy] at this
  cases this
  exact ⟨F1, Le.refl F1, S.add (rp.le le)⟩
theorem Rep.node {K : PySem.W.Frag} {mg : Str → Option Value} {k : Kd} {xs : List D} (r : Rep K mg F x (.nd k xs)) : ∃ p vs, x = .ref p ∧ Cont K mg F k p vs ∧ Reps K mg F vs xs := by
  cases r with
  | leaf q _ => exact q.elim
  | cold h1 h2 h3 h4 _ => exact ⟨_, _, rfl, h2, h3, h4⟩
theorem SepE.escCool (S : OpsS X F R H σ en [x] [o]) : ∃ F', Le F F' ∧ SepE X F' R H σ (escE en o) [] ∧ Rep X.K X.mg F' x (cool (escD en o)) := by
  obtain ⟨F1, le1, S1⟩ := SepE.esc' S.2 S
  obtain ⟨F2, le2, S2, r⟩ := S1.coolTmp
  exact ⟨F2, le1.trans le2, S2, r⟩
theorem oneI {e1 : Expr} {fa : M Op} {k : Op → M (List D)} {Qk : List D → List D → Prop} (h1 : DO X e1 fa) (tk : Takes X W) (S : SepE X F R H σ en []) (h : wpO (bd fa k en) Qk (PXc X W F R σ)) {Q2 : V → Hp → Prop}
    (hk : ∀ x a en2 F2 H2, Le F F2 → OpsS X F2 R H2 σ en2 [x] [a] → wpO (k a en2) Qk (PXc X W F R σ) → Q2 x H2) : uE X σ H e1 Q2 := by
  rw [wpO_bd] at h
  exact h1.run W F R H σ en _ tk S (wpO_mono h (fun a en1 h x G1 F1 le1 S1 => hk x a en1 F1 G1 le1 S1 h) fun _ _ _ _ q => q)
theorem manyI {es : List Expr} {fa : M (List Op)} {k : List Op → M (List D)} {Qk : List D → List D → Prop} (h1 : DOs X es fa) (tk : Takes X W) (S : SepE X F R H σ en []) (h : wpO (bd fa k en) Qk (PXc X W F R σ)) {Q2 : List V → Hp → Prop}
    (hk : ∀ vs os en2 F2 H2, os.length = es.length → Le F F2 → OpsS X F2 R H2 σ en2 vs os → wpO (k os en2) Qk (PXc X W F R σ) → Q2 vs H2) : uA X σ H es Q2 := by
  rw [wpO_bd] at h
  exact h1.run W F R H σ en _ tk S (wpO_mono (wpO_eq h) (fun a en1 ⟨e, h⟩ x G1 F1 le1 S1 => hk x a en1 F1 G1 (h1.len _ _ _ e) le1 S1 h) fun _ _ _ _ q => q)
/-- a list (or tuple) that is walked -/
theorem di_seq {tg e : Expr} {f : M Op} (h1 : DO X e f) : DI X tg e (iSeq f) := by
  refine ⟨fun W F R H σ en Rr tk S h => ?_⟩
  have key := oneI h1 tk S h (Q2 := fun x G1 => ∃ a vs, x = .ref a ∧ ((SqL X.K G1 a vs ∧ Rr (Itl X.K a) G1) ∨ (SqT X.K G1 a vs ∧ Rr (Itt X.K a) G1))) fun x o en2 F2 H2 le S2 h => by
    obtain ⟨F3, le3, S3, r⟩ := SepE.escCool S2
    revert h r
    cases cool (escD en2 o) with
    | nd k xs =>
      intro h r
      obtain ⟨p, vs, rfl, hc, rs⟩ := r.node
      have hz := rs.isFzL
      cases k with
      | tup =>
        simp only [items, hz, if_true] at h
        exact ⟨p, vs, rfl, .inr ⟨SqT.of (S3.sep.fh _ _ hc), h _ H2 F3 (le.trans le3) (walk_atT (SqT.of hc) rs) S3⟩⟩
      | rol =>
        simp only [items, hz, if_true] at h
        exact ⟨p, vs, rfl, .inl ⟨S3.sep.fh.sqL hc, h _ H2 F3 (le.trans le3) (walk_at hc rs) S3⟩⟩
      | lst o =>
        cases o with
        | true => simp only [items] at h; exact h.elim
        | false =>
          simp only [items, hz, if_true] at h
          exact ⟨p, vs, rfl, .inl ⟨SqL.of (S3.sep.fh _ _ hc), h _ H2 F3 (le.trans le3) (walk_at (SqL.of hc) rs) S3⟩⟩
      | _ => simp only [items] at h; exact h.elim
    | _ => exact fun h _ => h.elim
  intro pins s I
  refine thn (key pins s I) fun v s1 ⟨x, G1, J1, r1, q1⟩ => ?_
  obtain ⟨a, vs, rfl, q⟩ := q1
  cases r1
  rcases q with ⟨hk, q⟩ | ⟨hk, q⟩
  · obtain ⟨elems, rv, p, hz⟩ := J1.list hk
    refine (wpAny_pyIter_list p.isList ?_)
    refine ⟨s1.heap.objs.size, [s1.heap.objs.size], _, _, G1, rfl, J1.kept (t' := s1.toks) fun b o e => Heap.get?_push_of_some _ e, turn_list a _, ⟨_, Heap.get?_push_size _ rfl, rfl, rfl⟩, fun b hb => ?_, q⟩
    have e : b = s1.heap.objs.size := (by simpa using hb)
    subst e
    exact J1.fpOk (Nat.le_refl _) (J1.hok.fresh (Nat.le_refl _))
  · obtain ⟨elems, rv, p, hz⟩ := J1.tuple hk
    refine wpAny_pyIter_tuple (show s1.heap.IsTuple a elems.toArray from p) ?_
    refine ⟨s1.heap.objs.size, [s1.heap.objs.size], _, _, G1, rfl, J1.kept (t' := s1.toks) fun b o e => Heap.get?_push_of_some _ e, turn_tuple a _, ⟨_, Heap.get?_push_size _ rfl, rfl, rfl⟩, fun b hb => ?_, q⟩
    have e : b = s1.heap.objs.size := (by simpa using hb)
    subst e
    exact J1.fpOk (Nat.le_refl _) (J1.hok.fresh (Nat.le_refl _))
/-- range -/
def rng (lo : Int) (n : Nat) : List D := (List.range n).map fun i => .int (lo + (i : Nat))
def inR (j : Int) : Bool := decide (-(2 ^ 62) ≤ j ∧ j < 2 ^ 62)
def iRg (f : M (List Op)) : M (List D) := bd f fun os => fun en => match os.map (res en) with
  | [.int j] => if inR j then .ok (rng 0 j.toNat) en else .st
  | [.int i, .int j] => if inR i && inR j then .ok (rng i (j - i).toNat) en else .st
  | _ => .st
theorem walk_rng {K : PySem.W.Frag} {mg : Str → Option Value} {lo : Int} {n : Nat} : Walks K mg (Itr lo n) F (rng lo n) := by
  intro F1 R H L le S
  refine ⟨fun i d hd => ?_, fun i hi => ?_⟩
  · unfold rng at hd
    rw [List.getElem?_map] at hd
    by_cases hlt : i < n
    · rw [List.getElem?_range hlt] at hd
      cases hd
      exact ⟨hlt, fun x H' ⟨e1, e2⟩ => by subst e1; subst e2; exact ⟨F1, Le.refl F1, S.add (leaf_rep rfl)⟩⟩
    · rw [List.getElem?_eq_none (by simpa using hlt)] at hd; cases hd
  · unfold rng at hi
    show n ≤ i
    simpa using hi
theorem mem_at (S : OpsS X F R H σ en vs os) {i : Nat} {o : Op} (h1 : vs[i]? = some x) (h2 : os[i]? = some o) : (some x, res en o) ∈ tmps vs os ++ σ.zip en := by
  obtain ⟨o', e, m⟩ := mem_ops S.2.len S.1 h1
  rw [h2] at e; cases e
  exact m
theorem di_rg1 {tg a : Expr} {f : M (List Op)} {p : Pos} (h1 : DOs X [a] f) (hg : Gl X "range") (hm : X.mg "range" = none) (hs : starEach [a] X.env = [(false, eval a X.env)] := by rfl) : DI X tg (.Call (.Name "range" p) [a] [] pos) (iRg f) := by
  refine ⟨fun W F R H σ en Rr tk S h => uI.of (pi_range1 hg hm (uA.pa X [a]) hs) ?_⟩
  refine manyI h1 tk S h fun vs os en2 F2 H2 hl le S2 h => ?_
  match os, hl with
  | [o], _ =>
    match vs, S2.1.len with
    | [v], _ =>
      have m := mem_at S2 (i := 0) rfl rfl
      simp only [List.map_cons, List.map_nil] at h
      generalize res en2 o = dd at h m
      cases dd with
      | int j =>
        change wpO (if inR j = true then O.ok (rng 0 j.toNat) en2 else O.st) _ _ at h
        split at h
        · rename_i hj
          have hj := of_decide_eq_true hj
          exact ⟨j, by rw [S2.2.sep.int m], hj.1, hj.2, h _ H2 F2 le walk_rng S2.2.clear⟩
        · exact h.elim
      | _ => exact h.elim
theorem di_rg2 {tg a b : Expr} {f : M (List Op)} {p : Pos} (h1 : DOs X [a, b] f) (hg : Gl X "range") (hm : X.mg "range" = none) (hs : starEach [a, b] X.env = [(false, eval a X.env), (false, eval b X.env)] := by rfl) (hs2 : starEach [b] X.env = [(false, eval b X.env)] := by rfl) :
    DI X tg (.Call (.Name "range" p) [a, b] [] pos) (iRg f) := by
  refine ⟨fun W F R H σ en Rr tk S h => uI.of (pi_range2 hg hm (uA.pa X [a, b]) hs hs2) ?_⟩
  refine manyI h1 tk S h fun vs os en2 F2 H2 hl le S2 h => ?_
  match os, hl with
  | [o, o'], _ =>
    match vs, S2.1.len with
    | [v, v'], _ =>
      have m := mem_at S2 (i := 0) rfl rfl
      have m' := mem_at S2 (i := 1) rfl rfl
      simp only [List.map_cons, List.map_nil] at h
      generalize res en2 o = dd at h m
      generalize res en2 o' = dd' at h m'
      cases dd with
      | int i =>
        cases dd' with
        | int j =>
          change wpO (if (inR i && inR j) = true then O.ok (rng i (j - i).toNat) en2 else O.st) _ _ at h
          split at h
          · rename_i hj
            obtain ⟨h1, h2⟩ := Bool.and_eq_true_iff.mp hj
            have h1 := of_decide_eq_true h1
            have h2 := of_decide_eq_true h2
            exact ⟨i, j, by rw [S2.2.sep.int m, S2.2.sep.int m'], ⟨h1.1, h1.2, h2.1, h2.2⟩, h _ H2 F2 le walk_rng S2.2.clear⟩
          · exact h.elim
        | _ => exact h.elim
      | _ => exact h.elim
def loopD (g : D → M Unit) (b : M Fl) : List D → M Fl
  | [] => rt .nx
  | d :: ds => bd (g d) fun _ => bd b fun fl => match fl with
    | .nx => loopD g b ds
    | .ct => loopD g b ds
    | .bk => rt .nx
    | .rt d => rt (.rt d)
def sFor (fi : M (List D)) (g : D → M Unit) (b : M Fl) : M Fl := bd fi (loopD g b)
theorem ds_for {tg iter : Expr} {body : List Stmt} {fi : M (List D)} {g : D → M Unit} {b : M Fl} (hp : PassesOwn (model X.prog X.w) X.A X.env X.xe) (h1 : DI X tg iter fi) (h2 : DG X pr tg g) (h3 : DSs X pr body b) (hc : X.calm = true := by rfl) (hs : ∀ x, foldedSetIterable iter X.env x = pure x := by intro _; rfl) :
    DS X pr (.For tg iter body [] pos) (sFor fi g b) := by
  refine ⟨fun W F R H σ en De tk S h => uS.of (ps_for hp hc (uI.pi X tg iter) (uG.pg X tg) (uSs.pss X body) (hs := hs)) ?_⟩
  unfold sFor at h
  rw [wpO_bd] at h
  refine h1.run W F R H σ en _ tk S (wpO_mono h (fun ds en1 h J G1 F1 le1 wk S1 => ?_) fun _ _ _ _ q => q.toC)
  refine ⟨fun i m σ' H' => m = ds.length - i ∧ ∃ F2 en2, Le F1 F2 ∧ Keep pr σ σ' ∧ SepE X F2 R H' σ' en2 [] ∧ wpO (loopD g b (ds.drop i) en2) (PF X pr F R σ De) (PXs X W pr F R σ),
    ⟨ds.length, by omega, F1, en1, Le.refl F1, Keep.refl pr σ, S1, h⟩, ?_⟩
  rintro i m σ' H' ⟨rfl, F2, en2, le2, kk, S2, h⟩
  obtain ⟨w1, w2⟩ := wk F2 R H' _ le2 S2.sep
  by_cases hlt : i < ds.length
  · obtain ⟨g1, g2⟩ := w1 i ds[i] (List.getElem?_eq_getElem hlt)
    rw [List.drop_eq_getElem_cons hlt] at h
    refine .inr ⟨g1, fun σ' H' => ∃ F2 en2, Le F1 F2 ∧ Keep pr σ σ' ∧ SepE X F2 R H' σ' en2 [] ∧ wpO (loopD g b (ds.drop (i + 1)) en2) (PF X pr F R σ De) (PXs X W pr F R σ),
      fun σ' H' ⟨F2, en2, a1, a2, a3, a4⟩ => ⟨ds.length - (i + 1), by omega, rfl, F2, en2, a1, a2, a3, a4⟩, fun x H'' hy => ?_⟩
    obtain ⟨F3, le3, S3⟩ := g2 x H'' hy
    unfold loopD at h
    rw [wpO_bd] at h
    cases eg : g ds[i] en2 with
    | st => rw [eg] at h; exact h.elim
    | ex c ns xs e' =>
      exact (h2.noex eg).elim
    | ok u en3 =>
      rw [eg] at h
      refine h2.run F3 R H'' σ' en2 x ds[i] _ ⟨S2.len, S3⟩ ?_
      rw [eg]
      intro σ4 H4 F4 le4 k4 S4
      have h : wpO (bd b (fun fl => match fl with
        | .nx => loopD g b (ds.drop (i + 1))
        | .ct => loopD g b (ds.drop (i + 1))
        | .bk => rt .nx
        | .rt d => rt (.rt d)) en3) (PF X pr F R σ De) (PXs X W pr F R σ) := h
      rw [wpO_bd] at h
      have leF : Le F F4 := le1.trans (le2.trans (le3.trans le4))
      refine h3.run W F4 R H4 σ4 en3 _ tk S4 (wpO_mono h (fun fl en5 h => ?_) fun _ _ _ _ q => q.on leF (kk.trans k4))
      cases fl with
      | nx => exact fun σ5 H5 F5 le5 k5 S5 => ⟨F5, en5, le2.trans (le3.trans (le4.trans le5)), kk.trans (k4.trans k5), S5, h⟩
      | ct => exact fun σ5 H5 F5 le5 k5 S5 => ⟨F5, en5, le2.trans (le3.trans (le4.trans le5)), kk.trans (k4.trans k5), S5, h⟩
      | bk => exact fun σ5 H5 F5 le5 k5 S5 => h σ5 H5 F5 (leF.trans le5) (kk.trans (k4.trans k5)) S5
      | rt d => exact fun v σ5 H5 F5 le5 k5 S5 => h v σ5 H5 F5 (leF.trans le5) (kk.trans (k4.trans k5)) S5
  · refine .inl ⟨w2 i (by omega), ?_⟩
    rw [List.drop_eq_nil_of_le (by omega)] at h
    exact h σ' H' F2 (le1.trans le2) kk S2
end
end PI
set_option maxHeartbeats 3900000
namespace PI
open L2 PySem PyProof.Rows PySem.Spec
variable [Tb]
def whileD (t : M Bool) (b : M Fl) : Nat → M Fl
  | 0 => no
  | n + 1 => bd t fun c => if c then bd b fun fl => match fl with
    | .nx => whileD t b n
    | .ct => whileD t b n
    | .bk => rt .nx
    | .rt d => rt (.rt d)
    else rt .nx
def sWhile (fuel : List D → Nat) (t : M Bool) (b : M Fl) : M Fl := fun en => whileD t b (fuel en) en
def wipeD (en : List D) : List Nat → List D
  | [] => en
  | v :: vs => (wipeD en vs).set v .un
def restore (en : List D) : List Nat → List D → List D
  | [], en' => en'
  | v :: vs, en' => restore en vs (en'.set v ((wipeD en vs).getD v .un))
/-- the items of a comprehension -/
def loopC (own : List Nat) (g : D → M Unit) (t : M Bool) (fe : M Op) : List D → List D → M (List D)
  | [], acc => rt acc
  | d :: ds, acc => bd (g d) fun _ => bd t fun c => if c then bd fe fun o => fun en => if acc.length < sizeLine then loopC own g t fe ds (acc ++ [escD en o]) (wipeD (escE en o) own) else .st
    else fun en => loopC own g t fe ds acc (wipeD en own)
def noX {α : Type} (o : O α) : O α := match o with
  | .ex _ _ _ _ => .st
  | o => o
def dLc (own : List Nat) (fi : M (List D)) (g : D → M Unit) (t : M Bool) (fe : M Op) : M Op := bd fi fun ds => fun en => (noX (loopC own g t fe ds [] (wipeD en own))).bd fun acc en2 => .ok (.v (.nd (.lst true) acc)) (restore en own en2)
def tYesD : M Bool := rt true
section
variable {X : Cx} {F F' F1 H H' H1 : Hp} {R : Rv} {σ σ' σ1 : L2.St} {en en' : List D} {T T' : List (Option V × D)} {vs : List V} {os : List Op} {v x y : V} {o : Op} {d : D} {i : Nat} {W : WX} {Q : VK} {pr : List Nat} {De : Ends} {pos : Pos}
theorem ds_while {c : Expr} {body : List Stmt} {t : M Bool} {b : M Fl} (fuel : List D → Nat) (hp : PassesOwn (model X.prog X.w) X.A X.env X.xe) (h1 : DT X c t) (h3 : DSs X pr body b) : DS X pr (.While c body [] pos) (sWhile fuel t b) := by
  refine ⟨fun W F R H σ en De tk S h => uS.of (ps_while hp (uT.pt X c) (uSs.pss X body)) ?_⟩
  refine ⟨fun m σ' H' => ∃ F2 en2, Le F F2 ∧ Keep pr σ σ' ∧ SepE X F2 R H' σ' en2 [] ∧ wpO (whileD t b m en2) (PF X pr F R σ De) (PXs X W pr F R σ), ⟨fuel en, F, en, Le.refl F, Keep.refl pr σ, S, h⟩, ?_⟩
  rintro m σ' H' ⟨F2, en2, le2, kk, S2, h⟩
  cases m with
  | zero => exact h.elim
  | succ m =>
    unfold whileD at h
    rw [wpO_bd] at h
    refine h1.run W F2 R H' σ' en2 _ tk S2 (wpO_mono h (fun c en3 h H3 F3 le3 S3 => ?_) fun _ _ _ _ q => (q.on le2 kk).toC)
    cases c with
    | true =>
      refine iteT ?_
      rw [if_pos rfl, wpO_bd] at h
      refine ⟨fun σ' H' => ∃ F2 en2, Le F F2 ∧ Keep pr σ σ' ∧ SepE X F2 R H' σ' en2 [] ∧ wpO (whileD t b m en2) (PF X pr F R σ De) (PXs X W pr F R σ), fun σ' H' q => ⟨m, Nat.lt_succ_self m, q⟩, ?_⟩
      have leF : Le F F3 := le2.trans le3
      refine h3.run W F3 R H3 σ' en3 _ tk S3 (wpO_mono h (fun fl en5 h => ?_) fun _ _ _ _ q => q.on leF kk)
      cases fl with
      | nx => exact fun σ5 H5 F5 le5 k5 S5 => ⟨F5, en5, leF.trans le5, kk.trans k5, S5, h⟩
      | ct => exact fun σ5 H5 F5 le5 k5 S5 => ⟨F5, en5, leF.trans le5, kk.trans k5, S5, h⟩
      | bk => exact fun σ5 H5 F5 le5 k5 S5 => h σ5 H5 F5 (leF.trans le5) (kk.trans k5) S5
      | rt d => exact fun v σ5 H5 F5 le5 k5 S5 => h v σ5 H5 F5 (leF.trans le5) (kk.trans k5) S5
    | false =>
      refine iteF ?_
      rw [if_neg (Bool.false_ne_true)] at h
      exact h σ' H3 F3 (le2.trans le3) kk S3
theorem SepE.bindO (S : SepE X F R H σ en ((ov, d) :: T)) (hi : i < σ.length) : SepE X F R H (σ.set i ov) (en.set i d) T := by
  obtain ⟨h1, _⟩ := slot_perm (i := i) (ov := σ[i]) S.len (List.getElem?_eq_getElem hi)
  refine ⟨by rw [List.length_set, List.length_set]; exact S.len, ?_⟩
  have S1 : Sep X.K X.mg F R H ((σ[i], en.getD i .un) :: ((ov, d) :: (T ++ (σ.zip en).eraseIdx i))) := by
    refine S.sep.perm ?_
    refine (List.Perm.cons _ ((h1.append_left T).trans List.perm_middle)).trans (List.Perm.swap _ _ _)
  refine S1.tail.perm ?_
  refine List.perm_middle.symm.trans (List.Perm.append_left T ?_)
  rw [zip_set]
  exact (set_erase (by rw [List.length_zip, ← S.len]; omega)).symm
theorem SepE.addUn (S : SepE X F R H σ en T) (ov : Option V) : SepE X F R H σ en ((ov, .un) :: T) := by
  obtain ⟨A, f, n, q⟩ := S.sep.fo
  exact ⟨S.len, S.sep.fh, S.sep.rh, S.sep.rf, S.sep.nf, S.sep.nr, S.sep.tb, A, .leaf trivial f, n, q⟩
theorem SepE.wipe1 (S : SepE X F R H σ en T) (i : Nat) : SepE X F R H (σ.set i none) (en.set i .un) T := by
  by_cases hi : i < σ.length
  · exact (S.addUn none).bindO hi
  · rw [List.set_eq_of_length_le (by omega), List.set_eq_of_length_le (by rw [← S.len]; omega)]; exact S
theorem SepE.wipeAll : ∀ (vs : List Nat), SepE X F R H σ en T → SepE X F R H (wipe σ vs) (wipeD en vs) T
  | [], S => S
  | v :: vs, S => (SepE.wipeAll vs S).wipe1 v
theorem wipeD_length : ∀ (vs : List Nat) (en : List D), (wipeD en vs).length = en.length
  | [], _ => rfl
  | v :: vs, en => by simp only [wipeD, List.length_set, wipeD_length vs en]
/-- the block's own names hide those of the def; behind the block they stand again -/
theorem SepE.hide : ∀ (vs : List Nat) {T : List (Option V × D)}, SepE X F R H σ en T → ∃ saved, SepE X F R H (wipe σ vs) (wipeD en vs) (saved ++ T) ∧
    ∀ F' H' en' T', SepE X F' R H' (wipe σ vs) en' (saved ++ T') → SepE X F' R H' σ (restore en vs en') T'
  | [], T, S => ⟨[], S, fun F' H' en' T' S' => S'⟩
  | v :: vs, T, S => by
    obtain ⟨saved, S1, back⟩ := SepE.hide vs S
    by_cases hv : v < List.length (wipe σ vs)
    · have S2 := S1.take (i := v) (ov := (wipe σ vs)[v]) (List.getElem?_eq_getElem hv)
      have S3 : SepE X F R H ((wipe σ vs).set v none) ((wipeD en vs).set v .un) (((wipe σ vs)[v], (wipeD en vs).getD v .un) :: (saved ++ T)) := by
        have := S2.wipe1 v
        rwa [set_set_] at this
      refine ⟨((wipe σ vs)[v], (wipeD en vs).getD v .un) :: saved, S3, fun F' H' en' T' S' => ?_⟩
      have := SepE.bindO (i := v) S' (by rw [wipe_length] at hv ⊢; exact hv)
      have e : (wipe σ (v :: vs)).set v (wipe σ vs)[v] = wipe σ vs := by
        show ((wipe σ vs).set v none).set v (wipe σ vs)[v] = wipe σ vs
        rw [set_set_, List.set_getElem_self]
      rw [e] at this
      exact back F' H' _ T' this
    · refine ⟨saved, by
        have e1 : wipe σ (v :: vs) = wipe σ vs := List.set_eq_of_length_le (by omega)
        have e2 : wipeD en (v :: vs) = wipeD en vs := List.set_eq_of_length_le (by rw [wipeD_length, ← S.len, ← wipe_length σ vs]; omega)
        rw [e1, e2]; exact S1, fun F' H' en' T' S' => ?_⟩
      have e1 : wipe σ (v :: vs) = wipe σ vs := List.set_eq_of_length_le (by omega)
      rw [e1] at S'
      have e3 : en'.set v ((wipeD en vs).getD v .un) = en' := List.set_eq_of_length_le (by rw [← S'.len]; omega)
      simp only [restore]
      rw [e3]
      exact back F' H' en' T' S'
theorem wpO_noX {α : Type} {o : O α} {Qk : α → List D → Prop} {Qx} (h : wpO (noX o) Qk Qx) : wpO o Qk (fun _ _ _ _ => False) := by
  cases o <;> exact h
abbrev blkOf (X : Cx) (s : Shared) (H : Hp) (scope : Scope) (C : Addr) (cl : List (Str × Addr)) (fp : List Addr) : Cx := X.blk s H scope (compEnvC scope cl C X.env) fp
def others (n : Nat) (own : List Nat) : List Nat := (List.range n).filter fun i => !own.contains i
theorem wipe_get : ∀ (vs : List Nat) (j : Nat), (wipe σ vs)[j]? = if j ∈ vs ∧ j < σ.length then some none else σ[j]?
  | [], j => by simp [wipe]
  | v :: vs, j => by
    unfold wipe
    by_cases e : j = v
    · subst e
      by_cases hj : j < σ.length
      · rw [List.getElem?_set_self (by rw [wipe_length]; exact hj), if_pos ⟨List.mem_cons_self, hj⟩]
      · rw [List.getElem?_eq_none (by rw [List.length_set, wipe_length]; omega), if_neg (fun z => hj z.2), List.getElem?_eq_none (by omega)]
    · rw [List.getElem?_set_ne (Ne.symm e), wipe_get vs j]
      simp only [List.mem_cons, e, false_or]
theorem wipe_keep {n : Nat} {vs : List Nat} (hn : σ.length = n) (k : Keep (others n vs) σ σ') : wipe σ' vs = wipe σ vs := by
  refine List.ext_getElem? (fun j => ?_)
  have hl := k.1
  rw [wipe_get, wipe_get, hl]
  by_cases hj : j < σ.length
  · by_cases m : j ∈ vs
    · rw [if_pos ⟨m, hj⟩, if_pos ⟨m, hj⟩]
    · rw [if_neg fun z => m z.1, if_neg fun z => m z.1]
      exact k.2 j (List.mem_filter.mpr ⟨List.mem_range.mpr (hn ▸ hj), by simpa using m⟩)
  · rw [if_neg fun z => hj z.2, if_neg fun z => hj z.2, List.getElem?_eq_none (by omega), List.getElem?_eq_none (by omega)]
theorem wipe_wipe (vs : List Nat) : wipe (wipe σ vs) vs = wipe σ vs := by
  refine List.ext_getElem? (fun j => ?_)
  rw [wipe_get, wipe_get, wipe_length]
  split
  · rfl
  · rfl
structure DTs (X : Cx) (ifs : List Expr) (t : M Bool) : Prop where
  run : ∀ (W : WX) (F : Hp) (R : Rv) (H : Hp) (σ : L2.St) (en : List D) (Q : Bool → Hp → Prop), Takes X W → SepE X F R H σ en [] → wpO (t en) (PVt X F R σ Q) (PXc X W F R σ) → ∃ tt, PTs X ifs tt ∧ tt σ H Q
theorem dts_nil : DTs X [] tYesD := ⟨fun W F R H σ en Q tk S h => ⟨_, pts_nil, h H F (Le.refl F) S⟩⟩
theorem dts_one {c : Expr} {t : M Bool} (h1 : DT X c t) : DTs X [c] t := ⟨fun W F R H σ en Q tk S h => ⟨_, pts_one (uT.pt X c), h1.run W F R H σ en Q tk S h⟩⟩
theorem lc_ok {elt tg iter : Expr} {ifs : List Expr} {scope : Scope} {own : List (Str × Nat)} {fi : M (List D)} {g : D → M Unit} {t : M Bool} {fe : M Op}
    (h1 : DI X tg iter fi)
    (h2 : ∀ s H C cl fp, DG (blkOf X s H scope C cl fp) (others X.N.length (own.map (·.2))) tg g)
    (h3 : ∀ s H C cl fp, DTs (blkOf X s H scope C cl fp) ifs t) (h4 : ∀ s H C cl fp, DO (blkOf X s H scope C cl fp) elt fe)
    (hn : σ.length = X.N.length) (tk : Takes X W) (S : SepE X F R H σ en []) (h : wpO (dLc (own.map (·.2)) fi g t fe en) (PVo X F R σ Q) (PXc X W F R σ)) :
    tLc (fun σ H R => uI X σ H tg iter R) (fun x σ H Q => ∀ s H₀ C cl fp, uG (blkOf X s H₀ scope C cl fp) σ H tg x Q)
      (fun σ H Q => ∀ s H₀ C cl fp, ∃ tt, PTs (blkOf X s H₀ scope C cl fp) ifs tt ∧ tt σ H Q) (fun σ H Q => ∀ s H₀ C cl fp, uE (blkOf X s H₀ scope C cl fp) σ H elt Q) (own.map (·.2)) σ H Q := by
  unfold dLc at h
  rw [wpO_bd] at h
  refine h1.run W F R H σ en _ tk S (wpO_mono h (fun ds en1 h J H1 F1 le1 wk S1 => ?_) fun _ _ _ _ q => q)
  intro D hD
  obtain ⟨saved, S2, back⟩ := S1.hide (own.map (·.2))
  rw [List.append_nil] at S2
  obtain ⟨R', S3, back2⟩ := S2.lend
  have h' : wpO (noX (loopC (own.map (·.2)) g t fe ds [] (wipeD en1 (own.map (·.2))))) (fun acc en2 => PVo X F R σ Q (.v (.nd (.lst true) acc)) (restore en1 (own.map (·.2)) en2)) (fun _ _ _ _ => False) := by
    revert h
    cases loopC (own.map (·.2)) g t fe ds [] (wipeD en1 (own.map (·.2))) <;> exact fun z => z
  have h' := wpO_noX h'
  have S4 : SepE X F1 R' (upd H1 D (.lst [])) (wipe σ (own.map (·.2))) (wipeD en1 (own.map (·.2))) [(some (.ref D), .nd (.lst true) [])] := ⟨S3.len, Sep.lst S3.sep .nil hD⟩
  refine ⟨fun i m H' => m = ds.length - i ∧ ∃ F2 acc en2, Le F1 F2 ∧ SepE X F2 R' H' (wipe σ (own.map (·.2))) en2 [(some (.ref D), .nd (.lst true) acc)] ∧
    wpO (loopC (own.map (·.2)) g t fe (ds.drop i) acc en2) (fun acc en2 => PVo X F R σ Q (.v (.nd (.lst true) acc)) (restore en1 (own.map (·.2)) en2)) (fun _ _ _ _ => False),
    ⟨ds.length, by omega, F1, [], _, Le.refl F1, S4, h'⟩, ?_⟩
  rintro i m H2 ⟨rfl, F2, acc, en2, le2, S5, h⟩
  obtain ⟨w1, w2⟩ := wk F2 R' H2 _ le2 S5.sep
  by_cases hlt : i < ds.length
  · obtain ⟨g1, g2⟩ := w1 i ds[i] (List.getElem?_eq_getElem hlt)
    rw [List.drop_eq_getElem_cons hlt] at h
    refine .inr ⟨g1, fun H' => ∃ F2 acc en2, Le F1 F2 ∧ SepE X F2 R' H' (wipe σ (own.map (·.2))) en2 [(some (.ref D), .nd (.lst true) acc)] ∧
      wpO (loopC (own.map (·.2)) g t fe (ds.drop (i + 1)) acc en2) (fun acc en2 => PVo X F R σ Q (.v (.nd (.lst true) acc)) (restore en1 (own.map (·.2)) en2)) (fun _ _ _ _ => False),
      fun H' ⟨F2, acc, en2, a1, a2, a3⟩ => ⟨ds.length - (i + 1), by omega, rfl, F2, acc, en2, a1, a2, a3⟩, fun x H3 hy => ?_⟩
    obtain ⟨F3, le3, S6⟩ := g2 x H3 hy
    intro s₀ H₀ C cl fp
    unfold loopC at h
    rw [wpO_bd] at h
    -- the new list is lent
    have S6' : SepE X F3 R' H3 (wipe σ (own.map (·.2))) en2 ([(some (.ref D), .nd (.lst true) acc)] ++ [(some x, ds[i])]) := ⟨S5.len, S6.perm (by simpa using List.Perm.swap _ _ _)⟩
    obtain ⟨R2, S7, back3⟩ : ∃ R2, SepE X F3 R2 H3 (wipe σ (own.map (·.2))) en2 [(some x, ds[i])] ∧ ∀ F' H' σ' en' T', Le F3 F' → SepE X F' R2 H' σ' en' T' → SepE X F' R' H' σ' en' ([(some (.ref D), .nd (.lst true) acc)] ++ T') := by
      obtain ⟨R2, S', k⟩ := Sep.lend (L1 := [(some x, ds[i])] ++ (wipe σ (own.map (·.2))).zip en2) (L2 := [(some (.ref D), .nd (.lst true) acc)]) (S6'.sep.perm (by rw [List.append_assoc]; exact List.perm_append_comm))
      refine ⟨R2, ⟨S5.len, S'⟩, fun F' H' σ' en' T' le S2 => ⟨S2.len, ?_⟩⟩
      refine (k F' H' _ le S2.sep).perm (List.perm_append_comm.trans ?_)
      rw [List.append_assoc]
    refine (h2 s₀ H₀ C cl fp).run F3 R2 H3 _ en2 x ds[i] _ S7 ?_
    cases eg : g ds[i] en2 with
    | st => rw [eg] at h; exact h.elim
    | ex c ns xs e' => exact ((h2 s₀ H₀ C cl fp).noex eg).elim
    | ok u en3 =>
      rw [eg] at h
      intro σ4 H4 F4 le4 k4 S8
      have ew0 : wipe σ4 (own.map (·.2)) = wipe (wipe σ (own.map (·.2))) (own.map (·.2)) := wipe_keep (n := X.N.length) (by rw [wipe_length]; exact hn) k4
      have ew : wipe σ4 (own.map (·.2)) = wipe σ (own.map (·.2)) := ew0.trans (wipe_wipe _)
      refine ⟨ew, ?_⟩
      intro s₁ H₁ C1 cl1 fp1
      have h : wpO (bd t (fun c => if c then bd fe fun o => fun en => if acc.length < sizeLine then loopC (own.map (·.2)) g t fe (ds.drop (i + 1)) (acc ++ [escD en o]) (wipeD (escE en o) (own.map (·.2))) else .st
        else fun en => loopC (own.map (·.2)) g t fe (ds.drop (i + 1)) acc (wipeD en (own.map (·.2)))) en3) _ _ := h
      rw [wpO_bd] at h
      refine (h3 s₁ H₁ C1 cl1 fp1).run (fun _ _ _ _ => False) F4 R2 H4 σ4 en3 _ takes0 S8 (wpO_mono h (fun c en4 h H5 F5 le5 S9 => ?_) fun _ _ _ _ q => q.elim)
      cases c with
      | true =>
        refine iteT ?_
        try dsimp only at h
        rw [if_pos rfl, wpO_bd] at h
        intro s₂ H₂ C2 cl2 fp2
        refine (h4 s₂ H₂ C2 cl2 fp2).run (fun _ _ _ _ => False) F5 R2 H5 σ4 en4 _ takes0 S9 (wpO_mono h (fun o en6 h y H6 F6 le6 S10 => ?_) fun _ _ _ _ q => q.elim)
        split at h
        · rename_i hz
          obtain ⟨F7, le7, S11⟩ := SepE.esc' (X := blkOf X s₂ H₂ scope C2 cl2 fp2) S10.2 S10
          have S12 := back3 F7 H6 σ4 (escE en6 o) [(some y, escD en6 o)] (le4.trans (le5.trans (le6.trans le7))) ⟨S11.len, S11.sep⟩
          obtain ⟨p, vs, ep, hl, hc, S13, ho, _⟩ := Sep.node S12.sep
          cases ep
          obtain ⟨hc, hf, hr⟩ := ho rfl
          refine ⟨vs, hc, by rw [hl]; exact hz, F7, acc ++ [escD en6 o], _, le2.trans (le3.trans (le4.trans (le5.trans (le6.trans le7)))), ?_, h⟩
          have S14 : Sep X.K X.mg F7 (hold R' H6 D) H6 (kids (vs ++ [y]) (acc ++ [escD en6 o]) ++ σ4.zip (escE en6 o)) := by
            refine S13.perm ?_
            show ((vs.map some).zip acc ++ _).Perm (((vs ++ [y]).map some).zip (acc ++ [escD en6 o]) ++ _)
            rw [List.map_append, List.zip_append (by simp [hl])]
            simp
          have S15 := Sep.close (o := .lst (vs ++ [y])) (k := .lst true) rfl hf hr S14 (by simp [hl]) (fun u e => Cont.tame (k := .lst true) rfl hc e) upd_same
          have S16 : SepE X F7 R' (upd H6 D (.lst (vs ++ [y]))) σ4 (escE en6 o) [(some (.ref D), .nd (.lst true) (acc ++ [escD en6 o]))] := ⟨S11.len, S15⟩
          have := S16.wipeAll (own.map (·.2))
          rwa [ew] at this
        · exact h.elim
      | false =>
        refine iteF ?_
        try dsimp only at h
        rw [if_neg (Bool.false_ne_true)] at h
        have S12 := back3 F5 H5 σ4 en4 [] (le4.trans le5) ⟨S9.len, S9.sep⟩
        rw [List.append_nil] at S12
        refine ⟨F5, acc, _, le2.trans (le3.trans (le4.trans le5)), ?_, h⟩
        have := S12.wipeAll (own.map (·.2))
        rwa [ew] at this
  · refine .inl ⟨w2 i (by omega), ?_⟩
    rw [List.drop_eq_nil_of_le (by omega)] at h
    have h : PVo X F R σ Q (.v (.nd (.lst true) acc)) (restore en1 (own.map (·.2)) en2) := h
    refine h _ H2 F2 (le1.trans le2) ⟨trivial, ?_⟩
    exact back F2 H2 en2 _ (back2 F2 H2 _ en2 _ le2 S5)
end
end PI
set_option maxHeartbeats 3900000
namespace PI
open L2 PySem PyProof.Rows PySem.Spec
variable [Tb]
open AutoSeq1 (wpAny_loadPart') in
theorem meets_enumerate_newT (l : Addr) (items : Array Value) (n : Nat) (dct : Option Addr) (sl : Array (Option Value)) :
    Meets (Builtin.«enumerate.__new__» ⟨[.type "enumerate", .ref l], []⟩) (fun _ R s => s.heap.get? l = some { cls := .type "tuple", dict := dct, data := .seq items n, slots := sl } ∧
      R (.ok (.ret (.ref (s.heap.push { cls := .type "tuple_iterator", data := .fields #[.ref l, .int 0 0] }).objs.size)))
        { s with heap := (s.heap.push { cls := .type "tuple_iterator", data := .fields #[.ref l, .int 0 0] }).push { cls := .type "enumerate", data := .fields #[.none, .bool false, .ref s.heap.objs.size, rawInt 0, .none, .none] } }) :=
  .of_wp fun prg wd A R s h => by
    rcases s with ⟨hp, g, d, tk, os⟩
    obtain ⟨hl, h⟩ := h
    have hsub := sub_enumerate
    have hL : Heap.IsTuple (Shared.heap ⟨hp, g, d, tk, os⟩) l items := ⟨_, hl, rfl, n, rfl⟩
    wp_walk using (wpAny_loadPart' hl)
    refine wpAny_stack_any fun tie => wpAny_pure ?_
    split
    · rename_i c _ _ _ _ _
      cases (c == (Value.type "enumerate"))
      · wp_walk using wpAny_loadPart' hl, wpAny_pyIter_tuple hL
        exact ⟨_, rfl, h⟩
      · wp_walk using wpAny_loadPart' hl, wpAny_pyIter_tuple hL
        exact ⟨_, rfl, h⟩
    · wp_walk using wpAny_loadPart' hl, wpAny_pyIter_tuple hL
      exact ⟨_, rfl, h⟩
theorem call_enumerate_tuple {prog : Program} {w : World} {A : Around} {E : Value → Shared → Prop} {s : Shared} {l : Addr} {items : Array Value} {Q : Value → Shared → Prop} (hL : s.heap.IsTuple l items)
    (h : ∀ h', IsEnum h' (s.heap.objs.size + 1) s.heap.objs.size 0 .none → h'.IsTupleIter s.heap.objs.size l 0 → h'.objs.size = s.heap.objs.size + 2 →
      (∀ b ob, s.heap.get? b = some ob → h'.get? b = some ob) → Q (.ref (s.heap.objs.size + 1)) { s with heap := h' }) :
    wpAny (model prog w) A (call (Value.type "enumerate") [.ref l]) Q E s := by
  obtain ⟨⟨c, dct, dt, slo⟩, hl, hc, n, hd⟩ := hL
  replace hc : c = .type "tuple" := hc
  replace hd : dt = (.seq items n) := hd
  subst hc hd
  refine callType_new (F.called_enumerate) (by decide) (F.typeCall_enumerate_1 _) (F.newCall_enumerate_1 _) (fun obj => F.args_object_init_2 obj _) F.entry_enumerate_new
    (meets_enumerate_newT l items n dct slo) ⟨hl, ?_⟩
  have hzz : (s.heap.push { cls := .type "tuple_iterator", data := .fields #[.ref l, .int 0 0] }).objs.size = s.heap.objs.size + 1 := Heap.size_push ..
  show _ ∧ _
  rw [hzz]
  have hat : IsEnum ((s.heap.push { cls := .type "tuple_iterator", data := .fields #[.ref l, .int 0 0] }).push
      { data := .fields #[.none, .bool false, .ref s.heap.objs.size, rawInt 0, .none, .none], cls := .type "enumerate" }) (s.heap.objs.size + 1) s.heap.objs.size 0 .none := by
    have := Heap.get?_push_size (s.heap.push { cls := .type "tuple_iterator", data := .fields #[.ref l, .int 0 0] })
      (o := { data := .fields #[.none, .bool false, .ref s.heap.objs.size, rawInt 0, .none, .none], cls := .type "enumerate" }) rfl
    rw [hzz] at this; exact this
  refine ⟨⟨_, hat, rfl⟩, h _ hat ⟨_, Heap.get?_push_of_some _ (Heap.get?_push_size _ rfl), rfl, rfl⟩ (by rw [Heap.size_push, hzz]) fun b o x => Heap.get?_push_of_some _ (Heap.get?_push_of_some _ x)⟩
/-- the tuple at a, each item in a new pair -/
def IteT (K : PySem.W.Frag) (a : Addr) : It :=
  ⟨fun i H => ∃ (xs : List V) (x : V), SqT K H a xs ∧ xs[i]? = some x, fun i H v H' => ∃ T x, v = .ref T ∧ H T = none ∧ H' = upd H T (.tup [.int (i : Nat), x]) ∧ ∀ xs, SqT K H a xs → xs[i]? = some x, fun i H => ∃ xs : List V, SqT K H a xs ∧ xs.length ≤ i⟩
theorem turn_enumT {P : Program} {w : World} {K : PySem.W.Frag} {elts : List Expr} {kk : Nat} {tpos : Pos} (a e it : Addr) :
    Turn P w K (.Tuple elts kk tpos) (IteT K a) [e, it] e (fun i h => (∃ was, IsEnum h e it ((i : Nat) : Int) was) ∧ h.IsTupleIter it a i ∧ e ≠ it) where
  mem := by simp
  obj := fun i h tie b hb => by
    obtain ⟨⟨was, hat⟩, ⟨o, ho, hc, hd⟩, _⟩ := tie
    have two : b = e ∨ b = it := by simpa using hb
    rcases two with z | z
    · rw [z]; exact ⟨_, hat, fun v q => nomatch q⟩
    · rw [z]
      exact ⟨o, ho, fun y q => by rw [hd] at q; cases q⟩
  keep := fun i h h' tie k => let ⟨⟨was, hat⟩, hi, hn2⟩ := tie; ⟨⟨was, k e (by simp) _ hat⟩, hi.at fun o q => k it (by simp) o q, hn2⟩
  item := by
    intro X hP hw hK hc i pins s σ H E I hf tie hg
    subst hP hw hK
    obtain ⟨⟨was, hat⟩, hi2, hn2⟩ := tie
    obtain ⟨xs, x, hq, hix⟩ := hg
    obtain ⟨items2, rvs, p, hzz⟩ := I.tuple hq
    obtain ⟨u, hu, rel⟩ := rvs.get hix
    have ltE : e < s.heap.objs.size := Heap.lt_size hat
    have ltI : it < s.heap.objs.size := by obtain ⟨_, q, _⟩ := hi2; exact Heap.lt_size q
    have hal : a < s.heap.objs.size := by obtain ⟨_, q, _⟩ := p; exact Heap.lt_size q
    have hae : a ≠ e := fun z => by
      obtain ⟨o, ho, hc, _⟩ := p
      rw [z, hat] at ho; cases ho; exact absurd hc (by simp)
    have hne3 : a ≠ it := fun z => by
      obtain ⟨o, ho, hc, _⟩ := p
      obtain ⟨o', ho', hc', _⟩ := hi2
      rw [z, ho'] at ho; cases ho; rw [hc'] at hc; exact absurd hc (by simp)
    have hi : i < items2.toArray.size := by
      have := (List.getElem?_eq_some_iff.mp hu).1
      simpa using this
    refine wpAny_pyNext_enum_itemD (D := Draws.tuple (by first | exact I.ok.hd hc | (show X.A.in1.handled = none; exact I.ok.hd hc)) it a hne3 items2.toArray) (e := e) (it := it) (i := i) (old := was) hat ⟨hi2, p⟩ hi hn2 (by simp only [List.mem_cons, List.not_mem_nil, or_false]; intro z; rcases z with z | z; exact hn2 z; exact hae z.symm) fun y h' tk hy ho hst' hTy hsz hkeep => ?_
    have ey : y = u := by
      have : items2.toArray[i]? = some y := hy
      rw [show items2.toArray[i]? = items2[i]? by simp, hu] at this
      exact Eq.symm (Option.some.inj this)
    subst ey
    refine ⟨_, rfl, wpAny_letOwnedTupleGo_enum (s := { s with heap := h', toks := tk + 1 }) ho fun h'' he' sub2 => ?_⟩
    have hT2 : h''.get? s.heap.objs.size = some { cls := .type "tuple", data := .seq #[.int i tk, y] } := (sub2.2 _ (Nat.ne_of_gt ltE)).trans hTy
    have new : (ObjOk X.prog X.w) (upd H s.heap.objs.size (.tup [.int (i : Nat), x])) h'' s.heap.objs.size (.tup [.int (i : Nat), x]) :=
      ⟨by show 2 ≤ sizeLine; decide, [.int i tk, y], .cons ⟨_, rfl⟩ (.cons rel .nil), ⟨_, hT2, rfl, _, rfl⟩⟩
    have I1 : Inv X pins σ (upd H s.heap.objs.size (.tup [.int (i : Nat), x])) { s with heap := h'', toks := tk + 1 } :=
      I.turnedNew (ch := [e, it]) (fun b ob hb q => (sub2.2 b (fun z => hb (by simp [z]))).trans (hkeep b ob (fun z => hb (by simp [z])) (fun z => hb (by simp [z])) q)) hf (Nat.le_refl _) new
    refine ⟨.ref s.heap.objs.size, _, I1, rfl, ⟨_, x, rfl, I.hok.fresh (Nat.le_refl _), rfl, fun ys hy => by rw [I.tuple_inj hy hq]; exact hix⟩, ⟨⟨y, ?_⟩, hst'.1.at fun o q => (sub2.2 it (Ne.symm hn2)).trans q, hn2⟩, fun b hb => ?_⟩
    · have e1 : ((i + 1 : Nat) : Int) = (i : Int) + 1 := (by omega)
      rw [e1]; exact he'
    · have hlt : b < s.heap.objs.size := by
        have two : b = e ∨ b = it := by simpa using hb
        rcases two with z | z
        · rw [z]; exact ltE
        · rw [z]; exact ltI
      rw [upd_ne (fun z => Nat.ne_of_lt hlt z)]
      exact (hf b hb).1
  done := by
    intro X hP hw hK hc i pins s σ H E I hf tie hg
    subst hP hw hK
    obtain ⟨⟨was, hat⟩, hi2, hn2⟩ := tie
    obtain ⟨xs, hq, hix⟩ := hg
    obtain ⟨items2, rvs, p, hzz⟩ := I.tuple hq
    obtain ⟨g0, g1', g2', g3, g4, g5⟩ := hf it (by simp)
    have hl := rvs.length
    have hTy : s.TypeIs (.ref e) "enumerate" := ⟨_, hat, rfl⟩
    unfold pyNext
    refine wpAny_bind (wpAny_attempt (wpAny_callSpecial?_slot (name := "__next__") hTy F.slot_enumerate_next
      (wpAny_call_entry (F.slot_enumerate_next) hTy F.entry_enumerate_next ?_ (F.args_enumerate_next_1 _))))
    show wpAny _ _ (field (Value.ref e) 2 >>= _) _ _ _
    refine wpAny_bind (wpAny_field hat rfl (x := .ref it) rfl ?_)
    refine wpAny_bind (wpAny_nextOf_tuple_end (I.ok.hd hc) hi2 p (by simp; omega) fun h' x he' hx' => ?_)
    obtain ⟨o, ho, hcc⟩ := hx'
    refine wpAny_bind (wpAny_isInstance (T := "StopIteration") (b := true) ⟨o, ho, hcc⟩ isSubtype_stop ?_)
    exact wpAny_pure ⟨rfl, I.turned (t' := s.toks) (fun b o hb q => he' b o hb q) g0 g1' g3 g4 g5⟩
  self := fun A i s Q E tie h => let ⟨⟨_, hat⟩, _⟩ := tie; wpAny_pyIter_enum hat h
end PI
set_option maxHeartbeats 3900000
namespace PI
open L2 PySem PyProof.Rows PySem.Spec
variable [Tb]
def enumD : Nat → List D → List D
  | _, [] => []
  | i, d :: ds => .nd .tup [.int (i : Nat), d] :: enumD (i + 1) ds
def iEnumD (f : M Op) : M (List D) := bd (iSeq f) fun ds => rt (enumD 0 ds)
theorem enumD_get : ∀ {ds : List D} {j i : Nat} {d : D}, (enumD j ds)[i]? = some d → ∃ e, ds[i]? = some e ∧ d = .nd .tup [.int ((j + i : Nat) : Int), e]
  | [], j, i, d, h => by simp [enumD] at h
  | e :: ds, j, 0, d, h => by simp [enumD] at h; exact ⟨e, rfl, by rw [← h]; simp⟩
  | e :: ds, j, i + 1, d, h => by
    obtain ⟨two, h1, h2⟩ := enumD_get (ds := ds) (j := j + 1) (i := i) (d := d) (by simpa [enumD] using h)
    exact ⟨two, by simpa using h1, by rw [h2]; congr 3; congr 1; omega⟩
theorem enumD_length : ∀ {ds : List D} {j : Nat}, (enumD j ds).length = ds.length
  | [], _ => rfl
  | _ :: ds, j => by simp [enumD, enumD_length]
section
variable {X : Cx} {F F' F1 H H' G1 : Hp} {R : Rv} {σ σ' σ1 : L2.St} {en en' : List D} {T T' : List (Option V × D)} {vs : List V} {os : List Op} {v x y : V} {o : Op} {d : D} {i : Nat} {W : WX} {Q : VK} {pr : List Nat} {De : Ends} {pos : Pos}
theorem walk_en {K : PySem.W.Frag} {mg : Str → Option Value} {a : Addr} {ds : List D} (hs : SqL K F a vs) (r : Reps K mg F vs ds) : Walks K mg (Ite K a) F (enumD 0 ds) := by
  intro F1 R H L le S
  have hH : SqL K H a vs := S.fh.sqL (le.sqL hs)
  refine ⟨fun i d hd => ?_, fun i hi => ⟨vs, hH, by rw [enumD_length] at hi; rw [r.1]; exact hi⟩⟩
  obtain ⟨e, hat, rfl⟩ := enumD_get hd
  obtain ⟨y, hy, rp⟩ := r.get hat
  refine ⟨⟨vs, y, hH, hy⟩, fun x H' ⟨Ta, z, ex, hT, eH, q⟩ => ?_⟩
  subst ex; subst eH
  have := q vs hH
  rw [hy] at this
  cases this
  rw [Nat.zero_add]
  exact S.tup (.cons (leaf_rep rfl) (.cons (rp.le le) .nil)) hT
theorem walk_enT {K : PySem.W.Frag} {mg : Str → Option Value} {a : Addr} {ds : List D} (hs : SqT K F a vs) (r : Reps K mg F vs ds) : Walks K mg (IteT K a) F (enumD 0 ds) := by
  intro F1 R H L le S
  have hH : SqT K H a vs := S.fh.sqT (le.sqT hs)
  refine ⟨fun i d hd => ?_, fun i hi => ⟨vs, hH, by rw [enumD_length] at hi; rw [r.1]; exact hi⟩⟩
  obtain ⟨e, hat, rfl⟩ := enumD_get hd
  obtain ⟨y, hy, rp⟩ := r.get hat
  refine ⟨⟨vs, y, hH, hy⟩, fun x H' ⟨Ta, z, ex, hT, eH, q⟩ => ?_⟩
  subst ex; subst eH
  have := q vs hH
  rw [hy] at this
  cases this
  rw [Nat.zero_add]
  exact S.tup (.cons (leaf_rep rfl) (.cons (rp.le le) .nil)) hT
/-- the part that is walked, made cold: a list or a tuple -/
theorem seq_key {e : Expr} {f : M Op} {k : List D → M (List D)} {Qk : List D → List D → Prop} {Q2 : V → Hp → Prop} (h1 : DO X e f) (tk : Takes X W) (S : SepE X F R H σ en []) (h : wpO (bd (iSeq f) k en) Qk (PXc X W F R σ))
    (hkeep : ∀ a vs ds en2 F2 H2, Le F F2 → (SqL X.K F2 a vs ∨ SqT X.K F2 a vs) → Reps X.K X.mg F2 vs ds → SepE X F2 R H2 σ en2 [] → wpO (k ds en2) Qk (PXc X W F R σ) → Q2 (.ref a) H2) : uE X σ H e Q2 := by
  rw [wpO_bd] at h
  refine oneI h1 tk S h fun x o en2 F2 H2 le S2 h => ?_
  obtain ⟨F3, le3, S3, r⟩ := SepE.escCool S2
  revert h r
  cases cool (escD en2 o) with
  | nd k xs =>
    intro h r
    obtain ⟨p, vs, rfl, hc, rs⟩ := r.node
    have hzz := rs.isFzL
    cases k with
    | tup =>
      simp only [items, hzz, if_true] at h
      exact hkeep p vs xs _ F3 H2 (le.trans le3) (.inr (SqT.of hc)) rs S3 h
    | rol =>
      simp only [items, hzz, if_true] at h
      exact hkeep p vs xs _ F3 H2 (le.trans le3) (.inl hc) rs S3 h
    | lst o =>
      cases o with
      | true => simp only [items] at h; exact h.elim
      | false =>
        simp only [items, hzz, if_true] at h
        exact hkeep p vs xs _ F3 H2 (le.trans le3) (.inl (SqL.of hc)) rs S3 h
    | _ => simp only [items] at h; exact h.elim
  | _ => exact fun h _ => h.elim
theorem di_enum {e : Expr} {f : M Op} {p tpos : Pos} {elts : List Expr} {kk : Nat} (h1 : DO X e f) (hg : Gl X "enumerate") (hm : X.mg "enumerate" = none) (hs : starEach [e] X.env = [(false, eval e X.env)] := by rfl) (hs' : starEach [e] X.env = (false, eval e X.env) :: starEach [] X.env := by rfl) :
    DI X (.Tuple elts kk tpos) (.Call (.Name "enumerate" p) [e] [] pos) (iEnumD f) := by
  refine ⟨fun W F R H σ en Rr tk S h => ?_⟩
  have key := seq_key h1 tk S h (Q2 := fun x G1 => ∃ a vs, x = .ref a ∧ ((SqL X.K G1 a vs ∧ Rr (Ite X.K a) G1) ∨ (SqT X.K G1 a vs ∧ Rr (IteT X.K a) G1))) fun a vs ds en2 F2 H2 le hs rs S2 h => by
    rcases hs with hs | hs
    · exact ⟨a, vs, rfl, .inl ⟨S2.sep.fh.sqL hs, h _ H2 F2 le (walk_en hs rs) S2⟩⟩
    · exact ⟨a, vs, rfl, .inr ⟨S2.sep.fh.sqT hs, h _ H2 F2 le (walk_enT hs rs) S2⟩⟩
  intro pins s I
  have ha : PA X [e] (tCons (fun σ H Q => uE X σ H e Q) tNil) := pa_cons (uE.pe X e) pa_nil hs'
  refine Call_ (ld_blt I hg hm boot_enumerate (PyProof.Rows.callWith_type1 (thn (ha.run pos pins s σ H (fun vs G1 => ∃ a ws, vs = [.ref a] ∧ ((SqL X.K G1 a ws ∧ Rr (Ite X.K a) G1) ∨ (SqT X.K G1 a ws ∧ Rr (IteT X.K a) G1))) I (key.mono fun v H' ⟨a, ws, e, q⟩ => ⟨a, ws, by rw [e], q⟩)) fun us s1 ⟨vs, G1, J1, r1, q1⟩ => ?_) hs rfl))
  obtain ⟨a, ws, ex, q⟩ := q1
  subst ex
  cases r1 with
  | cons r rr =>
    cases rr
    cases r
    have fpk : ∀ {s' : Shared}, Inv X pins σ G1 s' → s'.heap.objs.size = s1.heap.objs.size + 2 ∨ True := fun _ => .inr trivial
    have fin : ∀ b ∈ [s1.heap.objs.size + 1, s1.heap.objs.size], FpOk X pins G1 b := fun b hb => by
      have two : b = s1.heap.objs.size + 1 ∨ b = s1.heap.objs.size := by simpa using hb
      have hge : s1.heap.objs.size ≤ b := by
        rcases two with z | z
        · rw [z]
          exact Nat.le_add_right _ _
        · rw [z]; exact Nat.le_refl _
      exact J1.fpOk hge (J1.hok.fresh hge)
    rcases q with ⟨hkk, q⟩ | ⟨hkk, q⟩
    · obtain ⟨elems, rvs, pp, hzz⟩ := J1.list hkk
      refine call_enumerate_list pp.isList fun h' hat hiter hs0 hkeep => wpAny_pyIter_enum hat ?_
      have J2 : Inv X pins σ G1 { s1 with heap := h' } := J1.kept (t' := s1.toks) hkeep
      exact ⟨s1.heap.objs.size + 1, [s1.heap.objs.size + 1, s1.heap.objs.size], _, _, G1, rfl, J2, turn_enum a (s1.heap.objs.size + 1) s1.heap.objs.size, ⟨⟨.none, hat⟩, hiter, Nat.succ_ne_self _⟩, fin, q⟩
    · obtain ⟨elems, rvs, pp, hzz⟩ := J1.tuple hkk
      refine call_enumerate_tuple pp fun h' hat hiter hs0 hkeep => wpAny_pyIter_enum hat ?_
      have J2 : Inv X pins σ G1 { s1 with heap := h' } := J1.kept (t' := s1.toks) hkeep
      exact ⟨s1.heap.objs.size + 1, [s1.heap.objs.size + 1, s1.heap.objs.size], _, _, G1, rfl, J2, turn_enumT a (s1.heap.objs.size + 1) s1.heap.objs.size, ⟨⟨.none, hat⟩, hiter, Nat.succ_ne_self _⟩, fin, q⟩
abbrev lcG (X : Cx) (scope : Scope) (tg : Expr) : TG := fun x σ H Q => ∀ s H₀ C cl fp, uG (blkOf X s H₀ scope C cl fp) σ H tg x Q
abbrev lcT (X : Cx) (scope : Scope) (ifs : List Expr) : TT := fun σ H Q => ∀ s H₀ C cl fp, ∃ tt, PTs (blkOf X s H₀ scope C cl fp) ifs tt ∧ tt σ H Q
abbrev lcE (X : Cx) (scope : Scope) (elt : Expr) : TE := fun σ H Q => ∀ s H₀ C cl fp, uE (blkOf X s H₀ scope C cl fp) σ H elt Q
theorem lcG_ok (scope : Scope) (tg : Expr) (s H C cl fp) : PG (X.blk s H scope (compEnvC scope cl C X.env) fp) tg (lcG X scope tg) := ⟨fun pins s' σ H' v u Q I r h => h s H C cl fp pins s' u I r⟩
theorem lcT_ok (scope : Scope) (ifs : List Expr) (s H C cl fp) : PTs (X.blk s H scope (compEnvC scope cl C X.env) fp) ifs (lcT X scope ifs) := ⟨fun pins s' σ H' Q I h => by obtain ⟨tt, p, q⟩ := h s H C cl fp; exact p.run pins s' σ H' Q I q⟩
theorem lcE_ok (scope : Scope) (elt : Expr) (s H C cl fp) : PE (X.blk s H scope (compEnvC scope cl C X.env) fp) elt (lcE X scope elt) := ⟨fun pins s' σ H' Q I h => h s H C cl fp pins s' I⟩
theorem lc_pe {elt tg iter : Expr} {ifs : List Expr} {scope : Scope} {own : List (Str × Nat)} {pos : Pos} (hc : X.calm = true) (hN : X.N.Nodup) (ok : BlkOk X.N X.env.scope scope own) (hs : ∀ x, foldedSetIterable iter X.env x = pure x) :
    PE X (.ListComp elt [⟨tg, iter, ifs, 0⟩] scope pos) (tLc (fun σ H R => uI X σ H tg iter R) (lcG X scope tg) (lcT X scope ifs) (lcE X scope elt) (own.map (·.2))) :=
  pe_lc hc hN (uI.pi X tg iter) ok (lcG_ok scope tg) (lcT_ok scope ifs) (lcE_ok scope elt) hs
theorem do_lc {elt tg iter : Expr} {ifs : List Expr} {scope : Scope} {own : List (Str × Nat)} {fi : M (List D)} {g : D → M Unit} {t : M Bool} {fe : M Op} (h1 : DI X tg iter fi) (h2 : ∀ s H C cl fp, DG (blkOf X s H scope C cl fp) (others X.N.length (own.map (·.2))) tg g)
    (h3 : ∀ s H C cl fp, DTs (blkOf X s H scope C cl fp) ifs t) (h4 : ∀ s H C cl fp, DO (blkOf X s H scope C cl fp) elt fe) (ok : BlkOk X.N X.env.scope scope own) (hN : X.N.Nodup := by exact FnScope.nd (by assumption)) (hc : X.calm = true := by rfl)
    (hs : ∀ x, foldedSetIterable iter X.env x = pure x := by intro _; rfl) : DO X (.ListComp elt [⟨tg, iter, ifs, 0⟩] scope pos) (dLc (own.map (·.2)) fi g t fe) := by
  refine ⟨fun W F R H σ en Q tk S h pins s I => ?_⟩
  exact (lc_pe hc hN ok hs).run pins s σ H Q I (lc_ok h1 h2 h3 h4 I.len tk S h)
theorem ds_setLc {i : Nat} {y : Str} {py : Pos} {elt tg iter : Expr} {ifs : List Expr} {scope : Scope} {own : List (Str × Nat)} {fi : M (List D)} {g : D → M Unit} {t : M Bool} {fe : M Op} {lpos : Pos} (h1 : DI X tg iter fi) (h2 : ∀ s H C cl fp, DG (blkOf X s H scope C cl fp) (others X.N.length (own.map (·.2))) tg g)
    (h3 : ∀ s H C cl fp, DTs (blkOf X s H scope C cl fp) ifs t) (h4 : ∀ s H C cl fp, DO (blkOf X s H scope C cl fp) elt fe) (ok : BlkOk X.N X.env.scope scope own) (hp : i ∉ pr := by decide) (hN : X.N.Nodup := by exact FnScope.nd (by assumption)) (hc : X.calm = true := by rfl)
    (hy : X.N[i]? = some y := by rfl) (hyl : X.env.scope.names.lookup y = some .local := by rfl) (hsw : swapsWith (.ListComp elt [⟨tg, iter, ifs, 0⟩] scope lpos) (some (.Name y py)) pos.line X.env = pure true := by exact sw_true rfl rfl rfl (by decide +kernel))
    (hs : ∀ x, foldedSetIterable iter X.env x = pure x := by intro _; rfl) : DS X pr (.Assign [.Name y py] (.ListComp elt [⟨tg, iter, ifs, 0⟩] scope lpos) pos) (sSet i (dLc (own.map (·.2)) fi g t fe)) := by
  refine ⟨fun W F R H σ en De tk S h pins s I => ?_⟩
  have P := ps_setLc (X := X) (i := i) (y := y) (py := py) (elt := elt) (tg := tg) (iter := iter) (ifs := ifs) (pos := lpos) (spos := pos) hc hN hy hyl hsw (uI.pi X tg iter) ok (lcG_ok scope tg) (lcT_ok scope ifs) (lcE_ok scope elt) hs
  refine P.run pins s σ H De I ?_
  have hlt : i < σ.length := by rw [I.len]; exact (List.getElem?_eq_some_iff.mp hy).1
  unfold sSet at h
  rw [wpO_bd] at h
  refine lc_ok (W := W) (Q := fun x G1 => De.nx (σ.set i (some x)) G1) (F := F) (R := R) (en := en) h1 h2 h3 h4 I.len tk S (wpO_mono h (fun o en' h v H' F' le S' => ?_) fun _ _ _ _ q => q.toC)
  obtain ⟨F3, le3, S3⟩ := SepE.esc' S'.2 S'
  exact h _ H' F3 (le.trans le3) (Keep.set hp) (S3.bind hlt)
end
end PI
set_option maxHeartbeats 3900000
namespace PI
open L2 PySem PyProof.Rows PySem.Spec
variable [Tb]
section
variable {X : Cx} {F F' F1 H H' H1 : Hp} {R : Rv} {σ σ' σ1 : L2.St} {en en' : List D} {T T' : List (Option V × D)} {vs : List V} {os : List Op} {v x y : V} {o : Op} {d : D} {i j : Nat} {W : WX} {Q : VK} {pr : List Nat} {De : Ends} {pos : Pos} {xs : List D}
theorem kids_set (hl : vs.length = xs.length) {i : Nat} {y : V} {e : D} (h1 : vs[i]? = some y) (h2 : xs[i]? = some e) : (kids vs xs).Perm ((some y, e) :: (kids vs xs).eraseIdx i) ∧ ∀ x d, (kids (vs.set i x) (xs.set i d)).Perm ((some x, d) :: (kids vs xs).eraseIdx i) := by
  refine ⟨perm_erase ?_, fun x d => ?_⟩
  · rw [List.getElem?_zip_eq_some]; exact ⟨by rw [List.getElem?_map, h1]; rfl, h2⟩
  · show (List.zip ((vs.set i x).map some) (xs.set i d)).Perm _
    rw [List.map_set, zip_set]
    have := (List.getElem?_eq_some_iff.mp h1).1
    exact set_erase (by rw [List.length_zip, List.length_map]; omega)
/-- an owned node in a slot is opened -/
theorem SepE.openSlot {k : Kd} (S : SepE X F R H σ en T) (hk : k.own = true) (hs : σ[j]? = some (some x)) (e : en.getD j .un = .nd k xs) : ∃ p vs, x = .ref p ∧ vs.length = xs.length ∧ Cont X.K X.mg H k p vs ∧ Sep X.K X.mg F (hold R H p) H (kids vs xs ++ (T ++ σ.zip (en.set j .un))) ∧
    ∀ (ob : HO) (k' : Kd) (vs' : List V) (xs' : List D) (T' : List (Option V × D)), k'.own = true → vs'.length = xs'.length → Cont X.K X.mg (upd H p ob) k' p vs' → Sep X.K X.mg F (hold R H p) H (kids vs' xs' ++ (T' ++ σ.zip (en.set j .un))) → SepE X F R (upd H p ob) σ (en.set j (.nd k' xs')) T' := by
  have S1 := S.take hs
  rw [e] at S1
  obtain ⟨p, vs, rfl, hl, _, S2, ho, _⟩ := Sep.node S1.sep
  rw [hk] at S2
  obtain ⟨hc, hf, hr⟩ := ho hk
  refine ⟨p, vs, rfl, hl, hc, S2, fun ob k' vs' xs' T' hk' hl' hc' S3 => ?_⟩
  have S4 := Sep.close hk' hf hr S3 hl' (fun u e => Cont.tame hk hc e) hc'
  have S5 : SepE X F R (upd H p ob) σ (en.set j .un) ((some (.ref p), .nd k' xs') :: T') := ⟨by rw [List.length_set]; exact S.len, S4⟩
  have := S5.put hs
  rwa [set_set_] at this
def repl {κ α : Type} [DecidableEq κ] (ks : List κ) (xs : List α) (k : κ) (v : α) : List α := List.zipWith (fun k' x => if k' = k then v else x) ks xs
theorem repl_length {κ α : Type} [DecidableEq κ] {ks : List κ} {xs : List α} {k : κ} {v : α} (h : ks.length = xs.length) : (repl ks xs k v).length = xs.length := by
  unfold repl; rw [List.length_zipWith]; omega
theorem repl_zip {κ : Type} [DecidableEq κ] : ∀ {ks : List κ} {vs : List V} {k : κ} {x : V}, (ks.zip vs).map (fun kv => if kv.1 = k then (kv.1, x) else kv) = ks.zip (repl ks vs k x)
  | [], vs, k, x => by simp [repl]
  | _ :: _, [], k, x => by simp [repl]
  | a :: ks, b :: vs, k, x => by
    have := repl_zip (ks := ks) (vs := vs) (k := k) (x := x)
    simp only [List.zip_cons_cons, List.map_cons, repl, List.zipWith_cons_cons]
    rw [this]
    congr 1
    split <;> rfl
theorem repl_sep {κ : Type} [DecidableEq κ] {K : PySem.W.Frag} {mg : Str → Option Value} {k : κ} (r : Rep K mg F x d) : ∀ {ks : List κ} {vs : List V} {xs : List D} {L : List (Option V × D)}, Sep K mg F R H (kids vs xs ++ L) → vs.length = xs.length → Sep K mg F R H (kids (repl ks vs k x) (repl ks xs k d) ++ L)
  | [], vs, xs, L, S, _ => by
    have : Sep K mg F R H L := S.drop
    simpa [repl] using this
  | _ :: _, [], [], L, S, _ => by simpa [repl] using S
  | a :: ks, v :: vs, e :: xs, L, S, hl => by
    have S1 : Sep K mg F R H (kids vs xs ++ ((some v, e) :: L)) := S.perm List.perm_middle.symm
    have S2 := repl_sep (k := k) r (ks := ks) S1 (by simpa using hl)
    have S3 : Sep K mg F R H ((some v, e) :: (kids (repl ks vs k x) (repl ks xs k d) ++ L)) := S2.perm List.perm_middle
    by_cases q : a = k
    · have e1 : repl (a :: ks) (v :: vs) k x = x :: repl ks vs k x := by simp [repl, q]
      have e2 : repl (a :: ks) (e :: xs) k d = d :: repl ks xs k d := by simp [repl, q]
      rw [e1, e2]
      exact S3.tail.add r
    · have e1 : repl (a :: ks) (v :: vs) k x = v :: repl ks vs k x := by simp [repl, q]
      have e2 : repl (a :: ks) (e :: xs) k d = e :: repl ks xs k d := by simp [repl, q]
      rw [e1, e2]
      exact S3
  | _ :: _, [], _ :: _, L, S, hl => by cases hl
  | _ :: _, _ :: _, [], L, S, hl => by cases hl
def putD {κ : Type} [DecidableEq κ] (ks : List κ) (xs : List D) (k : κ) (v : D) : Option (List κ × List D) :=
  if k ∈ ks then (if isFz v then some (ks, repl ks xs k v) else none) else some (ks ++ [k], xs ++ [v])
def setT (t key v : D) : Option D :=
  match t with
  | .nd (.lst true) xs => match key with
    | .int i => (ixN xs.length i).map fun j => .nd (.lst true) (xs.set j v)
    | _ => none
  | .nd (.dk true ks) xs => match keyOf key with
    | some k => if ks.length < sizeLine then (putD ks xs k v).map fun r => .nd (.dk true r.1) r.2 else none
    | none => none
  | .nd (.dt true ks) xs => match key with
    | .nd .tup kk => match keysOf kk with
      | some k => if ks.length < sizeLine then (putD ks xs k v).map fun r => .nd (.dt true r.1) r.2 else none
      | none => none
    | _ => none
  | _ => none
def sSub (j : Nat) (f fi : M Op) : M Fl := bd f fun o => bd (dName j) fun _ => bd fi fun oi => fun en =>
  match setT ((escE en o).getD j .un) (res (escE en o) oi) (escD en o) with
  | some t => .ok .nx ((escE en o).set j t)
  | none => .st
theorem any_zip {κ : Type} [DecidableEq κ] {k : κ} : ∀ {ks : List κ} {vs : List V}, ks.length = vs.length → ((ks.zip vs).any fun kv => decide (kv.1 = k)) = decide (k ∈ ks)
  | [], vs, _ => by simp
  | a :: ks, [], h => by cases h
  | a :: ks, b :: vs, h => by
    have := any_zip (k := k) (ks := ks) (vs := vs) (by simpa using h)
    simp only [List.zip_cons_cons, List.any_cons, this, List.mem_cons]
    by_cases q : a = k
    · simp [q]
    · simp [q, Ne.symm q]
theorem put_sep {κ : Type} [DecidableEq κ] {K : PySem.W.Frag} {mg : Str → Option Value} {k : κ} {ks ks' : List κ} {xs' : List D} {L : List (Option V × D)} (S : Sep K mg F R H (kids vs xs ++ ((some x, d) :: L))) (hl : vs.length = xs.length) (hk : ks.length = vs.length) (e : putD ks xs k d = some (ks', xs')) :
    ∃ vs', putK (ks.zip vs) k x = ks'.zip vs' ∧ ks'.length = vs'.length ∧ vs'.length = xs'.length ∧ Sep K mg F R H (kids vs' xs' ++ L) := by
  unfold putD at e
  split at e
  · rename_i hm
    split at e
    · rename_i hz
      cases e
      have r : Rep K mg F x d := S.rep_mem (List.mem_append_right _ List.mem_cons_self) hz
      have S1 : Sep K mg F R H (kids vs xs ++ L) := (S.perm List.perm_middle).tail
      refine ⟨repl ks vs k x, ?_, by rw [repl_length hk]; exact hk, by rw [repl_length hk, repl_length (by omega)]; exact hl, repl_sep r S1 hl⟩
      unfold putK
      rw [any_zip hk, if_pos (by simpa using hm), repl_zip]
    · cases e
  · rename_i hm
    cases e
    refine ⟨vs ++ [x], ?_, by simp [hk], by simp [hl], ?_⟩
    · unfold putK
      rw [any_zip hk, if_neg (by simpa using hm), List.zip_append hk]
      rfl
    · have e1 : kids (vs ++ [x]) (xs ++ [d]) = kids vs xs ++ [(some x, d)] := by
        show List.zip ((vs ++ [x]).map some) (xs ++ [d]) = _
        rw [List.map_append, List.zip_append (by simp [hl])]
        rfl
      rw [e1, List.append_assoc]
      exact S
theorem slot_some (S : SepE X F R H σ en T) (h : en.getD j .un ≠ .un) : ∃ x, σ[j]? = some (some x) := by
  have hj : j < en.length := by
    by_cases q : j < en.length
    · exact q
    · rw [List.getD_eq_getElem?_getD, List.getElem?_eq_none (by omega)] at h; exact absurd rfl h
  have hj' : j < σ.length := by rw [S.len]; exact hj
  have m : (σ[j], en.getD j .un) ∈ T ++ σ.zip en := List.mem_append_right _ (List.mem_of_getElem? (i := j) (by
    rw [List.getElem?_zip_eq_some]
    exact ⟨List.getElem?_eq_getElem hj', by rw [List.getD_eq_getElem?_getD, List.getElem?_eq_getElem hj]; rfl⟩))
  obtain ⟨v, ev⟩ := S.sep.val m h
  exact ⟨v, by rw [List.getElem?_eq_getElem hj', ev]⟩
/-- the store by values: over what stands in the slot -/
theorem setT_ok (hu : X.A.units + 1 < cLine) {z y : V} {t key : D} {Qh : Hp → Prop} (S : SepE X F R H σ en ((some x, d) :: T)) (hs : σ[j]? = some (some z)) (mk : (some y, key) ∈ T ++ σ.zip en) (e : setT (en.getD j .un) key d = some t)
    (hQ : ∀ H', SepE X F R H' σ (en.set j t) T → Qh H') : ∃ st, PSet X st ∧ st z y x H Qh := by
  have mk2 : ∀ {R' : Rv} {L : List (Option V × D)} {k : Kd} {ys : List D}, en.getD j .un = .nd k ys → True := fun _ => trivial
  cases et : en.getD j .un with
  | nd k xs =>
    rw [et] at e
    have keyAt : ∀ {kk : Key}, keyOf key = some kk → y = kV kk := fun {kk} q => keyOf_kV (S.sep.tail) mk q
    cases k with
    | lst o =>
      cases o with
      | false => simp only [setT] at e; cases e
      | true =>
        obtain ⟨p, vs, rfl, hl, hc, S2, close⟩ := S.openSlot rfl hs et
        cases key <;> first | (simp only [setT] at e; cases e; done) | skip
        rename_i i
        simp only [setT] at e
        cases ej : ixN xs.length i with
        | none => rw [ej] at e; cases e
        | some jj =>
          rw [ej] at e
          cases e
          have hj : jj < xs.length := (ixN_seq ej).2.1
          have ey : y = .int i := S.sep.tail.int mk
          refine ⟨_, set_list, p, vs, i, jj, rfl, ey, hc, by rw [hl]; exact ej, ?_⟩
          refine hQ _ (close (.lst (vs.set jj x)) (.lst true) (vs.set jj x) (xs.set jj d) T rfl (by simp [hl]) upd_same ?_)
          obtain ⟨p1, p2⟩ := kids_set hl (i := jj) (List.getElem?_eq_getElem (by rw [hl]; exact hj)) (List.getElem?_eq_getElem hj)
          have S3 : Sep X.K X.mg F (hold R H p) H ((some (vs[jj]'(by rw [hl]; exact hj)), xs[jj]) :: ((some x, d) :: ((kids vs xs).eraseIdx jj ++ (T ++ σ.zip (en.set j .un))))) := by
            refine S2.perm ?_
            refine (p1.append_right _).trans ?_
            show ((some _, xs[jj]) :: ((kids vs xs).eraseIdx jj ++ ((some x, d) :: (T ++ σ.zip (en.set j .un))))).Perm _
            exact List.Perm.cons _ List.perm_middle
          refine S3.tail.perm ?_
          exact ((p2 x d).symm.append_right _)
    | dk o ks =>
      cases o with
      | false => simp only [setT] at e; cases e
      | true =>
        obtain ⟨p, vs, rfl, hl, hc, S2, close⟩ := S.openSlot rfl hs et
        simp only [setT] at e
        cases ek : keyOf key with
        | none => rw [ek] at e; cases e
        | some kk =>
          rw [ek] at e
          dsimp only at e
          split at e
          · rename_i hz
            cases ep : putD ks xs kk d with
            | none => rw [ep] at e; cases e
            | some r =>
              rw [ep] at e
              cases e
              obtain ⟨vs', e1, l1, l2, S3⟩ := put_sep (L := T ++ σ.zip (en.set j .un)) S2 hl hc.2 (by rw [ep])
              refine ⟨_, set_dict hu, p, _, rfl, .inl ⟨_, kk, hc.1, keyAt ek, ?_, rfl⟩, ?_⟩
              · rw [List.length_zip]; have := hc.2; omega
              · rw [e1]
                exact hQ _ (close _ (.dk true r.1) vs' r.2 T rfl l2 ⟨upd_same, l1⟩ S3)
          · cases e
    | dt o ks =>
      cases o with
      | false => simp only [setT] at e; cases e
      | true =>
        obtain ⟨p, vs, rfl, hl, hc, S2, close⟩ := S.openSlot rfl hs et
        cases key <;> first | (simp only [setT] at e; cases e; done) | skip
        rename_i kd ys
        cases kd <;> first | (simp only [setT] at e; cases e; done) | skip
        simp only [setT] at e
        cases ek : keysOf ys with
        | none => rw [ek] at e; cases e
        | some kk =>
          rw [ek] at e
          dsimp only at e
          split at e
          · rename_i hz
            cases ep : putD ks xs kk d with
            | none => rw [ep] at e; cases e
            | some r =>
              rw [ep] at e
              cases e
              obtain ⟨vs', e1, l1, l2, S3⟩ := put_sep (L := T ++ σ.zip (en.set j .un)) S2 hl hc.2 (by rw [ep])
              obtain ⟨q, ws, rfl, hl2, hc2, rs⟩ := Sep.rds S.sep.tail mk (keysOf_fz ek)
              obtain rfl := keysOf_kV rs ek
              refine ⟨_, set_dict hu, p, _, rfl, .inr ⟨_, kk, q, hc.1, rfl, hc2, ?_, rfl⟩, ?_⟩
              · rw [List.length_zip]; have := hc.2; omega
              · rw [e1]
                exact hQ _ (close _ (.dt true r.1) vs' r.2 T rfl l2 ⟨upd_same, l1⟩ S3)
          · cases e
    | _ => simp only [setT] at e; cases e
  | _ => rw [et] at e; simp only [setT] at e; cases e
end
end PI
set_option maxHeartbeats 3900000
namespace PI
open L2 PySem PyProof.Rows PySem.Spec
variable [Tb]
section
variable {X : Cx} {F F' F1 H H' H1 : Hp} {R : Rv} {σ σ' σ1 : L2.St} {en en' : List D} {T T' : List (Option V × D)} {vs : List V} {os : List Op} {v x y : V} {o : Op} {d : D} {i j : Nat} {W : WX} {Q : VK} {pr : List Nat} {De : Ends} {pos : Pos} {xs : List D}
/-- x[i] = e -/
theorem ds_sub {j : Nat} {z : Str} {ie e : Expr} {f fi : M Op} {pz p' : Pos} (hu : X.A.units + 1 < cLine) (h1 : DO X e f) (h2 : DO X ie fi) (hN : X.N[j]? = some z := by rfl) (hv : Vis X.env.scope z := by first | exact Or.inl rfl | exact Or.inr (Or.inl rfl) | exact Or.inr (Or.inr rfl)) (hd : (z == ("__debug__" : Str)) = false := by decide)
    (hcd : (z == ("__classdict__" : Str)) = false := by decide) (hs : swapsWithSole [.Subscript (.Name z pz) ie p'] e pos.line X.env = pure false := by rfl) (hw : swappedStores [.Subscript (.Name z pz) ie p'] e X.env = pure none := by rfl)
    (ha : ∀ v, assign (.Subscript (.Name z pz) ie p') X.env v = (do
      let ov ← holding [v] (eval (.Name z pz) X.env)
      let iv ← holding [v, ov] (eval ie X.env)
      standAt p'
      holding [v, ov, iv] ((setItem ov iv v))
      release [v, ov, iv] []) := by intro _; rfl) (h3 : (assignEach [.Subscript (.Name z pz) ie p'] X.env).map (·.2) = [assign (.Subscript (.Name z pz) ie p') X.env] := by rfl) :
    DS X pr (.Assign [.Subscript (.Name z pz) ie p'] e pos) (sSub j f fi) := by
  refine ⟨fun W F R H σ en De tk S h => uS.of (ps_asg (uE.pe X e) (pg_sub (t := fun o i v H Q => ∃ t, PSet X t ∧ t o i v H Q) (uE.pe X (.Name z pz)) (uE.pe X ie) (fun pins s σ H o i v ov iv u Q I ro ri rv ⟨t, p, q⟩ => p pins s σ H o i v ov iv u Q I ro ri rv q) ha) hs hw h3) ?_⟩
  refine oneS h1 tk S h fun x o en2 F2 H2 le S2 h => ?_
  show uE X σ H2 (.Name z pz) fun b H3 => uE X σ H3 ie fun y H4 => ∃ t, PSet X t ∧ t b y x H4 fun H5 => De.nx σ H5
  obtain ⟨R', S3, back⟩ := S2.2.lend
  have n1 := do_name (X := X) (pos := pz) j hN hv hd hcd
  rw [wpO_bd] at h
  refine n1.run W F2 R' H2 σ en2 _ tk S3 (wpO_mono (wpO_eq h) (fun on en3 ⟨eq, h5⟩ b H3 F3 le3 S4 => ?_) fun _ _ _ _ q => ?_)
  · have hon : on = .s j ∧ en3 = en2 := by
      unfold dName at eq
      split at eq <;> cases eq
      exact ⟨rfl, rfl⟩
    obtain ⟨rfl, rfl⟩ := hon
    have hb : σ[j]? = some (some b) := S4.1.1
    have S5 := back F3 H3 σ en3 [] le3 S4.2.clear
    rw [List.append_nil] at S5
    obtain ⟨R2, S6, back2⟩ := S5.lend
    rw [wpO_bd] at h5
    refine h2.run W F3 R2 H3 σ en3 _ tk S6 (wpO_mono h5 (fun oi en4 h y H4 F4 le4 S7 => ?_) fun _ _ _ _ q C dx H' F' le' m xd S' => (q.le (le.trans le3)).toC C dx H' F' le' m xd (back2 F' H' σ _ [] le' S').clear)
    have S8 := back2 F4 H4 σ en4 _ le4 S7.2
    -- the value escapes
    have S9 : OpsS X F4 R H4 σ en4 ([x] ++ [y]) ([o] ++ [oi]) := ⟨S2.1.app S7.1, by rw [tmps_app S2.1]; exact S8⟩
    have key : ∃ F5, Le F4 F5 ∧ SepE X F5 R H4 σ (escE en4 o) ((some x, escD en4 o) :: tmps [y] [oi]) := by
      cases o with
      | v d => exact ⟨F4, Le.refl F4, S8⟩
      | s i =>
        obtain ⟨F5, le5, S10, r⟩ := SepE.coolSlot (T := tmps [y] [oi]) S8 S2.1.1
        exact ⟨F5, le5, S10.add r⟩
    obtain ⟨F5, le5, S10⟩ := key
    cases et : setT ((escE en4 o).getD j .un) (res (escE en4 o) oi) (escD en4 o) with
    | none => rw [et] at h; exact h.elim
    | some t =>
      rw [et] at h
      have h : ∀ σ' H' F', Le F F' → Keep pr σ σ' → SepE X F' R H' σ' ((escE en4 o).set j t) [] → De.nx σ' H' := h
      refine setT_ok hu S10 hb ?_ et fun H' S' => h σ H' F5 (le.trans (le3.trans (le4.trans le5))) (Keep.refl pr σ) S'.clear
      obtain ⟨o', e1, m1⟩ := mem_ops S10.len (vs := [y]) (os := [oi]) (en := escE en4 o) S7.1 (i := 0) rfl
      cases e1
      exact m1
  · exact fun C dx H' F' le' m xd S' => (q.le le).toC C dx H' F' le' m xd (back F' H' σ _ [] le' S').clear
/-- x.append(e) -/
def sApp (j : Nat) (f : M Op) : M Fl := fun en => match en.getD j .un with
  | .nd (.lst true) _ => (f en).bd fun o en => match (escE en o).getD j .un with
    | .nd (.lst true) xs => if xs.length < sizeLine then .ok .nx ((escE en o).set j (.nd (.lst true) (xs ++ [escD en o]))) else .st
    | _ => .st
  | _ => .st
theorem ds_app {j : Nat} {z : Str} {e : Expr} {f : M Op} {pz ap cp : Pos} (h1 : DO X e f) (hN : X.N[j]? = some z := by rfl) (hv : Vis X.env.scope z := by first | exact Or.inl rfl | exact Or.inr (Or.inl rfl) | exact Or.inr (Or.inr rfl)) (hd : (z == ("__debug__" : Str)) = false := by decide)
    (hcd : (z == ("__classdict__" : Str)) = false := by decide) (hsw : swapsWith (.Call (.Attribute (.Name z pz) "append" ap) [e] [] cp) none pos.line X.env = pure false := by rfl)
    (hbase : attributeBase (.Name z pz) "append" X.env (eval (.Name z pz) X.env) = eval (.Name z pz) X.env := by rfl)
    (hfew : ((backTo cp (starEach [e] X.env)).all (fun x => !x.1) && (backToKw cp (keywordEach [] X.env)).all (fun x => x.1.isSome)
      && decide (([e] : List Expr).length + ([] : List Keyword).length + (if ([] : List Keyword).isEmpty then 0 else 1) < 30)) = (true) := by rfl)
    (hline : (ap.endLine == cp.line) = true := by rfl) (hs : starEach [e] X.env = (false, eval e X.env) :: starEach [] X.env := by rfl) (hplain : (backTo cp (starEach [] X.env)).any (·.1) = false := by rfl) :
    DS X pr (.Expr (.Call (.Attribute (.Name z pz) "append" ap) [e] [] cp) pos) (sApp j f) := by
  refine ⟨fun W F R H σ en De tk S h => uS.of (ps_expr (pe_bm PySem.F.plainAttrs_list PySem.F.slot_list_append PySem.F.type_list_append mt_append (pe_var hN hv hd hcd) (pa_cons (uE.pe X e) pa_nil hs) hbase hfew hline hs hplain) hsw) ?_⟩
  unfold sApp at h
  cases et : en.getD j .un with
  | nd k xs0 =>
    rw [et] at h
    cases k with
    | lst oo =>
      cases oo with
      | false => exact h.elim
      | true =>
        have h : wpO ((f en).bd fun o en => match (escE en o).getD j .un with
          | .nd (.lst true) xs => if xs.length < sizeLine then O.ok Fl.nx ((escE en o).set j (.nd (.lst true) (xs ++ [escD en o]))) else .st
          | _ => .st) (PF X pr F R σ De) (PXs X W pr F R σ) := h
        obtain ⟨b, hb⟩ := slot_some S (by rw [et]; exact fun z => by cases z)
        have m0 : (some b, D.nd (.lst true) xs0) ∈ σ.zip en := by have := mem_slot S.len hb; rwa [et] at this
        obtain ⟨p0, vs0, e0, _, hc0, _⟩ := Sep.rd S.sep m0
        refine ⟨b, hb, ?_, ?_⟩
        · subst e0; exact .inl ⟨rfl, _, SqL.of hc0⟩
        · show uE X σ H e fun y H1 => rAppend b [y] H1 fun _ H' => De.nx σ H'
          refine oneS (k := fun o en => match (escE en o).getD j .un with
            | .nd (.lst true) xs => if xs.length < sizeLine then O.ok Fl.nx ((escE en o).set j (.nd (.lst true) (xs ++ [escD en o]))) else .st
            | _ => .st) h1 tk S h fun x o en2 F2 H2 le S2 h => ?_
          obtain ⟨F3, le3, S3⟩ := SepE.esc' S2.2 S2
          revert h
          cases et2 : (escE en2 o).getD j .un with
          | nd k xs =>
            cases k with
            | lst oo =>
              cases oo with
              | false => exact fun h => h.elim
              | true =>
                intro h
                dsimp only at h
                split at h
                · rename_i hz
                  obtain ⟨p, vs, rfl, hl, hc, S4, close⟩ := S3.openSlot rfl hb et2
                  refine ⟨p, vs, x, rfl, rfl, hc, by rw [hl]; exact hz, ?_⟩
                  refine h σ _ F3 (le.trans le3) (Keep.refl pr σ) (close (.lst (vs ++ [x])) (.lst true) (vs ++ [x]) (xs ++ [escD en2 o]) [] rfl (by simp [hl]) upd_same ?_)
                  have e1 : kids (vs ++ [x]) (xs ++ [escD en2 o]) = kids vs xs ++ [(some x, escD en2 o)] := by
                    show List.zip ((vs ++ [x]).map some) (xs ++ [escD en2 o]) = _
                    rw [List.map_append, List.zip_append (by simp [hl])]
                    rfl
                  rw [e1, List.append_assoc]
                  exact S4
                · exact h.elim
            | _ => exact fun h => h.elim
          | _ => exact fun h => h.elim
    | _ => exact h.elim
  | _ => rw [et] at h; exact h.elim
structure DPs (X : Cx) (pos : Pos) (keys : List (Option Expr)) (es : List Expr) (ks : List Key) (f : M (List Op)) : Prop where
  len : ∀ en os en', f en = .ok os en' → os.length = ks.length
  ex : ∃ trs, PPs X pos keys es trs ∧ (∀ σ H Q Q', tPairs trs σ H Q → (∀ ps H', Q ps H' → Q' ps H') → tPairs trs σ H Q') ∧ ∀ (W : WX) (F : Hp) (R : Rv) (H : Hp) (σ : L2.St) (en : List D) (Q : List V → Hp → Prop), Takes X W → SepE X F R H σ en [] → wpO (f en) (PVs X F R σ Q) (PXc X W F R σ) → tPairs trs σ H fun ps H' => ∃ vs, ps = (ks.map kV).zip vs ∧ vs.length = ks.length ∧ Q vs H'
theorem dps_nil : DPs X pos [] [] [] dNil := ⟨fun en os en' h => by cases h; rfl, _, pps_nil, fun _ _ _ _ h m => m _ _ h, fun W F R H σ en Q tk S h => ⟨[], rfl, rfl, h [] H F (Le.refl F) ⟨trivial, S⟩⟩⟩
theorem dps_cons {kx e : Expr} {keys : List (Option Expr)} {es : List Expr} {k : Key} {ks : List Key} {f : M Op} {g : M (List Op)} (hk : PE X kx (tC (kV k))) (h1 : DO X e f) (h2 : DPs X pos keys es ks g) : DPs X pos (some kx :: keys) (e :: es) (k :: ks) (dCons f g) := by
  obtain ⟨hlen, trs, P, mo, q2⟩ := h2
  refine ⟨fun en os en' h => ?_, _, pps_cons hk (uE.pe X e) P, fun σ H Q Q' h m => uE.mono h fun y H2 h => mo _ _ _ _ h fun ps H3 h => m _ _ h, fun W F R H σ en Q tk S h => ?_⟩
  · unfold dCons bd at h
    cases e1 : f en with
    | st => rw [e1] at h; cases h
    | ex => rw [e1] at h; cases h
    | ok o en1 =>
      rw [e1] at h
      simp only [O.bd_ok] at h
      cases e2 : g en1 with
      | st => rw [e2] at h; cases h
      | ex => rw [e2] at h; cases h
      | ok os' en2 =>
        rw [e2] at h
        cases h
        rw [List.length_cons, List.length_cons, hlen _ _ _ e2]
  · show uE X σ H e fun y H2 => tPairs trs σ H2 fun ps H3 => ∃ vs, ((kV k, y) :: ps) = ((k :: ks).map kV).zip vs ∧ vs.length = (k :: ks).length ∧ Q vs H3
    unfold dCons at h
    rw [wpO_bd] at h
    refine h1.run W F R H σ en _ tk S (wpO_mono h (fun o en1 h v H1 F1 le1 S1 => ?_) fun _ _ _ _ k => k)
    rw [wpO_bd] at h
    obtain ⟨R', S2, back⟩ := S1.2.lend
    have := q2 W F1 R' H1 σ en1 (fun vs H2 => Q (v :: vs) H2) tk S2 (wpO_mono h (fun os en2 h vs H2 F2 le2 S3 => ?_) fun c ns xs en2 k C dx H' F' le m xd S' => ?_)
    · exact mo _ _ _ _ this fun ps H3 ⟨vs, e1, e2, q⟩ => ⟨v :: vs, by rw [e1]; rfl, by simp [e2], q⟩
    · exact h (v :: vs) H2 F2 (le1.trans le2) ⟨S1.1.app S3.1, (tmps_app (vs := [v]) (os := [o]) S1.1 : tmps (v :: vs) (o :: os) = tmps [v] [o] ++ tmps vs os) ▸ back _ _ _ _ _ le2 S3.2⟩
    · exact k C dx H' F' (le1.trans le) m xd (back _ _ _ _ _ le S').clear
end
end PI
set_option maxHeartbeats 3900000
namespace PI
open L2 PySem PyProof.Rows PySem.Spec
variable [Tb]
section
variable {X : Cx} {F F' F1 H H' H1 : Hp} {R : Rv} {σ σ' σ1 : L2.St} {en en' : List D} {T T' : List (Option V × D)} {vs : List V} {os : List Op} {v x y : V} {o : Op} {d : D} {i j : Nat} {W : WX} {Q : VK} {pr : List Nat} {De : Ends} {pos : Pos} {xs : List D}
theorem mergeK_zip : ∀ {ks : List Key} {vs : List V} {acc : List (Key × V)}, ks.Nodup → (∀ k ∈ ks, ∀ p ∈ acc, p.1 ≠ k) → mergeK acc (ks.zip vs) = acc ++ ks.zip vs
  | [], vs, acc, _, _ => by simp [mergeK]
  | k :: ks, [], acc, _, _ => by simp [mergeK]
  | k :: ks, v :: vs, acc, hn, hd => by
    obtain ⟨n1, n2⟩ := List.nodup_cons.mp hn
    show mergeK (putK acc k v) (ks.zip vs) = _
    have e : putK acc k v = acc ++ [(k, v)] := by
      unfold putK
      rw [if_neg]
      intro z
      obtain ⟨p, hp, e⟩ := List.any_eq_true.mp z
      exact hd k List.mem_cons_self p hp (of_decide_eq_true e)
    rw [e, mergeK_zip n2, List.append_assoc]
    · rfl
    · intro k' hk' p hp
      obtain hp | hp := List.mem_append.mp hp
      · exact hd k' (List.mem_cons_of_mem _ hk') p hp
      · rw [(List.mem_singleton.mp hp)]
        intro z
        have z : k = k' := z
        exact n1 (z ▸ hk')
/-- what stands in a display is frozen -/
def dDict (ks : List Key) (f : M (List Op)) : M Op := bd f fun os => fun en => .ok (.v (.nd (.dk true ks) (cools os en).1)) (cools os en).2
theorem do_dict {keys : List (Option Expr)} {es : List Expr} {ks : List Key} {f : M (List Op)} (h1 : DPs X pos keys es ks f) (hall : keys.all (·.isSome) = true := by rfl) (hl : keys.length = es.length := by rfl) (h0 : keys ≠ [] := by exact List.cons_ne_nil _ _)
    (h15 : keys.length ≤ 15 := by decide) (hk : ks.length ≤ 15 := by decide) (hn : ks.Nodup := by decide) : DO X (.Dict keys es pos) (dDict ks f) := by
  obtain ⟨hlen, trs, P, mo, q2⟩ := h1
  refine ⟨fun W F R H σ en Q tk S h => ?_⟩
  refine uE.of (pe_disp P hall hl h0 h15) ?_
  intro p hp
  have S0 : SepE X F R (upd H p (.dK [])) σ en [(some (.ref p), .nd (.dk true []) [])] := ⟨S.len, Sep.new (vs := []) (xs := []) S.sep hp rfl rfl ⟨upd_same, rfl⟩⟩
  obtain ⟨R', S1, back⟩ := S0.lend
  unfold dDict at h
  rw [wpO_bd] at h
  refine mo _ _ _ _ (q2 W F R' _ σ en (fun vs H2 => H2 p = some (.dK []) ∧ ∃ kvs : List (Key × V), (ks.map kV).zip vs = kvs.map (fun kv => (kV kv.1, kv.2)) ∧ kvs.length ≤ 15 ∧ Q (.ref p) (upd H2 p (.dK (mergeK [] kvs)))) tk S1 (wpO_mono (wpO_eq h) (fun os en2 ⟨ef, h⟩ vs H2 F2 le2 S2 => ?_) fun c ns xs en2 k C dx H' F' le m xd S' => k C dx H' F' le m xd (back _ _ _ _ [] le S').clear)) (fun ps H2 ⟨vs, e1, e2, a, kvs, b, c, d⟩ => ⟨a, kvs, e1.trans b, c, d⟩)
  have S3 : SepE X F2 R H2 σ en2 (tmps vs os ++ [(some (.ref p), .nd (.dk true []) [])]) := (back _ _ _ _ _ le2 S2.2).perm List.perm_append_comm
  obtain ⟨F3, le3, S4, rs⟩ := cools_ok S2.1 S3
  have S5 : Sep X.K X.mg F3 R H2 ((some (.ref p), .nd (.dk true []) []) :: σ.zip (cools os en2).2) := S4.sep
  obtain ⟨p', ws, ep, lw, _, S6, hot, _⟩ := Sep.node S5
  cases ep
  obtain ⟨c0, f0, r0⟩ := hot rfl
  have ew : ws = [] := List.length_eq_zero_iff.mp lw
  subst ew
  have c1 : H2 p = some (.dK []) := c0.1
  have lv : vs.length = ks.length := by rw [S2.1.len, hlen _ _ _ ef]
  refine ⟨c1, ks.zip vs, ?_, by rw [List.length_zip]; omega, ?_⟩
  · rw [List.zip_map_left]; rfl
  · refine h (.ref p) _ F3 (le2.trans le3) ⟨trivial, S4.len, ?_⟩
    have S7 : Sep X.K X.mg F3 (hold R H2 p) H2 (kids vs (cools os en2).1 ++ σ.zip (cools os en2).2) := Sep.adds (vs := vs) S6 rs
    refine Sep.close (k := .dk true ks) (vs := vs) (xs := (cools os en2).1) rfl f0 r0 S7 rs.1 (fun u e => Cont.tame (k := .dk true []) rfl c0 e) ?_
    rw [mergeK_zip hn (fun _ _ _ z => absurd z List.not_mem_nil)]
    exact ⟨upd_same, lv.symm⟩
def dEmp : M Op := rt (.v (.nd (.dk true []) []))
theorem do_emp : DO X (.Dict [] [] pos) dEmp := ⟨fun W F R H σ en Q tk S h => uE.of pe_dnewK fun p hp => h _ _ F (Le.refl F) ⟨trivial, S.len, Sep.new (k := .dk true []) (vs := []) (xs := []) S.sep hp rfl rfl ⟨upd_same, rfl⟩⟩⟩
def rEx (X : Cx) (op : CmpOp) : R2 := fun x y H Q => ∃ rr, OpR X (compareOp op) rr ∧ rr x y H Q
theorem rEx_ok {op : CmpOp} : OpR X (compareOp op) (rEx X op) := fun pins s σ H x y v u Q I rx ry ⟨rr, ho, q⟩ => ho pins s σ H x y v u Q I rx ry q
theorem chain_run {op op' : CmpOp} {g g' : D → D → Option D} {a b c : Expr} {fa fb fc : M Op} (hg : Prim2 X (compareOp op) g) (hg' : Prim2 X (compareOp op') g') (h1 : DO X a fa) (h2 : DO X b fb) (h3 : DO X c fc) (tk : Takes X W) (S : SepE X F R H σ en [])
    (h : wpO (dChain g g' fa fb fc en) (PVo X F R σ Q) (PXc X W F R σ)) : tChain (rEx X op) (rEx X op') (fun σ H Q => uE X σ H a Q) (fun σ H Q => uE X σ H b Q) (fun σ H Q => uE X σ H c Q) σ H Q := by
  unfold dChain at h
  rw [wpO_bd] at h
  refine h1.run W F R H σ en _ tk S (wpO_mono h (fun oa en1 h x H1 F1 le1 S1 => ?_) fun _ _ _ _ q => q)
  obtain ⟨R', S2, back⟩ := S1.2.lend
  rw [wpO_bd] at h
  refine h2.run W F1 R' H1 σ en1 _ tk S2 (wpO_mono h (fun ob en2 h y H2 F2 le2 S3 => ?_) fun c ns xs en2 q C dx H' F' le m xd S' => q C dx H' F' (le1.trans le) m xd (back F' H' σ _ [] le S').clear)
  have S4 : OpsS X F2 R H2 σ en2 [x, y] [oa, ob] := by
    have e : tmps [x] [oa] ++ tmps [y] [ob] = tmps [x, y] [oa, ob] := (tmps_app S1.1).symm
    exact ⟨S1.1.app S3.1, e ▸ back F2 H2 σ en2 _ le2 S3.2⟩
  obtain ⟨m1, m2⟩ := mem2 S4
  cases e : g (res en2 oa) (res en2 ob) with
  | none => rw [e] at h; exact h.elim
  | some r =>
    rw [e] at h
    cases r with
    | bl k =>
      refine hg F2 R H2 _ x y _ _ (.bl k) (fun z H3 => ∃ k, z = .bl k ∧ if k = true then uE X σ H3 c fun w' H4 => rEx X op' y w' H4 Q else Q (.bl false) H3) S4.2.sep m1 m2 e fun v F3 H3 le3 S5 => ?_
      · have ev : v = .bl k := S5.bl List.mem_cons_self
        subst ev
        refine ⟨k, rfl, ?_⟩
        have S6 : SepE X F3 R H3 σ en2 (tmps [x, y] [oa, ob]) := ⟨S4.2.len, S5.tail⟩
        cases k with
        | false => exact h _ _ F3 (le1.trans (le2.trans le3)) (made S4.2.len S5)
        | true =>
          have e2 : tmps [x, y] [oa, ob] = tmps [x] [oa] ++ tmps [y] [ob] := tmps_app (vs := [x]) (os := [oa]) S1.1
          rw [e2] at S6
          have S7 := S6.drop
          obtain ⟨R2, S8, back2⟩ := S7.lend
          have h : wpO ((fc en2).bd fun c en' => ofO ((g' (res en' ob) (res en' c)).map .v) en') (PVo X F R σ Q) (PXc X W F R σ) := h
          have h := (wpO_bd (m := fc) (f := fun c en' => ofO ((g' (res en' ob) (res en' c)).map Op.v) en') (e := en2)).mp h
          refine h3.run W F3 R2 H3 σ en2 _ tk S8 (wpO_mono h (fun oc en3 h w H4 F4 le4 S9 => ?_) fun c ns xs en2 q C dx H' F' le m xd S' => q C dx H' F' (le1.trans (le2.trans (le3.trans le))) m xd (back2 F' H' σ _ [] le S').clear)
          have S10 : OpsS X F4 R H4 σ en3 [y, w] [ob, oc] := by
            have e : tmps [y] [ob] ++ tmps [w] [oc] = tmps [y, w] [ob, oc] := (tmps_app S3.1).symm
            exact ⟨S3.1.app S9.1, e ▸ back2 F4 H4 σ en3 _ le4 S9.2⟩
          obtain ⟨n1, n2⟩ := mem2 S10
          cases e3 : g' (res en3 ob) (res en3 oc) with
          | none => simp only [e3, Option.map_none, ofO_none] at h; exact h.elim
          | some r =>
            simp only [e3, Option.map_some, ofO_some] at h
            exact hg' F4 R H4 _ y w _ _ r Q S10.2.sep n1 n2 e3 fun v F' H' le' S' => h v H' F' (le1.trans (le2.trans (le3.trans (le4.trans le')))) (made S10.2.len S')
    | _ => exact h.elim
theorem do_chain {op op' : CmpOp} {g g' : D → D → Option D} {a b c : Expr} {fa fb fc : M Op} (hg : Prim2 X (compareOp op) g) (hg' : Prim2 X (compareOp op') g') (h1 : DO X a fa) (h2 : DO X b fb) (h3 : DO X c fc)
    (hm : lastMarks [op, op'] [b, c] = false := by with_unfolding_all rfl) : DO X (.Compare a [op, op'] [b, c] pos) (dChain g g' fa fb fc) :=
  ⟨fun W F R H σ en Q tk S h => uE.of (pe_chain rEx_ok rEx_ok (uE.pe X a) (uE.pe X b) (uE.pe X c) hm) (chain_run hg hg' h1 h2 h3 tk S h)⟩
theorem dt_chain {op op' : CmpOp} {g g' : D → D → Option D} {a b c : Expr} {fa fb fc : M Op} (hg : Prim2 X (compareOp op) g) (hg' : Prim2 X (compareOp op') g') (h1 : DO X a fa) (h2 : DO X b fb) (h3 : DO X c fc)
    (hm : lastMarks [op, op'] [b, c] = false := by with_unfolding_all rfl) : DT X (.Compare a [op, op'] [b, c] pos) (dBl (dChain g g' fa fb fc)) := by
  refine ⟨fun W F R H σ en Q tk S h => uT.of (pt_chain rEx_ok rEx_ok (uE.pe X a) (uE.pe X b) (uE.pe X c) hm) ?_⟩
  unfold dBl at h
  rw [wpO_bd] at h
  refine chain_run (Q := fun x H' => ∃ k, x = .bl k ∧ Q k H') hg hg' h1 h2 h3 tk S (wpO_mono h (fun o en' h v H' F' le S' => ?_) fun _ _ _ _ q => q)
  have m := mem1 S'
  revert h m
  cases res en' o with
  | bl b => exact fun h m => ⟨b, S'.2.sep.bl m, h H' F' le S'.2.clear⟩
  | _ => exact fun h _ => h.elim
end
end PI
set_option maxHeartbeats 3900000
namespace PI
open L2 PySem PyProof.Rows PySem.Spec
variable [Tb]
section
variable {X : Cx} {F F' F1 H H' H1 : Hp} {R : Rv} {σ σ' σ1 : L2.St} {en en' : List D} {T T' : List (Option V × D)} {vs : List V} {os : List Op} {v x y : V} {o : Op} {d : D} {i j : Nat} {W : WX} {Q : VK} {pr : List Nat} {De : Ends} {pos : Pos} {xs : List D}
def g1 (g : D → Option D) : List D → Option D
  | [d] => g d
  | _ => none
def g2 (g : D → D → Option D) : List D → Option D
  | [d, e] => g d e
  | _ => none
theorem pN1 {f : Value} {g : D → Option D} (h : ∀ (F : Hp) (R : Rv) (H : Hp) (L : List (Option V × D)) (x : V) (d r : D) (Q : VK), Sep X.K X.mg F R H L → (some x, d) ∈ L → g d = some r → (∀ v F' H', Le F F' → Sep X.K X.mg F' R H' ((some v, r) :: L) → Q v H') →
    ∃ rr, CallR X f rr ∧ rr [x] H Q) : PrimN X f (g1 g) := by
  intro F R H L vs ds r Q S hl hm e hQ
  match ds, hl, hm, e with
  | [d], hl, hm, e =>
    match vs, hl, hm with
    | [x], _, hm => exact h F R H L x d r Q S (hm 0 x d rfl rfl) e hQ
theorem pN2 {f : Value} {g : D → D → Option D} (h : ∀ (F : Hp) (R : Rv) (H : Hp) (L : List (Option V × D)) (x y : V) (d e r : D) (Q : VK), Sep X.K X.mg F R H L → (some x, d) ∈ L → (some y, e) ∈ L → g d e = some r → (∀ v F' H', Le F F' → Sep X.K X.mg F' R H' ((some v, r) :: L) → Q v H') →
    ∃ rr, CallR X f rr ∧ rr [x, y] H Q) : PrimN X f (g2 g) := by
  intro F R H L vs ds r Q S hl hm e hQ
  match ds, hl, hm, e with
  | [d, e'], hl, hm, e =>
    match vs, hl, hm with
    | [x, y], _, hm => exact h F R H L x y d e' r Q S (hm 0 x d rfl rfl) (hm 1 y e' rfl rfl) e hQ
theorem PrimN.or {f : Value} {g g' : List D → Option D} (h : PrimN X f g) (h' : PrimN X f g') : PrimN X f (fun ds => (g ds).or (g' ds)) := by
  intro F R H L vs ds r Q S hl hm e hQ
  dsimp only at e
  cases e1 : g ds with
  | some r' => rw [e1] at e; cases e; exact h F R H L vs ds _ Q S hl hm e1 hQ
  | none => rw [e1] at e; exact h' F R H L vs ds r Q S hl hm e hQ
theorem Prim2.orE {f : Value → Value → Sem Value} {g g' : D → D → Option D} (h : Prim2 X f g) (h' : Prim2 X f g') : Prim2 X f (fun d e => (g d e).or (g' d e)) := by
  intro F R H L x y dx dy r Q S m1 m2 e hQ
  dsimp only at e
  cases e1 : g dx dy with
  | some r' => rw [e1] at e; cases e; exact h F R H L x y dx dy _ Q S m1 m2 e1 hQ
  | none => rw [e1] at e; exact h' F R H L x y dx dy r Q S m1 m2 e hQ
/-- the items of a list or a tuple of any kind -/
def seqOf : D → Option (List D)
  | .nd .tup xs => some xs
  | .nd .rol xs => some xs
  | .nd (.lst _) xs => some xs
  | _ => none
def gLen : D → Option D
  | .str z => if z.length ≤ sizeLine then some (.int z.length) else none
  | .nd .tup xs => some (.int xs.length)
  | .nd .rol xs => some (.int xs.length)
  | .nd (.lst _) xs => some (.int xs.length)
  | _ => none
theorem ok_len : PrimN X (.builtin "len") (g1 gLen) := pN1 fun F R H L x d r Q S m e hQ => by
  have seqL : ∀ k xs, d = .nd k xs → (k = .tup ∨ k = .rol ∨ ∃ o, k = .lst o) → r = .int xs.length → ∃ rr, CallR X (.builtin "len") rr ∧ rr [x] H Q := fun k xs e1 e2 e3 => by
    subst e1; subst e3
    obtain ⟨p, vs, rfl, hl, hc, _⟩ := S.rd m
    refine ⟨_, call_len, .ref p, vs.length, rfl, ?_, fin_leaf S hQ (by show some (V.int _) = _; rw [hl])⟩
    rcases e2 with rfl | rfl | ⟨o, rfl⟩
    · exact .inr ⟨vs, SqT.of hc, rfl⟩
    · exact .inl ⟨vs, hc, rfl⟩
    · exact .inl ⟨vs, SqL.of hc, rfl⟩
  match d, m, e, seqL with
  | .str z, m, e, _ =>
    simp only [gLen] at e
    split at e
    · cases e
      obtain rfl := S.str m
      exact ⟨_, call_len, _, _, rfl, ⟨by assumption, rfl⟩, fin_leaf S hQ rfl⟩
    · cases e
  | .nd .tup xs, m, e, c => exact c _ _ rfl (.inl rfl) (by cases e; rfl)
  | .nd .rol xs, m, e, c => exact c _ _ rfl (.inr (.inl rfl)) (by cases e; rfl)
  | .nd (.lst o) xs, m, e, c => exact c _ _ rfl (.inr (.inr ⟨o, rfl⟩)) (by cases e; rfl)
def gAbs : D → Option D
  | .int k => some (.int (if k < 0 then -k else k))
  | _ => none
theorem ok_abs : PrimN X (.builtin "abs") (g1 gAbs) := pN1 fun F R H L x d r Q S m e hQ => by
  match d, m, e with
  | .int i, m, e => cases e; obtain rfl := S.int m; exact ⟨_, call_abs, _, rfl, fin_leaf S hQ rfl⟩
def gInt : D → Option D
  | .int i => some (.int i)
  | .bl b => some (.int (if b then 1 else 0))
  | _ => none
theorem ok_int : PrimN X (.type "int") (g1 gInt) := pN1 fun F R H L x d r Q S m e hQ => by
  match d, m, e with
  | .int i, m, e => cases e; obtain rfl := S.int m; exact ⟨_, call_int1, .inl ⟨_, rfl, fin_leaf S hQ rfl⟩⟩
  | .bl i, m, e => cases e; obtain rfl := S.bl m; exact ⟨_, call_int1, .inr ⟨_, rfl, fin_leaf S hQ rfl⟩⟩
def gBool : D → Option D
  | .int i => some (.bl (i != 0))
  | .bl b => some (.bl b)
  | _ => none
theorem ok_bool : PrimN X (.type "bool") (g1 gBool) := pN1 fun F R H L x d r Q S m e hQ => by
  match d, m, e with
  | .int i, m, e => cases e; obtain rfl := S.int m; exact ⟨_, call_bool1, .inl ⟨_, rfl, fin_leaf S hQ rfl⟩⟩
  | .bl i, m, e => cases e; obtain rfl := S.bl m; exact ⟨_, call_bool1, .inr ⟨_, rfl, fin_leaf S hQ rfl⟩⟩
def gStr : D → Option D
  | .int i => if i.natAbs.log2 < 1920 then some (.str (toString i)) else none
  | _ => none
theorem ok_str : PrimN X (.type "str") (g1 gStr) := pN1 fun F R H L x d r Q S m e hQ => by
  match d, m, e with
  | .int i, m, e =>
    simp only [gStr] at e
    split at e
    · cases e; obtain rfl := S.int m; exact ⟨_, call_str_int, _, rfl, by assumption, fin_leaf S hQ rfl⟩
    · cases e
def gMax2 : D → D → Option D := gI fun i j => some (.int (if j > i then j else i))
def gMin2 : D → D → Option D := gI fun i j => some (.int (if j < i then j else i))
theorem ok_max2 (hc : X.calm = true) : PrimN X (.builtin "max") (g2 gMax2) := pN2 fun F R H L x y d e r Q S m1 m2 h hQ => by
  match d, e, m1, m2, h with
  | .int i, .int j, m1, m2, h => cases h; obtain rfl := S.int m1; obtain rfl := S.int m2; exact ⟨_, call_max2 hc, _, _, rfl, fin_leaf S hQ rfl⟩
theorem ok_min2 (hc : X.calm = true) : PrimN X (.builtin "min") (g2 gMin2) := pN2 fun F R H L x y d e r Q S m1 m2 h hQ => by
  match d, e, m1, m2, h with
  | .int i, .int j, m1, m2, h => cases h; obtain rfl := S.int m1; obtain rfl := S.int m2; exact ⟨_, call_min2 hc, _, _, rfl, fin_leaf S hQ rfl⟩
def gList (d : D) : Option D := match seqOf d with
  | some xs => if isFzL xs then some (.nd (.lst true) xs) else none
  | none => none
theorem seq_rd {k : Kd} (S : Sep X.K X.mg F R H L) (m : (some x, .nd k xs) ∈ L) (hs : seqOf (.nd k xs) = some xs') (hz : isFzL xs' = true) : ∃ p vs, x = .ref p ∧ vs.length = xs'.length ∧ (SqL X.K H p vs ∨ SqT X.K H p vs) ∧ Reps X.K X.mg F vs xs' ∧ (k = .tup → SqT X.K H p vs) ∧ (k ≠ .tup → SqL X.K H p vs) := by
  have e : xs = xs' := by cases k <;> simp only [seqOf, Option.some.injEq] at hs <;> first | exact hs | cases hs
  subst e
  obtain ⟨p, vs, rfl, hl, hc, rs⟩ := S.rds m hz
  cases k with
  | tup => exact ⟨p, vs, rfl, hl, .inr (SqT.of hc), rs, fun _ => SqT.of hc, fun z => absurd rfl z⟩
  | rol => exact ⟨p, vs, rfl, hl, .inl hc, rs, (fun z => nomatch z), fun _ => hc⟩
  | lst o => exact ⟨p, vs, rfl, hl, .inl (SqL.of hc), rs, (fun z => nomatch z), fun _ => SqL.of hc⟩
  | _ => cases hs
theorem seqOf_nd {d : D} {xs : List D} (h : seqOf d = some xs) : ∃ k, d = .nd k xs := by
  match d, h with
  | .nd .tup xs, h => cases h; exact ⟨_, rfl⟩
  | .nd .rol xs, h => cases h; exact ⟨_, rfl⟩
  | .nd (.lst o) xs, h => cases h; exact ⟨_, rfl⟩
theorem ok_list : PrimN X (.type "list") (g1 gList) := pN1 fun F R H L x d r Q S m e hQ => by
  unfold gList at e
  cases e1 : seqOf d with
  | none => rw [e1] at e; cases e
  | some xs =>
    rw [e1] at e
    obtain ⟨k, rfl⟩ := seqOf_nd e1
    dsimp only at e
    split at e
    · rename_i hz
      cases e
      obtain ⟨p, vs, rfl, hl, hs, rs, _⟩ := seq_rd S m e1 hz
      exact ⟨_, call_list_of, p, vs, rfl, hs, fun l hp => hQ _ F _ (Le.refl F) (S.lst rs hp)⟩
    · cases e
def gTuple (d : D) : Option D := match seqOf d with
  | some xs => if isFzL xs then some (.nd .tup xs) else none
  | none => none
theorem ok_tuple : PrimN X (.type "tuple") (g1 gTuple) := pN1 fun F R H L x d r Q S m e hQ => by
  unfold gTuple at e
  cases e1 : seqOf d with
  | none => rw [e1] at e; cases e
  | some xs =>
    rw [e1] at e
    obtain ⟨k, rfl⟩ := seqOf_nd e1
    dsimp only at e
    split at e
    · rename_i hz
      cases e
      obtain ⟨p, vs, rfl, hl, hs, rs, ht, hn⟩ := seq_rd S m e1 hz
      by_cases hk : k = .tup
      · subst hk
        refine ⟨_, call_tuple_of, p, vs, rfl, .inr ⟨ht rfl, hQ _ F H (Le.refl F) (S.add (S.rep_mem m ?_))⟩⟩
        simp only [isFz, Kd.own, hz, Bool.not_false, Bool.and_self]
      · refine ⟨_, call_tuple_of, p, vs, rfl, .inl ⟨hn hk, fun l hp => ?_⟩⟩
        obtain ⟨F', le, S'⟩ := S.tup rs hp
        exact hQ _ F' _ le S'
    · cases e
def intsOf : List D → Option (List Int)
  | [] => some []
  | .int i :: xs => (intsOf xs).map (i :: ·)
  | _ => none
def blsOf : List D → Option (List Bool)
  | [] => some []
  | .bl i :: xs => (blsOf xs).map (i :: ·)
  | _ => none
theorem intsOf_eq : ∀ {xs : List D} {ns : List Int}, intsOf xs = some ns → xs = ns.map D.int
  | [], ns, h => by cases h; rfl
  | x :: xs, ns, h => by
    cases x <;> simp only [intsOf] at h <;> first | (cases h; done) | skip
    rename_i i
    cases e : intsOf xs with
    | none => (rw [e] at h; cases h)
    | some ms => rw [e] at h; cases h; rw [intsOf_eq e]; rfl
theorem blsOf_eq : ∀ {xs : List D} {ns : List Bool}, blsOf xs = some ns → xs = ns.map D.bl
  | [], ns, h => by cases h; rfl
  | x :: xs, ns, h => by
    cases x <;> simp only [blsOf] at h <;> first | (cases h; done) | skip
    rename_i i
    cases e : blsOf xs with
    | none => (rw [e] at h; cases h)
    | some ms => rw [e] at h; cases h; rw [blsOf_eq e]; rfl
theorem reps_ints {K : PySem.W.Frag} {mg : Str → Option Value} : ∀ {ns : List Int} {vs : List V}, Reps K mg F vs (ns.map D.int) → vs = ns.map V.int
  | [], vs, r => by have := r.1; exact List.length_eq_zero_iff.mp this
  | n :: ns, [], r => by have := r.1; cases this
  | n :: ns, v :: vs, r => by
    obtain ⟨d, xs, e, r1, r2⟩ := r.uncons
    rw [List.map_cons] at e
    cases e
    have h : v = .int n := by
      cases r1 with
      | leaf z _ => exact Option.some.inj z
    rw [h, reps_ints r2]; rfl
theorem reps_bls {K : PySem.W.Frag} {mg : Str → Option Value} : ∀ {ns : List Bool} {vs : List V}, Reps K mg F vs (ns.map D.bl) → vs = ns.map V.bl
  | [], vs, r => by have := r.1; exact List.length_eq_zero_iff.mp this
  | n :: ns, [], r => by have := r.1; cases this
  | n :: ns, v :: vs, r => by
    obtain ⟨d, xs, e, r1, r2⟩ := r.uncons
    rw [List.map_cons] at e
    cases e
    have h : v = .bl n := by
      cases r1 with
      | leaf z _ => exact Option.some.inj z
    rw [h, reps_bls r2]; rfl
theorem fz_ints (ns : List Int) : isFzL (ns.map D.int) = true := by
  rw [isFzL_iff]
  intro x hx
  obtain ⟨n, _, rfl⟩ := List.mem_map.mp hx
  rfl
theorem fz_bls (ns : List Bool) : isFzL (ns.map D.bl) = true := by
  rw [isFzL_iff]
  intro x hx
  obtain ⟨n, _, rfl⟩ := List.mem_map.mp hx
  rfl
def lstOf : D → Option (List D)
  | .nd .rol xs => some xs
  | .nd (.lst _) xs => some xs
  | _ => none
def gInts (f : List Int → Option D) (d : D) : Option D := match lstOf d with
  | some xs => match intsOf xs with
    | some ns => f ns
    | none => none
  | none => none
def gBls (f : List Bool → Option D) (d : D) : Option D := match lstOf d with
  | some xs => match blsOf xs with
    | some ns => f ns
    | none => none
  | none => none
theorem ints_rd {f : List Int → Option D} {r : D} (S : Sep X.K X.mg F R H L) (m : (some x, d) ∈ L) (e : gInts f d = some r) : ∃ p ns, x = .ref p ∧ SqL X.K H p (ns.map V.int) ∧ f ns = some r := by
  unfold gInts at e
  cases e1 : lstOf d with
  | none => rw [e1] at e; cases e
  | some xs =>
    rw [e1] at e
    dsimp only at e
    cases e2 : intsOf xs with
    | none => rw [e2] at e; cases e
    | some ns =>
      rw [e2] at e
      have := intsOf_eq e2
      subst this
      have hd : ∃ k, d = .nd k (ns.map D.int) ∧ (k = .rol ∨ ∃ o, k = .lst o) := by
        match d, e1 with
        | .nd .rol xs, h => cases h; exact ⟨_, rfl, .inl rfl⟩
        | .nd (.lst o) xs, h => cases h; exact ⟨_, rfl, .inr ⟨o, rfl⟩⟩
      obtain ⟨k, rfl, hk⟩ := hd
      obtain ⟨p, vs, rfl, hl, hc, rs⟩ := S.rds m (fz_ints ns)
      obtain rfl := reps_ints rs
      refine ⟨p, ns, rfl, ?_, e⟩
      rcases hk with rfl | ⟨o, rfl⟩
      · exact hc
      · exact SqL.of hc
theorem bls_rd {f : List Bool → Option D} {r : D} (S : Sep X.K X.mg F R H L) (m : (some x, d) ∈ L) (e : gBls f d = some r) : ∃ p ns, x = .ref p ∧ SqL X.K H p (ns.map V.bl) ∧ f ns = some r := by
  unfold gBls at e
  cases e1 : lstOf d with
  | none => rw [e1] at e; cases e
  | some xs =>
    rw [e1] at e
    dsimp only at e
    cases e2 : blsOf xs with
    | none => rw [e2] at e; cases e
    | some ns =>
      rw [e2] at e
      have := blsOf_eq e2
      subst this
      have hd : ∃ k, d = .nd k (ns.map D.bl) ∧ (k = .rol ∨ ∃ o, k = .lst o) := by
        match d, e1 with
        | .nd .rol xs, h => cases h; exact ⟨_, rfl, .inl rfl⟩
        | .nd (.lst o) xs, h => cases h; exact ⟨_, rfl, .inr ⟨o, rfl⟩⟩
      obtain ⟨k, rfl, hk⟩ := hd
      obtain ⟨p, vs, rfl, hl, hc, rs⟩ := S.rds m (fz_bls ns)
      obtain rfl := reps_bls rs
      refine ⟨p, ns, rfl, ?_, e⟩
      rcases hk with rfl | ⟨o, rfl⟩
      · exact hc
      · exact SqL.of hc
def gSum : D → Option D := gInts fun ns => some (.int ns.sum)
def gAny : D → Option D := gBls fun ns => some (.bl (ns.any id))
def gAll : D → Option D := gBls fun ns => some (.bl (ns.all id))
def gMaxL : D → Option D := gInts fun ns => ns.max?.map .int
def gMinL : D → Option D := gInts fun ns => ns.min?.map .int
theorem ok_sum (hc : X.calm = true) : PrimN X (.builtin "sum") (g1 gSum) := pN1 fun F R H L x d r Q S m e hQ => by
  obtain ⟨p, ns, rfl, hs, e⟩ := ints_rd S m e
  cases e
  exact ⟨_, cr_sum hc, p, ns, rfl, hs, fin_leaf S hQ rfl⟩
theorem ok_any (hc : X.calm = true) : PrimN X (.builtin "any") (g1 gAny) := pN1 fun F R H L x d r Q S m e hQ => by
  obtain ⟨p, ns, rfl, hs, e⟩ := bls_rd S m e
  cases e
  exact ⟨_, cr_any hc, p, ns, rfl, hs, fin_leaf S hQ rfl⟩
theorem ok_all (hc : X.calm = true) : PrimN X (.builtin "all") (g1 gAll) := pN1 fun F R H L x d r Q S m e hQ => by
  obtain ⟨p, ns, rfl, hs, e⟩ := bls_rd S m e
  cases e
  exact ⟨_, cr_all hc, p, ns, rfl, hs, fin_leaf S hQ rfl⟩
theorem ok_maxL (hc : X.calm = true) : PrimN X (.builtin "max") (g1 gMaxL) := pN1 fun F R H L x d r Q S m e hQ => by
  obtain ⟨p, ns, rfl, hs, e⟩ := ints_rd S m e
  obtain ⟨k, e1, rfl⟩ := Option.map_eq_some_iff.mp e
  refine ⟨_, cr_max hc, p, ns, rfl, hs, ?_, fun m hm hle => fin_leaf S hQ ?_⟩
  · cases ns with
    | nil => cases e1
    | cons => exact Nat.succ_pos _
  · obtain ⟨h1, h2⟩ := List.max?_eq_some_iff.mp e1
    have : m = k := Int.le_antisymm (h2 m hm) (hle k h1)
    rw [this]; rfl
theorem ok_minL (hc : X.calm = true) : PrimN X (.builtin "min") (g1 gMinL) := pN1 fun F R H L x d r Q S m e hQ => by
  obtain ⟨p, ns, rfl, hs, e⟩ := ints_rd S m e
  obtain ⟨k, e1, rfl⟩ := Option.map_eq_some_iff.mp e
  refine ⟨_, cr_min hc, p, ns, rfl, hs, ?_, fun m hm hle => fin_leaf S hQ ?_⟩
  · cases ns with
    | nil => cases e1
    | cons => exact Nat.succ_pos _
  · obtain ⟨h1, h2⟩ := List.min?_eq_some_iff.mp e1
    have : m = k := Int.le_antisymm (hle k h1) (h2 m hm)
    rw [this]; rfl
end
end PI
set_option maxHeartbeats 3900000
namespace PI
open L2 PySem PyProof.Rows PySem.Spec
variable [Tb]
section
variable {X : Cx} {F F' F1 H H' H1 : Hp} {R : Rv} {σ σ' σ1 : L2.St} {en en' : List D} {T T' : List (Option V × D)} {vs : List V} {os : List Op} {v x y : V} {o : Op} {d : D} {i j : Nat} {W : WX} {Q : VK} {pr : List Nat} {De : Ends} {pos : Pos} {xs : List D}
def uP (X : Cx) (σ : L2.St) (H : Hp) (e : Option Expr) (Q : Option Int → Hp → Prop) : Prop := ∀ pins s, Inv X pins σ H s → wpAny (model X.prog X.w) X.A (evalPart e X.env) (fun u s' => ∃ o H', Inv X pins σ H' s' ∧ IsPart u o ∧ Q o H') X.xe s
theorem uP.po (X : Cx) (e : Option Expr) : PO X e (fun σ H Q => uP X σ H e Q) := ⟨fun pins s σ H Q I h => h pins s I⟩
structure DPart (X : Cx) (e : Option Expr) (f : M (Option Int)) : Prop where
  run : ∀ (W : WX) (F : Hp) (R : Rv) (H : Hp) (σ : L2.St) (en : List D) (Q : Option Int → Hp → Prop), Takes X W → SepE X F R H σ en [] → wpO (f en) (fun p en' => ∀ H' F', Le F F' → SepE X F' R H' σ en' [] → Q p H') (PXc X W F R σ) → uP X σ H e Q
def dNoPart : M (Option Int) := rt none
def dPart (f : M Op) : M (Option Int) := bd f fun o => fun en => match res en o with
  | .int i => .ok (some i) en
  | _ => .st
theorem dp_none : DPart X none dNoPart := ⟨fun W F R H σ en Q tk S h pins s I => po_none.run pins s σ H Q I (h H F (Le.refl F) S)⟩
theorem dp_some {e : Expr} {f : M Op} (h1 : DO X e f) : DPart X (some e) (dPart f) := by
  refine ⟨fun W F R H σ en Q tk S h pins s I => (po_some (uE.pe X e)).run pins s σ H Q I ?_⟩
  show uE X σ H e fun x H1 => ∃ i, x = .int i ∧ Q (some i) H1
  unfold dPart at h
  rw [wpO_bd] at h
  refine h1.run W F R H σ en _ tk S (wpO_mono h (fun o en' h v H' F' le S' => ?_) fun _ _ _ _ q => q)
  have m := mem1 S'
  revert h m
  cases res en' o with
  | int i => exact fun h m => ⟨i, S'.2.sep.int m, h H' F' le S'.2.clear⟩
  | _ => exact fun h _ => h.elim
def PrimSl (X : Cx) (g : D → Option Int → Option Int → Option D) : Prop := ∀ (F : Hp) (R : Rv) (H : Hp) (L : List (Option V × D)) (x : V) (d r : D) (lo hi : Option Int) (Q : VK), Sep X.K X.mg F R H L → (some x, d) ∈ L → g d lo hi = some r →
  (∀ v F' H', Le F F' → Sep X.K X.mg F' R H' ((some v, r) :: L) → Q v H') → ∃ rr, SlR X rr ∧ rr x lo hi H Q
def dSl (g : D → Option Int → Option Int → Option D) (fa : M Op) (fl fh : M (Option Int)) : M Op := bd fa fun a => bd fl fun lo => bd fh fun hi => fun en => ofO ((g (res en a) lo hi).map Op.v) en
theorem do_sl {g : D → Option Int → Option Int → Option D} {a : Expr} {lo hi : Option Expr} {fa : M Op} {fl fh : M (Option Int)} {p2 : Pos} (hg : PrimSl X g) (h1 : DO X a fa) (h2 : DPart X lo fl) (h3 : DPart X hi fh) : DO X (.Subscript a (.Slice lo hi none p2) pos) (dSl g fa fl fh) := by
  refine ⟨fun W F R H σ en Q tk S h => uE.of (pe_slice (r := fun x lo hi H Q => ∃ rr, SlR X rr ∧ rr x lo hi H Q) (fun pins s σ H x v vl vu lo hi sl Q I rx hs pl pu ⟨rr, ho, q⟩ => ho pins s σ H x v vl vu lo hi sl Q I rx hs pl pu q) (uE.pe X a) (uP.po X lo) (uP.po X hi)) ?_⟩
  unfold dSl at h
  rw [wpO_bd] at h
  show uE X σ H a fun x H1 => uP X σ H1 lo fun l H2 => uP X σ H2 hi fun u H3 => ∃ rr, SlR X rr ∧ rr x l u H3 Q
  refine h1.run W F R H σ en _ tk S (wpO_mono h (fun oa en1 h x H1 F1 le1 S1 => ?_) fun _ _ _ _ q => q)
  obtain ⟨R', S2, back⟩ := S1.2.lend
  rw [wpO_bd] at h
  refine h2.run W F1 R' H1 σ en1 _ tk S2 (wpO_mono h (fun l en2 h H2 F2 le2 S3 => ?_) fun c ns xs en2 q C dx H' F' le m xd S' => q C dx H' F' (le1.trans le) m xd (back F' H' σ _ [] le S').clear)
  rw [wpO_bd] at h
  refine h3.run W F2 R' H2 σ en2 _ tk S3 (wpO_mono h (fun u en3 h H3 F3 le3 S4 => ?_) fun c ns xs en2 q C dx H' F' le m xd S' => q C dx H' F' (le1.trans (le2.trans le)) m xd (back F' H' σ _ [] (le2.trans le) S').clear)
  have S5 : OpsS X F3 R H3 σ en3 [x] [oa] := ⟨S1.1, by have := back F3 H3 σ en3 [] (le2.trans le3) S4; rwa [List.append_nil] at this⟩
  have m := mem1 S5
  cases e : g (res en3 oa) l u with
  | none => simp only [e, Option.map_none, ofO_none] at h; exact h.elim
  | some r =>
    simp only [e, Option.map_some, ofO_some] at h
    exact hg F3 R H3 _ x _ r l u Q S5.2.sep m e fun v F' H' le' S' => h v H' F' (le1.trans (le2.trans (le3.trans le'))) (made S5.2.len S')
def cutG {α : Type} (xs : List α) (lo hi : Option Int) : List α := (xs.drop (HT.sIx xs.length 0 lo)).take (HT.sIx xs.length xs.length hi - HT.sIx xs.length 0 lo)
def gSl (d : D) (lo hi : Option Int) : Option D := match d with
  | .str z => if z.length ≤ sizeLine then some (.str (cutS z lo hi)) else none
  | .nd .tup xs => if isFzL xs then some (.nd .tup (cutG xs lo hi)) else none
  | .nd .rol xs => if isFzL xs then some (.nd (.lst true) (cutG xs lo hi)) else none
  | .nd (.lst _) xs => if isFzL xs then some (.nd (.lst true) (cutG xs lo hi)) else none
  | _ => none
theorem Reps.drop {K : PySem.W.Frag} {mg : Str → Option Value} : ∀ {n : Nat} {vs : List V} {xs : List D}, Reps K mg F vs xs → Reps K mg F (vs.drop n) (xs.drop n)
  | 0, _, _, r => r
  | n + 1, [], [], r => r
  | n + 1, [], x :: xs, r => by have := r.1; cases this
  | n + 1, v :: vs, xs, r => by
    obtain ⟨d, xs', rfl, _, r2⟩ := r.uncons
    exact r2.drop
theorem Reps.take {K : PySem.W.Frag} {mg : Str → Option Value} : ∀ {n : Nat} {vs : List V} {xs : List D}, Reps K mg F vs xs → Reps K mg F (vs.take n) (xs.take n)
  | 0, _, _, r => Reps.nil
  | n + 1, [], [], r => r
  | n + 1, [], x :: xs, r => by have := r.1; cases this
  | n + 1, v :: vs, xs, r => by
    obtain ⟨d, xs', rfl, r1, r2⟩ := r.uncons
    exact Reps.cons r1 r2.take
theorem reps_cut {K : PySem.W.Frag} {mg : Str → Option Value} {lo hi : Option Int} {vs : List V} {xs : List D} (r : Reps K mg F vs xs) : Reps K mg F (cutV vs lo hi) (cutG xs lo hi) := by
  unfold cutV cutG
  rw [r.1]
  exact r.drop.take
theorem ok_sl : PrimSl X gSl := by
  intro F R H L x d r lo hi Q S m e hQ
  unfold gSl at e
  split at e
  · split at e
    · cases e
      obtain rfl := S.str m
      exact ⟨_, sl_str, _, rfl, by assumption, fin_leaf S hQ rfl⟩
    · cases e
  · rename_i xs
    split at e
    · rename_i hz
      cases e
      obtain ⟨p, vs, rfl, hl, hs, rs, ht, _⟩ := seq_rd S m rfl hz
      refine ⟨_, sl_tupA, p, vs, rfl, ht rfl, fun hw => ?_, fun _ q hq => ?_⟩
      · have e : cutG xs lo hi = xs := by
          unfold cutG
          rw [← hl, hw.1, hw.2, hl]
          simp
        rw [e] at hQ
        exact hQ _ F H (Le.refl F) (S.add (S.rep_mem m (by simp only [isFz, Kd.own, hz, Bool.not_false, Bool.and_self])))
      · obtain ⟨F', le, S'⟩ := S.tup (reps_cut rs) hq
        exact hQ _ F' _ le S'
    · cases e
  · rename_i xs
    split at e
    · rename_i hz
      cases e
      obtain ⟨p, vs, rfl, hl, hs, rs, _, ht⟩ := seq_rd S m rfl hz
      exact ⟨_, sl_list, p, vs, rfl, ht (fun z => nomatch z), fun q hq => hQ _ F _ (Le.refl F) (S.lst (reps_cut rs) hq)⟩
    · cases e
  · rename_i xs
    split at e
    · rename_i hz
      cases e
      obtain ⟨p, vs, rfl, hl, hs, rs, _, ht⟩ := seq_rd S m rfl hz
      exact ⟨_, sl_list, p, vs, rfl, ht (fun z => nomatch z), fun q hq => hQ _ F _ (Le.refl F) (S.lst (reps_cut rs) hq)⟩
    · cases e
  · cases e
def flatD : D → Bool
  | .non => true
  | .bl _ => true
  | .int _ => true
  | .str _ => true
  | _ => false
def inL (xs : List D) (d : D) : Bool := (toPyL xs).any fun z => PyData.eqv z (toPy d)
def isIn (d e : D) : Option Bool := match e with
  | .nd .tup xs => if flatD d && xs.all flatD then some (inL xs d) else none
  | .nd .rol xs => if plain 60 d && plainL 59 xs then some (inL xs d) else none
  | .nd (.lst _) xs => if plain 60 d && plainL 59 xs then some (inL xs d) else none
  | .str z => match d with
    | .str i => some (!(Builtin.Str.occurrences z i 0 z.length 1).isEmpty)
    | _ => none
  | _ => none
def gIn (d e : D) : Option D := (isIn d e).map .bl
def gNotIn (d e : D) : Option D := (isIn d e).map fun b => .bl (!b)
theorem flat_V {K : PySem.W.Frag} {mg : Str → Option Value} {L : List (Option V × D)} (S : Sep K mg F R H L) (m : (some x, d) ∈ L) (h : flatD d = true) : flatV x = true ∧ (∀ y e, flatD e = true → (some y, e) ∈ L → eqV y x = PyData.eqv (toPy e) (toPy d)) := by
  have key : ∀ {x : V} {d : D}, (some x, d) ∈ L → flatD d = true → (x = .non ∧ d = .non) ∨ (∃ b, x = .bl b ∧ d = .bl b) ∨ (∃ b, x = .int b ∧ d = .int b) ∨ (∃ b, x = .str b ∧ d = .str b) := fun {x d} m h => by
    cases d <;> first | (exact absurd h Bool.false_ne_true) | skip
    · exact .inl ⟨S.non m, rfl⟩
    · exact .inr (.inl ⟨_, S.bl m, rfl⟩)
    · exact .inr (.inr (.inl ⟨_, S.int m, rfl⟩))
    · exact .inr (.inr (.inr ⟨_, S.str m, rfl⟩))
  rcases key m h with ⟨rfl, rfl⟩ | ⟨b, rfl, rfl⟩ | ⟨b, rfl, rfl⟩ | ⟨b, rfl, rfl⟩ <;> refine ⟨rfl, fun y e he m2 => ?_⟩ <;> rcases key m2 he with ⟨rfl, rfl⟩ | ⟨b, rfl, rfl⟩ | ⟨b, rfl, rfl⟩ | ⟨b, rfl, rfl⟩ <;> rfl
theorem flat_Vs {K : PySem.W.Frag} {mg : Str → Option Value} {L : List (Option V × D)} (S : Sep K mg F R H L) (m : (some x, d) ∈ L) (h : flatD d = true) : ∀ {vs : List V} {xs : List D}, Reps K mg F vs xs → xs.all flatD = true → vs.all flatV = true ∧ inV x vs = inL xs d
  | [], [], r, _ => ⟨rfl, rfl⟩
  | [], x :: xs, r, _ => by have := r.1; cases this
  | v :: vs, ds, r, hf => by
    obtain ⟨e, xs, rfl, r1, r2⟩ := r.uncons
    rw [List.all_cons] at hf
    rw [Bool.and_eq_true] at hf
    have S' := S.add r1
    obtain ⟨a1, a2⟩ := flat_Vs S m h r2 hf.2
    obtain ⟨b1, b2⟩ := flat_V S' (List.mem_cons_of_mem _ m) h
    obtain ⟨c1, _⟩ := flat_V S' List.mem_cons_self hf.1
    refine ⟨by rw [List.all_cons, c1, a1]; rfl, ?_⟩
    show (eqV v x || inV x vs) = (PyData.eqv (toPy e) (toPy d) || inL xs d)
    rw [a2, b2 v e hf.1 List.mem_cons_self]
theorem flat_fz {xs : List D} (h : xs.all flatD = true) : isFzL xs = true := by
  rw [isFzL_iff]
  intro x hx
  have := List.all_eq_true.mp h x hx
  cases x <;> first | rfl | cases this
theorem in_run (hu : X.A.units + 65 < cLine) {dx dy : D} {b : Bool} (S : Sep X.K X.mg F R H L) (m1 : (some x, dx) ∈ L) (m2 : (some y, dy) ∈ L) (e : isIn dx dy = some b) : (∃ rr, OpR X (compareOp .In) rr ∧ ∀ Q : VK, Q (.bl b) H → rr x y H Q) ∧ (∃ rr, OpR X (compareOp .NotIn) rr ∧ ∀ Q : VK, Q (.bl (!b)) H → rr x y H Q) := by
  have lists : ∀ k xs, dy = .nd k xs → (k = .rol ∨ ∃ o, k = .lst o) → (if plain 60 dx && plainL 59 xs then some (inL xs dx) else none) = some b → (∃ rr, OpR X (compareOp .In) rr ∧ ∀ Q : VK, Q (.bl b) H → rr x y H Q) ∧ (∃ rr, OpR X (compareOp .NotIn) rr ∧ ∀ Q : VK, Q (.bl (!b)) H → rr x y H Q) := fun k xs ed hk h9 => by
    subst ed
    split at h9
    · rename_i hp
      rw [Bool.and_eq_true] at hp
      cases h9
      obtain ⟨p1, s1⟩ := S.dp m1 hp.1
      have h2 : plain 60 (.nd k xs) = true := by
        rcases hk with rfl | ⟨o, rfl⟩ <;> exact hp.2
      obtain ⟨p2, s2⟩ := S.dp m2 h2
      have e2 : toPy (.nd k xs) = .list (toPyL xs) := by rcases hk with rfl | ⟨o, rfl⟩ <;> rfl
      rw [e2] at p2 s2
      exact ⟨⟨_, op_inD hu, fun Q q => ⟨_, _, p1, p2, s1, s2, q⟩⟩, ⟨_, op_notInD hu, fun Q q => ⟨_, _, p1, p2, s1, s2, q⟩⟩⟩
    · cases h9
  unfold isIn at e
  split at e
  · rename_i xs
    split at e
    · rename_i hp
      rw [Bool.and_eq_true] at hp
      cases e
      obtain ⟨p, vs, rfl, hl, hs, rs, _⟩ := seq_rd S m2 rfl (flat_fz hp.2)
      obtain ⟨a1, a2⟩ := flat_Vs S m1 hp.1 rs hp.2
      obtain ⟨b1, _⟩ := flat_V S m1 hp.1
      refine ⟨⟨_, op_in_seq, fun Q q => ⟨p, vs, rfl, hs, b1, a1, ?_⟩⟩, ⟨_, op_notIn_seq, fun Q q => ⟨p, vs, rfl, hs, b1, a1, ?_⟩⟩⟩
      · rw [a2]; exact q
      · rw [a2]; exact q
    · cases e
  · exact lists _ _ rfl (.inl rfl) e
  · exact lists _ _ rfl (.inr ⟨_, rfl⟩) e
  · split at e
    · cases e
      exact ⟨⟨_, op_in_str, fun Q q => ⟨_, _, S.str m1, S.str m2, q⟩⟩, ⟨_, op_notIn_str, fun Q q => ⟨_, _, S.str m1, S.str m2, q⟩⟩⟩
    · cases e
  · cases e
theorem ok_in (hu : X.A.units + 65 < cLine) : Prim2 X (compareOp .In) gIn := fun F R H L x y dx dy r Q S m1 m2 e hQ => by
  obtain ⟨b, e1, rfl⟩ := Option.map_eq_some_iff.mp e
  obtain ⟨⟨rr, ho, q⟩, _⟩ := in_run hu S m1 m2 e1
  exact ⟨rr, ho, q _ (fin_leaf S hQ rfl)⟩
theorem ok_notIn (hu : X.A.units + 65 < cLine) : Prim2 X (compareOp .NotIn) gNotIn := fun F R H L x y dx dy r Q S m1 m2 e hQ => by
  obtain ⟨b, e1, rfl⟩ := Option.map_eq_some_iff.mp e
  obtain ⟨_, rr, ho, q⟩ := in_run hu S m1 m2 e1
  exact ⟨rr, ho, q _ (fin_leaf S hQ rfl)⟩
/-- what a value is of: a built-in type or a class of the program, by name -/
abbrev Tag := String ⊕ Str
def tagOf : D → Option Tag
  | .non => some (.inl "NoneType")
  | .bl _ => some (.inl "bool")
  | .int _ => some (.inl "int")
  | .str _ => some (.inl "str")
  | .nd .tup _ => some (.inl "tuple")
  | .nd (.lst _) _ => some (.inl "list")
  | .nd (.dk _ _) _ => some (.inl "dict")
  | .nd (.dt _ _) _ => some (.inl "dict")
  | .nd (.ob _ c _) _ => some (.inr c)
  | _ => none
def clsOf : D → Option Tag
  | .ty n => some (.inl n)
  | .fn c => some (.inr c)
  | _ => none
def TagV (X : Cx) : Tag → Value → Prop
  | .inl n, v => v = .type n
  | .inr c, v => ∃ C, X.mg c = some (.ref C) ∧ v = .ref C
/-- the table of isinstance is right -/
def IsiOk (X : Cx) (tb : Tag → Tag → Option Bool) : Prop := ∀ t u b, tb t u = some b → ∀ tv uv, TagV X t tv → TagV X u uv → PySem.W.kitOne X.K tv uv = some b
/-- a class whose things isinstance can see -/
def SeenCls (K : PySem.W.Frag) (C : Addr) : Prop := Cls K C ∧ PySem.W.findIn K (.ref C) "__class__" = some (some (.builtin "object.__class__")) ∧ PySem.W.specialIn K (.builtin "object.__class__") "__get__" = some (some (.builtin "getset_descriptor.__get__")) ∧ PySem.W.takesIn K (.builtin "object.__class__") = some true ∧ PySem.W.mroIn K C (.type "object") = some true
/-- the classes in cs can be seen -/
def Seen (X : Cx) (cs : List Str) : Prop := ∀ c ∈ cs, ∀ C, X.mg c = some (.ref C) → SeenCls X.K C
def gIsi (tb : Tag → Tag → Option Bool) (d e : D) : Option D := match tagOf d, clsOf e with
  | some t, some u => (tb t u).map .bl
  | _, _ => none
theorem cls_V {K : PySem.W.Frag} {mg : Str → Option Value} {L : List (Option V × D)} {u : Tag} (S : Sep K mg F R H L) (m : (some x, d) ∈ L) (e : clsOf d = some u) : ∃ uv, ClsV x uv ∧ (match u with | .inl n => uv = .type n | .inr c => ∃ C, mg c = some (.ref C) ∧ uv = .ref C) := by
  match d, m, e with
  | .ty n, m, e => cases e; obtain rfl := S.ty m; exact ⟨_, .ty n, rfl⟩
  | .fn c, m, e =>
    cases e
    obtain ⟨A, f, _⟩ := (S.get m).fo
    have : ∃ a, mg c = some (.ref a) ∧ some x = some (.ref a) := by
      cases f with
      | leaf z _ => exact z
    obtain ⟨a, e1, e2⟩ := this
    cases e2
    exact ⟨_, .own a, a, e1, rfl⟩
theorem ok_isi {tb : Tag → Tag → Option Bool} {cs : List Str} (ht : IsiOk X tb) (hs : Seen X cs) (hcs : ∀ c u b, tb (.inr c) u = some b → c ∈ cs) : PrimN X (.builtin "isinstance") (g2 (gIsi tb)) := pN2 fun F R H L x y d e r Q S m1 m2 h hQ => by
  unfold gIsi at h
  cases e1 : tagOf d with
  | none => rw [e1] at h; cases h
  | some t =>
    cases e2 : clsOf e with
    | none => rw [e1, e2] at h; cases h
    | some u =>
      rw [e1, e2] at h
      obtain ⟨b, e3, rfl⟩ := Option.map_eq_some_iff.mp h
      obtain ⟨uv, cv, tu⟩ := cls_V S m2 e2
      have tu' : TagV X u uv := by cases u <;> exact tu
      have ty : ∃ tv, TyX X.K H x tv ∧ TagV X t tv := by
        have look : ∀ k xs, d = .nd k xs → ∃ p vs, x = .ref p ∧ Cont X.K X.mg H k.frz p vs := fun k xs ed => by
          subst ed
          obtain ⟨p, vs, e, _, hc, _⟩ := S.rd m1
          exact ⟨p, vs, e, hc⟩
        match d, m1, e1, look with
        | .non, m1, e1, _ => cases e1; obtain rfl := S.non m1; exact ⟨_, .base .non, rfl⟩
        | .bl b, m1, e1, _ => cases e1; obtain rfl := S.bl m1; exact ⟨_, .base (.bl b), rfl⟩
        | .int b, m1, e1, _ => cases e1; obtain rfl := S.int m1; exact ⟨_, .base (.int b), rfl⟩
        | .str b, m1, e1, _ => cases e1; obtain rfl := S.str m1; exact ⟨_, .base (.str b), rfl⟩
        | .nd .tup xs, m1, e1, lk =>
          cases e1
          obtain ⟨p, vs, rfl, hc⟩ := lk _ _ rfl
          exact ⟨_, .base (.tup hc), rfl⟩
        | .nd (.lst o) xs, m1, e1, lk =>
          cases e1
          obtain ⟨p, vs, rfl, hc⟩ := lk _ _ rfl
          exact ⟨_, .base (.lst hc), rfl⟩
        | .nd (.dk o ks) xs, m1, e1, lk =>
          cases e1
          obtain ⟨p, vs, rfl, hc⟩ := lk _ _ rfl
          exact ⟨_, .base (.dK hc.1), rfl⟩
        | .nd (.dt o ks) xs, m1, e1, lk =>
          cases e1
          obtain ⟨p, vs, rfl, hc⟩ := lk _ _ rfl
          exact ⟨_, .base (.dT hc.1), rfl⟩
        | .nd (.ob o c ns) xs, m1, e1, lk =>
          cases e1
          obtain ⟨p, vs, rfl, C, dx, hC, hc, _⟩ := lk _ _ rfl
          obtain ⟨c1, c2, c3, c4, c5⟩ := hs c (hcs c u b e3) C hC
          exact ⟨_, .base (.ins hc c1 c2 c3 c4 c5), C, hC, rfl⟩
      obtain ⟨tv, tx, tt⟩ := ty
      exact ⟨_, call_isi, ⟨x, y, tv, uv, b, rfl, cv, tx, ht t u b e3 tv uv tt tu', fin_leaf S hQ rfl⟩⟩
end
end PI
set_option maxHeartbeats 3900000
namespace PI
open L2 PySem PyProof.Rows PySem.Spec
variable [Tb]
/-- the def at the address a is worth f -/
structure Ga (P : Program) (w : World) (K : PySem.W.Frag) (mg : Str → Option Value) (base : Heap) (a : Addr) (k n : Nat) (ms : List Bool) (f : List D → OF) : Prop where
  ex : ∃ fd ps, Binds K fd ps [] ∧ FnOk P w K mg base (L2.CX P w) k a fd ps (spOf K mg n ms f)
section
variable {base : Heap} {K : PySem.W.Frag} {P : Program} {mg : Str → Option Value} {w : World}
theorem ga_of {x qual : Str} {st : Stmt} {a : Addr} {fd : FuncData} {N ps : List Str} {k : Nat} {ms : List Bool} {g : M Fl} (Fn : Fun K x qual st a fd) (Sc : FnScope N ps (defScope st)) (hb : Binds K fd ps []) (hle : ps.length ≤ N.length := by decide)
    (body : ∀ (cdv : Value) (A : Around) (outer : List Env) (s : Shared) (H : Hp) (E : XK), Room k (A.deeper (envOfC qual (defScope st) s.heap.objs.size a cdv)) → DSs (cxOf (L2.CX P w) P w K mg base N qual (defScope st) a cdv A outer s H E) (posOf 0 ms) (defBody st) g) :
    Ga P w K mg base a (k + 1) ps.length ms (fden g N.length ms) := by
  refine ⟨fd, ps, hb, Fn.okX Sc (fun vs H Q E h => h.1) fun cdv A outer s H vs Q E hr h => ?_⟩
  obtain ⟨hn, F, R, ds, hl, S, h⟩ := h
  refine ⟨_, uSs.pss _ _, ?_⟩
  have B := body cdv A outer s H E hr
  generalize hX : cxOf (L2.CX P w) P w K mg base N qual (defScope st) a cdv A outer s H E = X at B
  have tk : Takes X (fun cls d _ H => E cls d H) := by subst hX; exact takes_of rfl rfl rfl rfl
  have eK : X.K = K := by subst hX; rfl
  have eM : X.mg = mg := by subst hX; rfl
  have eN : X.N = N := by subst hX; rfl
  have e0 : L2.start N vs = vs.map some ++ List.replicate (N.length - ds.length) none := by unfold L2.start; rw [hl]
  have S0 : SepE X F R H (L2.start N vs) (ds ++ List.replicate (N.length - ds.length) .un) [] := by
    refine ⟨by rw [e0]; simp [hl], ?_⟩
    rw [eK, eM, e0, List.nil_append, List.zip_append (by simp [hl])]
    obtain ⟨A', f, nn, q⟩ := S.fo
    exact ⟨S.fh, S.rh, S.rf, S.nf, S.nr, S.tb, A', by have := f.app (fo_un (K := K) (mg := mg) (F := F) (H := H) (List.replicate (N.length - ds.length) none) (N.length - ds.length)); rwa [List.append_nil] at this, nn, q⟩
  have at0 : ∀ i v, vs[i]? = some v → (L2.start N vs)[i]? = some (some v) := fun i v h => by
    rw [e0, List.getElem?_append_left (by rw [List.length_map]; exact (List.getElem?_eq_some_iff.mp h).1), List.getElem?_map, h]
    rfl
  have fin : ∀ {σ' H' F' en T}, Le F F' → Keep (posOf 0 ms) (L2.start N vs) σ' → SepE X F' R H' σ' en T → Sep K mg F' R H' (T ++ backL ms vs ((posOf 0 ms).map fun i => en.getD i .un)) := fun {σ' H' F' en T} le kk S' => by
    obtain ⟨en2, S2⟩ := select (ms := ms) (vs := vs) (j := 0) (fun i v hv hi => by rw [Nat.zero_add] at hi ⊢; rw [kk.2 i hi]; exact at0 i v hv) S'
    have := S2.sep.left
    rw [eK, eM] at this
    exact this.perm List.perm_append_comm
  refine B.run _ F R H (L2.start N vs) _ _ tk S0 ?_
  unfold fden at h
  cases e : g (ds ++ List.replicate (N.length - ds.length) .un) with
  | st => rw [e] at h; exact h.elim
  | ex c ns xs en =>
    rw [e] at h
    intro C dx σ' H' F' le m kk xd S'
    rw [eK, eM] at xd
    rw [eM] at m
    exact h C dx H' F' le m xd (fin (T := []) le kk S')
  | ok fl en =>
    rw [e] at h
    cases fl with
    | nx => exact fun σ' H' F' le kk S' => h .non H' F' le (Sep.add (fin (T := []) le kk S') (leaf_rep rfl))
    | rt d => exact fun v σ' H' F' le kk S' => h v H' F' le (fin (T := [(some v, d)]) le kk S')
    | bk => exact h.elim
    | ct => exact h.elim
theorem Ga.gf {x : Str} {a : Addr} {k n : Nat} {ms : List Bool} {f : List D → OF} (G : Ga P w K mg base a k n ms f) (hm : mg x = some (.ref a)) (hk : PySem.W.keepIn K (.ref a) = true) : Gf P w K mg base x k n ms f := by
  obtain ⟨fd, ps, h1, h2⟩ := G.ex
  exact ⟨a, fd, ps, hm, hk, h1, h2⟩
end
section
variable {X : Cx} {F F' F1 H H' H1 : Hp} {R : Rv} {σ σ' σ1 : L2.St} {en en' : List D} {T T' : List (Option V × D)} {vs : List V} {os : List Op} {v x y : V} {o : Op} {d : D} {i j : Nat} {W : WX} {Q : VK} {pr : List Nat} {De : Ends} {pos : Pos} {xs : List D}
theorem do_call0 {k : Nat} {f : List D → OF} {x : Str} {p : Pos} (G : Gf X.prog X.w X.K X.mg X.base x k 0 [] f) (hr : Room k X.A) (hg : Gl X x) (hdb : (x == ("__debug__" : Str)) = false := by decide) : DO X (.Call (.Name x p) [] [] pos) (dCall [] f dNil) := by
  refine ⟨fun W F R H σ en Q tk S h pins s I => ?_⟩
  obtain ⟨a, fd, ps, hm, hk, hb, Fn⟩ := G.ex
  have key : spOf X.K X.mg 0 [] f [] H Q (fun c dx H' => W c dx σ H') := sp_here (os := []) (en2 := en) rfl (Le.refl F) (⟨trivial, S⟩ : OpsS X F R H σ en [] []) h
  refine wpAny_Call_Name_kw (ld_glob (X := X) I hg hm ?_ hdb)
  exact PySem.W.callWith_K0 I.kIn hk (run_fnW (us := []) Fn hr hb tk I .nil key)
def dMake (c : Str) (ms : List Bool) (f : List D → OF) (fa : M (List Op)) : M Op := bd fa fun os => fun en =>
  match f (.nd (.ob true c []) [] :: (pass ms os en).1) with
  | .ok .non (b :: bk) => .ok (.v b) (give ms os bk (pass ms os en).2)
  | .ex c ns xs (_ :: bk) => .ex c ns xs (give ms os bk (pass ms os en).2)
  | _ => .st
/-- the class c can be made, with the __init__ at a -/
structure MkOk (K : PySem.W.Frag) (mg : Str → Option Value) (c : Str) (a : Addr) : Prop where
  ex : ∃ C, mg c = some (.ref C) ∧ L2.Mk K C a
theorem make_here {n : Nat} {ms : List Bool} {f : List D → OF} {c : Str} {C : Addr} {en2 : List D} {F2 H2 : Hp} (hn : os.length = n) (hC : X.mg c = some (.ref C)) (le : Le F F2) (S2 : OpsS X F2 R H2 σ en2 vs os)
    (h : wpO (match f (.nd (.ob true c []) [] :: (pass ms os en2).1) with | .ok .non (b :: bk) => (.ok (.v b) (give ms os bk (pass ms os en2).2) : O Op) | .ex c ns xs (_ :: bk) => .ex c ns xs (give ms os bk (pass ms os en2).2) | _ => .st) (PVo X F R σ Q) (PXc X W F R σ))
    (x dx : Addr) (hx : H2 x = none) (hd : H2 dx = none) (hne : dx ≠ x) :
    spOf X.K X.mg (n + 1) (true :: ms) f (.ref x :: vs) (upd (upd H2 dx (.own x)) x (.ins C dx [])) (fun v H2 => v = .non ∧ Q (.ref x) H2) (fun c dx H' => W c dx σ H') := by
  obtain ⟨F3, le3, S3, hl⟩ := pass_ok (ms := ms) (T := []) S2.1 (by rw [List.append_nil]; exact S2.2)
  have S4 : Sep X.K X.mg F3 R H2 (kids vs (pass ms os en2).1 ++ σ.zip (pass ms os en2).2) := by have := S3.sep; rwa [List.append_nil] at this
  have S5 := S4.junk (o := .own x) hd
  have hx2 : upd H2 dx (.own x) x = none := by rw [upd_ne (Ne.symm hne)]; exact hx
  have S6 : Sep X.K X.mg F3 R (upd (upd H2 dx (.own x)) x (.ins C dx [])) ((some (.ref x), .nd (.ob true c []) []) :: (kids vs (pass ms os en2).1 ++ σ.zip (pass ms os en2).2)) :=
    Sep.new (k := .ob true c []) (vs := []) (xs := []) S5 hx2 rfl rfl ⟨C, dx, hC, upd_same, rfl⟩
  obtain ⟨R', S7, back⟩ := Sep.lend (L1 := kids (.ref x :: vs) (.nd (.ob true c []) [] :: (pass ms os en2).1)) (L2 := σ.zip (pass ms os en2).2) S6
  refine ⟨by simp [S2.1.len, hn], F3, R', _, by simp [hl], S7, ?_⟩
  revert h
  cases e : f (.nd (.ob true c []) [] :: (pass ms os en2).1) with
  | st => exact fun h => h.elim
  | ok d bk =>
    cases d with
    | non =>
      cases bk with
      | nil => exact fun h => h.elim
      | cons b bk =>
        intro h v H' F' le' S'
        refine ⟨S'.non List.mem_cons_self, ?_⟩
        refine h (.ref x) H' F' (le.trans (le3.trans le')) ⟨trivial, ?_⟩
        have := back F' H' _ le' S'
        refine give_ok (ms := ms) (bk := bk) (T := [(some (.ref x), b)]) S2.1 ?_
        have S8 : SepE X F' R H' σ (pass ms os en2).2 ((some (.ref x), b) :: backL ms vs bk) := ⟨S3.len, Sep.tail this⟩
        exact S8.perm (List.perm_append_singleton _ _).symm
    | _ => exact fun h => h.elim
  | ex c ns xs bk =>
    cases bk with
    | nil => exact fun h => h.elim
    | cons b bk =>
      intro h C' dx' H' F' le' m xd S'
      refine h C' dx' H' F' (le.trans (le3.trans le')) m xd ?_
      have := back F' H' _ le' S'
      have S8 : SepE X F' R H' σ (pass ms os en2).2 (backL ms vs bk) := ⟨S3.len, Sep.tail this⟩
      exact give_ok (ms := ms) (bk := bk) (T := []) S2.1 (by rw [List.append_nil]; exact S8)
theorem run_makeW {k : Nat} {f C : Addr} {fd : FuncData} {ps : List Str} {sp : Sp} {pins : List (Addr × Obj)} {s : Shared} {us : List Value} (Mk' : L2.Mk X.K C f) (Fn : FnOk X.prog X.w X.K X.mg X.base (L2.CX X.prog X.w) k f fd ps sp) (hr : Room (k + 1) X.A) (hb : Binds X.K fd ps []) (tk : Takes X W)
    (I : Inv X pins σ H s) (r : Vals vs us) (h : ∀ x dx, H x = none → H dx = none → dx ≠ x → sp (.ref x :: vs) (upd (upd H dx (.own x)) x (.ins C dx [])) (fun v H2 => v = .non ∧ Q (.ref x) H2) (fun c dx H' => W c dx σ H')) :
    wpAny (model X.prog X.w) X.A (call (Value.ref C) us) (EP X pins σ Q) X.xe s := by
  have hgo := h (s.heap.objs.size + 1) s.heap.objs.size (I.hok.fresh (Nat.le_succ _)) (I.hok.fresh (Nat.le_refl _)) (Nat.ne_of_lt (Nat.lt_succ_self _))
  have Imk := Inv.made (C := C) I
  have r2 : Vals (V.ref (s.heap.objs.size + 1) :: vs) (Value.ref (s.heap.objs.size + 1) :: us ++ []) := by rw [List.append_nil]; exact .cons rfl r
  have hl : (Value.ref (s.heap.objs.size + 1) :: us ++ []).length = ps.length := by
    have e := r2.length
    rw [Fn.len _ _ _ _ hgo] at e
    exact e.symm
  refine wpAny_call (make_map (f := f) I.kIn Mk'.makes Mk'.init (beq_iff_eq.mp Mk'.fn) (codeAny_mono (Fn.run _ X.stack _ _ ⟨Value.ref (s.heap.objs.size + 1) :: us, []⟩ (Value.ref (s.heap.objs.size + 1) :: us ++ []) _ _ _ (hr.make C us [])
    (Imk.env0.make C us []) (hb _ (Value.ref (s.heap.objs.size + 1) :: us) Imk.kIn hl) r2 hgo) fun r s' hend => ?_))
  cases r with
  | error e => exact tk e s' (XE.of_call Imk (fun _ _ _ h => h) hend)
  | ok fl =>
    cases fl with
    | ret u =>
      obtain ⟨v, H', Ilast, rval, eqv_, fin3⟩ := Imk.after hend
      subst eqv_
      exact ⟨rval, ⟨V.ref (s.heap.objs.size + 1), H', Ilast, rfl, fin3⟩⟩
    | next => exact False.elim hend
    | brk => exact False.elim hend
    | cont => exact False.elim hend
theorem do_make {k n : Nat} {ms : List Bool} {f : List D → OF} {x : Str} {a : Addr} {p : Pos} {e : Expr} {es : List Expr} {fa : M (List Op)} (G : Ga X.prog X.w X.K X.mg X.base a k (n + 1) (true :: ms) f) (hM : MkOk X.K X.mg x a) (hr : Room (k + 1) X.A) (hg : Gl X x) (ha : DOs X (e :: es) fa) (hn : (e :: es).length = n := by rfl)
    (hdb : ((x == ("__debug__" : Str)) = false) := by decide) (he : starEach (e :: es) X.env = ((false, eval e X.env) :: starEach es X.env) := by rfl) (hpl : (backTo pos (starEach es X.env)).any (·.1) = false := by rfl) :
    DO X (.Call (.Name x p) (e :: es) [] pos) (dMake x ms f fa) := by
  refine ⟨fun W F R H σ en Q tk S h pins s I => ?_⟩
  obtain ⟨fd, ps, hb, Fn⟩ := G.ex
  obtain ⟨C, hm, Mk'⟩ := hM.ex
  have key := manyL ha tk S h (Q2 := fun vs H2 => ∀ x dx, H2 x = none → H2 dx = none → dx ≠ x → spOf X.K X.mg (n + 1) (true :: ms) f (.ref x :: vs) (upd (upd H2 dx (.own x)) x (.ins C dx [])) (fun v H2 => v = .non ∧ Q (.ref x) H2) (fun c dx H' => W c dx σ H')) fun vs os en2 F2 H2 hlen le S2 h => make_here (hlen.trans hn) hm le S2 h
  refine wpAny_Call_Name_kw (ld_glob (X := X) I hg hm ?_ hdb)
  refine PySem.W.callWith_K (h₀ := X.base) I.ok.mod.kin Mk'.kp (thn (key pos pins s I) fun us s1 ⟨vs, H1, I1, r, q⟩ => ⟨I1.kIn, ?_⟩) he hpl
  exact run_makeW Mk' Fn hr hb tk I1 r q
def dMeth (c m : Str) (ms : List Bool) (f : List D → OF) (fo : M Op) (fa : M (List Op)) : M Op := bd fo fun o => fun en => match res en o with
  | .nd (.ob _ c' ns) _ => if c' = c ∧ m ∉ ns then dCall ms f (bd fa fun os => rt (o :: os)) en else .st
  | _ => .st
structure MethOk (K : PySem.W.Frag) (mg : Str → Option Value) (c m : Str) (a : Addr) : Prop where
  ex : ∃ C, mg c = some (.ref C) ∧ Cls K C ∧ Meth K C m a
theorem lookup_none {α : Type} : ∀ {ns : List Str} {vs : List α} {f : Str}, f ∉ ns → (ns.zip vs).lookup f = none
  | [], _, _, _ => by simp
  | _ :: _, [], _, _ => by simp
  | n :: ns, v :: vs, f, h => by
    rw [List.zip_cons_cons, List.lookup_cons]
    have h1 : (f == n) = false := beq_eq_false_iff_ne.mpr fun z => h (z ▸ List.mem_cons_self)
    rw [h1]
    exact lookup_none fun z => h (List.mem_cons_of_mem _ z)
theorem meth_run {c m : Str} {C a : Addr} {n : Nat} {ms : List Bool} {f : List D → OF} {oe : Expr} {es : List Expr} {fo : M Op} {fa : M (List Op)} (hm : X.mg c = some (.ref C)) (h1 : DO X oe fo) (h2 : DOs X es fa) (hn : es.length + 1 = n) (tk : Takes X W) (S : SepE X F R H σ en [])
    (h : wpO (dMeth c m ms f fo fa en) (PVo X F R σ Q) (PXc X W F R σ)) :
    uE X σ H oe fun x H1 => ∃ p dx fs, x = .ref p ∧ H1 p = some (.ins C dx fs) ∧ fs.lookup m = none ∧ uA X σ H1 es fun vs H2 => spOf X.K X.mg n ms f (x :: vs) H2 Q (fun c dx H' => W c dx σ H') := by
  unfold dMeth at h
  rw [wpO_bd] at h
  refine h1.run W F R H σ en _ tk S (wpO_mono h (fun o en1 h6 x H1 F1 le1 S1 => ?_) fun _ _ _ _ q => q)
  clear h
  have m1 := mem1 S1
  revert h6
  cases e0 : res en1 o with
  | nd k xs =>
    cases k with
    | ob b c' ns =>
      intro h
      dsimp only at h
      split at h
      · rename_i hcm
        obtain ⟨rfl, hmn⟩ := hcm
        rw [e0] at m1
        obtain ⟨p, vs, rfl, hl, hcont, _⟩ := S1.2.sep.rd m1
        obtain ⟨C', dx, hC, hH, hlen⟩ := hcont
        rw [hm] at hC
        cases hC
        refine ⟨p, dx, _, rfl, hH, lookup_none hmn, ?_⟩
        obtain ⟨R', S2, back⟩ := S1.2.lend
        unfold dCall at h
        rw [wpO_bd, wpO_bd] at h
        refine h2.run W F1 R' H1 σ en1 _ tk S2 (wpO_mono (wpO_eq h) (fun os en2 ⟨eos, h⟩ vs2 H2 F2 le2 S3 => ?_) fun c ns xs en2 q C dx H' F' le m xd S' => q C dx H' F' (le1.trans le) m xd (back F' H' σ _ [] le S').clear)
        have S4 : OpsS X F2 R H2 σ en2 (.ref p :: vs2) (o :: os) := by
          have e : tmps [V.ref p] [o] ++ tmps vs2 os = tmps (V.ref p :: vs2) (o :: os) := (tmps_app S1.1).symm
          exact ⟨S1.1.app S3.1, e ▸ back F2 H2 σ en2 _ le2 S3.2⟩
        have hlo := h2.len _ _ _ eos
        exact sp_here (by simp [hlo, hn]) (le1.trans le2) S4 h
      · exact h.elim
    | _ => exact fun h => h.elim
  | _ => exact fun h => h.elim
theorem do_meth {pl : Sem Bool} {c m : Str} {a : Addr} {k n : Nat} {ms : List Bool} {f : List D → OF} {apos : Pos} {oe e : Expr} {es : List Expr} {fo : M Op} {fa : M (List Op)} (G : Ga X.prog X.w X.K X.mg X.base a k n ms f) (hM : MethOk X.K X.mg c m a) (hr : Room k X.A) (h1 : DO X oe fo) (h2 : DOs X (e :: es) fa) (hn : (e :: es).length + 1 = n := by rfl)
    (hst : starEach (e :: es) X.env = ((false, eval e X.env) :: starEach es X.env) := by rfl) (hpl : (backTo pos (starEach es X.env)).any (·.1) = false := by rfl)
    (ht : eval (.Call (.Attribute oe m apos) (e :: es) [] pos) X.env = (do
      let ov ← eval oe X.env
      standAt apos.atName
      let (fv, fst_) ← holding [ov] (getMethod ov m pl)
      callWith pos fv fst_ (backTo pos (starEach (e :: es) X.env)) (backToKw pos (keywordEach [] X.env))) := by rfl) :
    DO X (.Call (.Attribute oe m apos) (e :: es) [] pos) (dMeth c m ms f fo fa) := by
  refine ⟨fun W F R H σ en Q tk S h pins s I => ?_⟩
  obtain ⟨fd, ps, hb, Fn⟩ := G.ex
  obtain ⟨C, hm, cl, me⟩ := hM.ex
  have key := meth_run (a := a) hm h1 h2 hn tk S h
  refine PySem.W.methodCall_KW (pl := pl) (thn (key pins s I) fun u s1 ⟨x, H1, I1, rx, p, dx, fs, ex, ea, l, q⟩ => ?_) ht
  subst ex
  obtain rfl : u = (Value.ref p) := rx
  refine getmeth_ok I1 ea cl me l ?_
  refine PySem.W.callWith_K (first := [.ref p]) (h₀ := X.base) I.ok.mod.kin me.kp (thn (q pos pins s1 I1) fun us s2 ⟨vs, H2, Imk, r, q2⟩ => ⟨Imk.kIn, ?_⟩) hst hpl
  exact run_fnW (us := .ref p :: us) (vs := .ref p :: vs) Fn hr hb tk Imk (.cons rfl r) q2
theorem meth_run0 {c m : Str} {C a : Addr} {ms : List Bool} {f : List D → OF} {oe : Expr} {fo : M Op} (hm : X.mg c = some (.ref C)) (h1 : DO X oe fo) (tk : Takes X W) (S : SepE X F R H σ en [])
    (h : wpO (dMeth c m ms f fo dNil en) (PVo X F R σ Q) (PXc X W F R σ)) :
    uE X σ H oe fun x H1 => ∃ p dx fs, x = .ref p ∧ H1 p = some (.ins C dx fs) ∧ fs.lookup m = none ∧ spOf X.K X.mg 1 ms f [x] H1 Q (fun c dx H' => W c dx σ H') := by
  unfold dMeth at h
  rw [wpO_bd] at h
  refine h1.run W F R H σ en _ tk S (wpO_mono h (fun o en1 h6 x H1 F1 le1 S1 => ?_) fun _ _ _ _ q => q)
  clear h
  have m1 := mem1 S1
  revert h6
  cases e0 : res en1 o with
  | nd k xs =>
    cases k with
    | ob b c' ns =>
      intro h
      dsimp only at h
      split at h
      · rename_i hcm
        obtain ⟨rfl, hmn⟩ := hcm
        rw [e0] at m1
        obtain ⟨p, vs, rfl, hl, hcont, _⟩ := S1.2.sep.rd m1
        obtain ⟨C', dx, hC, hH, hlen⟩ := hcont
        rw [hm] at hC
        cases hC
        exact ⟨p, dx, _, rfl, hH, lookup_none hmn, sp_here rfl le1 S1 h⟩
      · exact h.elim
    | _ => exact fun h => h.elim
  | _ => exact fun h => h.elim
theorem do_meth0 {pl : Sem Bool} {c m : Str} {a : Addr} {k : Nat} {ms : List Bool} {f : List D → OF} {apos : Pos} {oe : Expr} {fo : M Op} (G : Ga X.prog X.w X.K X.mg X.base a k 1 ms f) (hM : MethOk X.K X.mg c m a) (hr : Room k X.A) (h1 : DO X oe fo)
    (ht : eval (.Call (.Attribute oe m apos) [] [] pos) X.env = (do
      let ov ← eval oe X.env
      standAt apos.atName
      let (fv, fst_) ← holding [ov] (getMethod ov m pl)
      callWith pos fv fst_ (backTo pos (starEach [] X.env)) (backToKw pos (keywordEach [] X.env))) := by rfl) :
    DO X (.Call (.Attribute oe m apos) [] [] pos) (dMeth c m ms f fo dNil) := by
  refine ⟨fun W F R H σ en Q tk S h pins s I => ?_⟩
  obtain ⟨fd, ps, hb, Fn⟩ := G.ex
  obtain ⟨C, hm, cl, me⟩ := hM.ex
  have key := meth_run0 (a := a) hm h1 tk S h
  refine PySem.W.methodCall_KW (pl := pl) (thn (key pins s I) fun u s1 ⟨x, H1, I1, rx, p, dx, fs, ex, ea, l, q⟩ => ?_) ht
  subst ex
  obtain rfl : u = (Value.ref p) := rx
  refine getmeth_ok I1 ea cl me l ?_
  refine PySem.W.callWith_K0 (first := [.ref p]) I1.kIn me.kp ?_
  exact run_fnW (us := [.ref p]) (vs := [.ref p]) Fn hr hb tk I1 (.cons rfl .nil) q
end
end PI
set_option maxHeartbeats 3900000
namespace PI
open L2 PySem PyProof.Rows PySem.Spec
variable [Tb]
section
variable {X : Cx} {F F' F1 H H' H1 : Hp} {R : Rv} {σ σ' σ1 : L2.St} {en en' : List D} {T T' : List (Option V × D)} {vs : List V} {os : List Op} {v x y : V} {o : Op} {d : D} {i j : Nat} {W : WX} {Q : VK} {pr : List Nat} {De : Ends} {pos : Pos} {xs : List D}
theorem putF_new : ∀ {ns : List Str} {vs : List V} {f : Str} {y : V}, f ∉ ns → ns.length = vs.length → putF f y (ns.zip vs) = (ns ++ [f]).zip (vs ++ [y])
  | [], [], f, y, _, _ => rfl
  | [], _ :: _, f, y, _, h => by cases h
  | _ :: _, [], f, y, _, h => by cases h
  | n :: ns, v :: vs, f, y, h, hl => by
    have h1 : ¬ n = f := fun z => h (z ▸ List.mem_cons_self)
    show (if n = f then (n, y) :: ns.zip vs else (n, v) :: putF f y (ns.zip vs)) = _
    rw [if_neg h1, putF_new (fun z => h (List.mem_cons_of_mem _ z)) (by simpa using hl)]
    rfl
theorem putF_old : ∀ {ns : List Str} {vs : List V} {f : Str} {y : V}, f ∈ ns → ns.Nodup → ns.length = vs.length → putF f y (ns.zip vs) = ns.zip (repl ns vs f y)
  | [], _, f, y, h, _, _ => absurd h List.not_mem_nil
  | _ :: _, [], f, y, _, _, h => by cases h
  | n :: ns, v :: vs, f, y, h, hn, hl => by
    obtain ⟨n1, n2⟩ := List.nodup_cons.mp hn
    show (if n = f then (n, y) :: ns.zip vs else (n, v) :: putF f y (ns.zip vs)) = _
    by_cases q : n = f
    · subst q
      rw [if_pos rfl]
      have e : ∀ {ns : List Str} {vs : List V}, n ∉ ns → ns.length = vs.length → repl ns vs n y = vs := fun {ns} => by
        induction ns with
        | nil => intro vs _ h; cases vs <;> first | rfl | cases h
        | cons a ns ih =>
          intro vs h hl
          cases vs with
          | nil => cases hl
          | cons v vs =>
            have h1 : ¬ a = n := fun z => h (z ▸ List.mem_cons_self)
            have := ih (vs := vs) (fun z => h (List.mem_cons_of_mem _ z)) (by simpa using hl)
            unfold repl at this ⊢
            simp [h1, this]
      have e2 : repl (n :: ns) (v :: vs) n y = y :: vs := by
        have := e (vs := vs) n1 (by simpa using hl)
        unfold repl at this ⊢
        simp [this]
      rw [e2]; rfl
    · rw [if_neg q, putF_old ((List.mem_cons.mp h).resolve_left (Ne.symm q)) n2 (by simpa using hl)]
      have e2 : repl (n :: ns) (v :: vs) f y = v :: repl ns vs f y := by
        unfold repl
        simp [q]
      rw [e2]; rfl
/-- x.f = e: what is stored is frozen -/
def putO (cs : List Str) (f : Str) (d : D) : D → Option D
  | .nd (.ob true c ns) xs => if cs.contains c && decide (ns.length < 1000) then (if f ∈ ns then (if ns.Nodup then some (.nd (.ob true c ns) (repl ns xs f d)) else none) else some (.nd (.ob true c (ns ++ [f])) (xs ++ [d]))) else none
  | _ => none
def sFldS (cs : List Str) (j : Nat) (f : Str) (fe : M Op) : M Fl := bd fe fun o => fun en => match putO cs f (cool (escD en o)) ((escE en o).getD j .un) with
  | some t => .ok .nx ((escE en o).set j t)
  | none => .st
theorem ds_fld {cs : List Str} {j : Nat} {z f : Str} {e : Expr} {fe : M Op} {pz p' : Pos} (hc : ∀ c ∈ cs, FldOk X c f) (h1 : DO X e fe) (hN : X.N[j]? = some z := by rfl) (hv : Vis X.env.scope z := by first | exact Or.inl rfl | exact Or.inr (Or.inl rfl) | exact Or.inr (Or.inr rfl)) (hd : (z == ("__debug__" : Str)) = false := by decide)
    (hcd : (z == ("__classdict__" : Str)) = false := by decide) (hs : swapsWith e (some (.Attribute (.Name z pz) f p')) pos.line X.env = pure false := by rfl) :
    DS X pr (.Assign [.Attribute (.Name z pz) f p'] e pos) (sFldS cs j f fe) := by
  refine ⟨fun W F R H σ en De tk S h => uS.of (ps_fld (uE.pe X (.Name z pz)) (uE.pe X e) hs) ?_⟩
  show uE X σ H e fun y H1 => uE X σ H1 (.Name z pz) fun x H2 => ∃ a C dx fs, x = .ref a ∧ H2 a = some (.ins C dx fs) ∧ Cls X.K C ∧ NoAttr X.K C f ∧ fs.length < 1000 ∧ De.nx σ (upd H2 a (.ins C dx (putF f y fs)))
  refine oneS h1 tk S h fun y o en2 F2 H2 le S2 h => ?_
  obtain ⟨F3, le3, S3⟩ := SepE.esc' S2.2 S2
  obtain ⟨F4, le4, S4, r⟩ := S3.coolTmp
  cases et : putO cs f (cool (escD en2 o)) ((escE en2 o).getD j .un) with
  | none => rw [et] at h; exact h.elim
  | some t =>
    rw [et] at h
    have h : ∀ σ' H' F', Le F F' → Keep pr σ σ' → SepE X F' R H' σ' ((escE en2 o).set j t) [] → De.nx σ' H' := h
    have nd : ∃ k xs, (escE en2 o).getD j .un = .nd k xs := by
      cases e0 : (escE en2 o).getD j .un with
      | nd k xs => exact ⟨k, xs, rfl⟩
      | _ => rw [e0] at et; cases et
    obtain ⟨k, xs, e0⟩ := nd
    obtain ⟨b, hb⟩ := slot_some S4 (by rw [e0]; exact fun z => by cases z)
    refine uE.of (pe_var hN hv hd hcd) ⟨b, hb, ?_⟩
    rw [e0] at et
    unfold putO at et
    split at et
    · rename_i k0 c ns xs0 eq
      cases eq
      split at et
      · rename_i hcs
        rw [Bool.and_eq_true, decide_eq_true_eq] at hcs
        obtain ⟨p, vs, rfl, hl, ⟨C, dx, hC, hH, hn⟩, S5, close⟩ := S4.openSlot rfl hb e0
        obtain ⟨cl, na⟩ := hc c (by simpa using hcs.1) C hC
        refine ⟨p, C, dx, _, rfl, hH, cl, na, by rw [List.length_zip]; omega, ?_⟩
        have hS : Sep X.K X.mg F4 (hold R H2 p) H2 (kids vs xs ++ ([] ++ σ.zip ((escE en2 o).set j .un))) := S5
        split at et
        · rename_i hf
          split at et
          · rename_i hnd
            cases et
            rw [putF_old hf hnd hn]
            refine h σ _ F4 (le.trans (le3.trans le4)) (Keep.refl pr σ) (close _ (.ob true c ns) (repl ns vs f y) (repl ns xs f (cool (escD en2 o))) [] rfl ?_ ⟨C, dx, hC, upd_same, ?_⟩ (repl_sep r hS hl))
            · rw [repl_length hn, repl_length (hn.trans hl)]; exact hl
            · rw [repl_length hn]; exact hn
          · cases et
        · rename_i hf
          cases et
          rw [putF_new hf hn]
          refine h σ _ F4 (le.trans (le3.trans le4)) (Keep.refl pr σ) (close _ (.ob true c (ns ++ [f])) (vs ++ [y]) (xs ++ [cool (escD en2 o)]) [] rfl (by simp [hl]) ⟨C, dx, hC, upd_same, by simp [hn]⟩ ?_)
          have e1 : kids (vs ++ [y]) (xs ++ [cool (escD en2 o)]) = kids vs xs ++ [(some y, cool (escD en2 o))] := by
            show List.zip ((vs ++ [y]).map some) (xs ++ [cool (escD en2 o)]) = _
            rw [List.map_append, List.zip_append (by simp [hl])]
            rfl
          rw [e1, List.append_assoc]
          exact (hS.add (r : Rep X.K X.mg F4 y (cool (escD en2 o)))).perm (by simpa using List.perm_middle.symm)
      · cases et
    · cases et
end
end PI
set_option maxHeartbeats 3900000
namespace PI
open L2 PySem PyProof.Rows PySem.Spec
variable [Tb]
section
variable {X : Cx} {F F' F1 H H' G1 : Hp} {R : Rv} {σ σ' σ1 : L2.St} {en en' : List D} {T T' : List (Option V × D)} {vals : List V} {os : List Op} {v x y : V} {o : Op} {d : D} {i j : Nat} {W : WX} {Q : VK} {pr : List Nat} {De : Ends} {pos : Pos} {xs : List D}
/-- B.__init__ is ValueError's, B a class of the program -/
structure BInit (K : PySem.W.Frag) (C : Addr) : Prop where
  ga : PySem.W.specialIn K (Value.ref C) "__getattribute__" = some (some (.builtin "type.__getattribute__"))
  rd : PySem.W.readsIn K C (.type "type") = true
  ini : PySem.W.findCls K (.ref C) (.type "type") "__init__" = some (.val (.builtin "ValueError.__init__"))
theorem pe_binit {b : Str} {C0 : Addr} {e : Expr} {es : List Expr} {ta : TA} {p1 p2 : Pos} {pl : Sem Bool} (hg : Gl X b) (hm : X.mg b = some (.ref C0)) (B : BInit X.K C0) (ha : PA X (e :: es) ta) (hdb : (b == ("__debug__" : Str)) = false := by decide)
    (hc : eval (.Call (.Attribute (.Name b p1) "__init__" p2) (e :: es) [] pos) X.env = (do
      let ov ← eval (.Name b p1) X.env
      standAt p2.atName
      let (fv, fst_) ← holding [ov] (getMethod ov "__init__" pl)
      callWith pos fv fst_ (backTo pos (starEach (e :: es) X.env)) (backToKw pos (keywordEach [] X.env))) := by rfl)
    (he : starEach (e :: es) X.env = ((false, eval e X.env) :: starEach es X.env) := by rfl) (hpl : (backTo pos (starEach es X.env)).any (·.1) = false := by rfl) :
    PE X (.Call (.Attribute (.Name b p1) "__init__" p2) (e :: es) [] pos) (tVeI X.K ta) := by
  refine ⟨?_⟩
  intro pins s σ H Q I h
  refine PySem.W.methodCall_KW (pl := pl) (ld_glob I hg hm ?_ hdb) hc
  refine PySem.W.method_cls I.kIn B.ga (PySem.W.cls_value I.kIn B.rd B.ini (by decide +kernel) ?_)
  show wpAny _ _ (callWith pos (.builtin "ValueError.__init__") [] (backTo pos (starEach (e :: es) X.env)) []) _ _ _
  refine PyProof.Rows.callWith_method1 (thn (ha.run pos pins _ σ H _ (I.tok _) h) fun us s1 ⟨vals, G1, J1, rr1, a, C, rest, evs, hlen0, T, eat, q⟩ => ?_) he hpl
  subst evs
  cases rr1 with
  | @cons _ first0 _ urs rela relr =>
    obtain rfl : first0 = Value.ref a := rela
    have hsz : urs.length ≤ sizeLine := by
      rw [← Paired.length relr, sizeLine_eq]
      omega
    exact oinit_ok T J1 eat hsz fun s' J => ⟨.non, G1, J, rfl, q⟩
end
/-- what the making of an exception leaves -/
def exFs : List Str → List V → List (Str × V) → List (Str × V)
  | f :: fs, v :: vals, acc => exFs fs vals ((f, v) :: acc)
  | _, _, acc => acc
def spX (C : Addr) (K : PySem.W.Frag) (ns : List Str) : Sp := fun vals H Q E => ∃ (a : Addr) (rest : List V), vals = .ref a :: rest ∧ rest.length = ns.length ∧ OexC K C ∧ H a = some (exo a C none) ∧
  ∀ dx H', H dx = none → dx ≠ a → H' a = some (exo a C (some dx)) → H' dx = some (exd dx (exFs ns rest [])) → (∀ b, b ≠ a → b ≠ dx → H' b = H b) → Q .non H'
structure GfX (P : Program) (w : World) (K : PySem.W.Frag) (mg : Str → Option Value) (base : Heap) (x : Str) (k : Nat) (ns : List Str) : Prop where
  ex : ∃ C a fd ps, mg x = some (.ref C) ∧ OexC K C ∧ PySem.W.findIn K (.ref C) "__init__" = some (some (.ref a)) ∧ PySem.W.typeIn K (.ref a) = some (.type "function") ∧ Binds K fd ps [] ∧ FnOk P w K mg base (L2.CX P w) k a fd ps (spX C K ns)
section
variable {base : Heap} {K : PySem.W.Frag} {P : Program} {mg : Str → Option Value} {w : World}
/-- def __init__(self, f): B.__init__(self, '..'); self.f = f -/
theorem gfx_1 {x qual b s0 f : Str} {st : Stmt} {C C0 a : Addr} {fd : FuncData} {k : Nat} {txt : Str} {jt : Nat} {pl : Env → Sem Bool} {p1 p2 p3 p4 p5 p6 p7 p8 p9 p10 : Pos} (hmC : mg x = some (.ref C)) (T : OexC K C) (iC : PySem.W.findIn K (.ref C) "__init__" = some (some (.ref a))) (tI : PySem.W.typeIn K (.ref a) = some (.type "function"))
    (hb0 : mg b = some (.ref C0)) (B : BInit K C0) (Fn : Fun K "__init__" qual st a fd) (Sc : FnScope [s0, f] [s0, f] (defScope st)) (hb : Binds K fd [s0, f] []) (no : PySem.W.findIn K (.ref C) f = some none)
    (hbody : defBody st = [.Expr (.Call (.Attribute (.Name b p1) "__init__" p2) [.Name s0 p3, .Constant (.str txt) jt p4] [] p5) p6, .Assign [.Attribute (.Name s0 p7) f p8] (.Name f p9) p10])
    (hc : ∀ env : Env, eval (.Call (.Attribute (.Name b p1) "__init__" p2) [.Name s0 p3, .Constant (.str txt) jt p4] [] p5) env = (do
      let ov ← eval (.Name b p1) env
      standAt p2.atName
      let (f, first) ← holding [ov] (getMethod ov "__init__" (pl env))
      callWith p5 f first (backTo p5 (starEach [.Name s0 p3, .Constant (.str txt) jt p4] env)) (backToKw p5 (keywordEach [] env))))
    (hg : (defScope st).names.lookup b = some .globalImplicit) (hv0 : Vis (defScope st) s0) (hv1 : Vis (defScope st) f) (d0 : (s0 == ("__debug__" : Str)) = false := by decide) (d1 : (f == ("__debug__" : Str)) = false := by decide) (db : (b == ("__debug__" : Str)) = false := by decide)
    (c0 : (s0 == ("__classdict__" : Str)) = false := by decide) (c1 : (f == ("__classdict__" : Str)) = false := by decide) : GfX P w K mg base x (k + 1) [f] := by
  refine ⟨C, a, fd, [s0, f], hmC, T, iC, tI, hb, Fn.okX Sc (fun vals H Q E h => by obtain ⟨a, rest, rfl, hlen0, _⟩ := h; simp [hlen0]) fun cdv A outer s H vals Q E hr h => ?_⟩
  obtain ⟨e, rest, rfl, hlen0, _, he, q⟩ := h
  match rest, hlen0 with
  | [y], _ =>
    rw [hbody]
    generalize hX : cxOf (L2.CX P w) P w K mg base [s0, f] qual (defScope st) a cdv A outer s H E = X
    have eK : X.K = K := by subst hX; rfl
    have eM : X.mg = mg := by subst hX; rfl
    have eN : X.N = [s0, f] := by subst hX; rfl
    have eS : X.env.scope = defScope st := by subst hX; rfl
    have hgl : Gl X b := by subst hX; exact hg
    have v0 : ∀ p, PE X (.Name s0 p) _ := fun p => pe_var (X := X) (pos := p) (i := 0) (by rw [eN]; rfl) (by rw [eS]; exact hv0) d0 c0
    have v1 : ∀ p, PE X (.Name f p) _ := fun p => pe_var (X := X) (pos := p) (i := 1) (by rw [eN]; rfl) (by rw [eS]; exact hv1) d1 c1
    refine ⟨_, pss_cons (ps_expr (pe_binit (X := X) hgl (by rw [eM]; exact hb0) (by rw [eK]; exact B) (pa_cons (v0 p3) (pa_cons pe_str pa_nil (by rfl)) (by rfl)) db (hc _) (by rfl) (by rfl)) (by rfl)) (pss_cons (ps_ost (v0 p7) (v1 p9) (by rfl)) pss_nil), ?_⟩
    have st0 : L2.start [s0, f] [V.ref e, y] = [some (.ref e), some y] := rfl
    rw [st0, eK]
    refine ⟨.ref e, rfl, e, C, _, rfl, by simp, T, he, ?_⟩
    refine ⟨y, rfl, .ref e, rfl, e, C, rfl, T, no, .inl ⟨he, fun dx hd hne => ?_⟩⟩
    refine q dx _ hd hne upd_same ?_ fun b h1 h2 => by rw [upd_ne h1, upd_ne h2]
    rw [upd_ne hne]
    exact upd_same
/-- def __init__(self, f, g): B.__init__(self, '..'); self.f = f; self.g = g -/
theorem gfx_2 {x qual b s0 f g : Str} {st : Stmt} {C C0 a : Addr} {fd : FuncData} {k : Nat} {txt : Str} {jt : Nat} {pl : Env → Sem Bool} {p1 p2 p3 p4 p5 p6 p7 p8 p9 p10 q7 q8 q9 q10 : Pos} (hmC : mg x = some (.ref C)) (T : OexC K C) (iC : PySem.W.findIn K (.ref C) "__init__" = some (some (.ref a))) (tI : PySem.W.typeIn K (.ref a) = some (.type "function"))
    (hb0 : mg b = some (.ref C0)) (B : BInit K C0) (Fn : Fun K "__init__" qual st a fd) (Sc : FnScope [s0, f, g] [s0, f, g] (defScope st)) (hb : Binds K fd [s0, f, g] []) (no : PySem.W.findIn K (.ref C) f = some none) (no2 : PySem.W.findIn K (.ref C) g = some none)
    (hbody : defBody st = [.Expr (.Call (.Attribute (.Name b p1) "__init__" p2) [.Name s0 p3, .Constant (.str txt) jt p4] [] p5) p6, .Assign [.Attribute (.Name s0 p7) f p8] (.Name f p9) p10, .Assign [.Attribute (.Name s0 q7) g q8] (.Name g q9) q10])
    (hc : ∀ env : Env, eval (.Call (.Attribute (.Name b p1) "__init__" p2) [.Name s0 p3, .Constant (.str txt) jt p4] [] p5) env = (do
      let ov ← eval (.Name b p1) env
      standAt p2.atName
      let (f, first) ← holding [ov] (getMethod ov "__init__" (pl env))
      callWith p5 f first (backTo p5 (starEach [.Name s0 p3, .Constant (.str txt) jt p4] env)) (backToKw p5 (keywordEach [] env))))
    (hg : (defScope st).names.lookup b = some .globalImplicit) (hv0 : Vis (defScope st) s0) (hv1 : Vis (defScope st) f) (hv2 : Vis (defScope st) g) (d0 : (s0 == ("__debug__" : Str)) = false := by decide) (d1 : (f == ("__debug__" : Str)) = false := by decide) (d2 : (g == ("__debug__" : Str)) = false := by decide) (db : (b == ("__debug__" : Str)) = false := by decide)
    (c0 : (s0 == ("__classdict__" : Str)) = false := by decide) (c1 : (f == ("__classdict__" : Str)) = false := by decide) (c2 : (g == ("__classdict__" : Str)) = false := by decide) : GfX P w K mg base x (k + 1) [f, g] := by
  refine ⟨C, a, fd, [s0, f, g], hmC, T, iC, tI, hb, Fn.okX Sc (fun vals H Q E h => by obtain ⟨a, rest, rfl, hlen0, _⟩ := h; simp [hlen0]) fun cdv A outer s H vals Q E hr h => ?_⟩
  obtain ⟨e, rest, rfl, hlen0, _, he, q⟩ := h
  match rest, hlen0 with
  | [y, z], _ =>
    rw [hbody]
    generalize hX : cxOf (L2.CX P w) P w K mg base [s0, f, g] qual (defScope st) a cdv A outer s H E = X
    have eK : X.K = K := by subst hX; rfl
    have eM : X.mg = mg := by subst hX; rfl
    have eN : X.N = [s0, f, g] := by subst hX; rfl
    have eS : X.env.scope = defScope st := by subst hX; rfl
    have hgl : Gl X b := by subst hX; exact hg
    have v0 : ∀ p, PE X (.Name s0 p) _ := fun p => pe_var (X := X) (pos := p) (i := 0) (by rw [eN]; rfl) (by rw [eS]; exact hv0) d0 c0
    have v1 : ∀ p, PE X (.Name f p) _ := fun p => pe_var (X := X) (pos := p) (i := 1) (by rw [eN]; rfl) (by rw [eS]; exact hv1) d1 c1
    have v2 : ∀ p, PE X (.Name g p) _ := fun p => pe_var (X := X) (pos := p) (i := 2) (by rw [eN]; rfl) (by rw [eS]; exact hv2) d2 c2
    refine ⟨_, pss_cons (ps_expr (pe_binit (X := X) hgl (by rw [eM]; exact hb0) (by rw [eK]; exact B) (pa_cons (v0 p3) (pa_cons pe_str pa_nil (by rfl)) (by rfl)) db (hc _) (by rfl) (by rfl)) (by rfl)) (pss_cons (ps_ost (v0 p7) (v1 p9) (by rfl)) (pss_cons (ps_ost (v0 q7) (v2 q9) (by rfl)) pss_nil)), ?_⟩
    have st0 : L2.start [s0, f, g] [V.ref e, y, z] = [some (.ref e), some y, some z] := rfl
    rw [st0, eK]
    refine ⟨.ref e, rfl, e, C, _, rfl, by simp, T, he, ?_⟩
    refine ⟨y, rfl, .ref e, rfl, e, C, rfl, T, no, .inl ⟨he, fun dx hd hne => ?_⟩⟩
    refine ⟨z, rfl, .ref e, rfl, e, C, rfl, T, no2, .inr ⟨dx, [(f, y)], upd_same, by rw [upd_ne hne]; exact upd_same, by simp, ?_⟩⟩
    refine q dx _ hd hne ?_ upd_same fun b h1 h2 => by rw [upd_ne h2, upd_ne h1, upd_ne h2]
    rw [upd_ne (Ne.symm hne)]
    exact upd_same
end
section
variable {X : Cx} {F F' F1 H H' G1 : Hp} {R : Rv} {σ σ' σ1 : L2.St} {en en' : List D} {T T' : List (Option V × D)} {vals : List V} {os : List Op} {v x y : V} {o : Op} {d : D} {i j : Nat} {W : WX} {Q : VK} {pr : List Nat} {De : Ends} {pos : Pos} {xs : List D}
theorem exFs_rev : ∀ {ns : List Str} {rest : List V} {acc : List (Str × V)}, rest.length = ns.length → exFs ns rest acc = (ns.zip rest).reverse ++ acc
  | [], [], _, _ => rfl
  | [], _ :: _, _, h => by cases h
  | _ :: _, [], _, h => (by cases h)
  | n :: ns, w :: rest, acc, h => by
    show exFs ns rest ((n, w) :: acc) = _
    rw [exFs_rev (by simpa using h), List.zip_cons_cons, List.reverse_cons, List.append_assoc]
    rfl
theorem zip_rev {α β : Type} : ∀ {l : List α} {m : List β}, l.length = m.length → (l.zip m).reverse = l.reverse.zip m.reverse
  | [], [], _ => rfl
  | [], _ :: _, h => by cases h
  | _ :: _, [], h => by cases h
  | a :: l, b :: m, h => by
    have hlen0 : l.length = m.length := by simpa using h
    rw [List.zip_cons_cons, List.reverse_cons, zip_rev hlen0, List.reverse_cons, List.reverse_cons, List.zip_append (by simp [hlen0])]
    rfl
theorem Reps.rev {K : PySem.W.Frag} {mg : Str → Option Value} : ∀ {vals : List V} {xs : List D}, Reps K mg F vals xs → Reps K mg F vals.reverse xs.reverse
  | [], [], r => r
  | [], x :: xs, r => by have := r.1; cases this
  | v :: vals, xs, r => by
    obtain ⟨d, xs', rfl, rr1, r2⟩ := r.uncons
    rw [List.reverse_cons]
    rw [List.reverse_cons]
    exact r2.rev.app (Reps.cons rr1 Reps.nil)
def sRaise (c : Str) (ns : List Str) (fa : M (List Op)) : M Fl := bd fa fun os => fun en => .ex c ns.reverse (cools os en).1.reverse (cools os en).2
theorem ds_raise {k : Nat} {x : Str} {ns : List Str} {e : Expr} {es : List Expr} {fa : M (List Op)} {p p2 : Pos} (hcalm : X.calm = true) (G : GfX X.prog X.w X.K X.mg X.base x k ns) (hr : Room (k + 1) X.A) (hg : Gl X x) (ha : DOs X (e :: es) fa) (hn : (e :: es).length = ns.length := by rfl) (hz : (e :: es).length ≤ 1000 := by decide)
    (hdb : (x == ("__debug__" : Str)) = false := by decide) (he : starEach (e :: es) X.env = (false, eval e X.env) :: starEach es X.env := by rfl) (hpl : (backTo p2 (starEach es X.env)).any (·.1) = false := by rfl) :
    DS X pr (.Raise (some (.Call (.Name x p) (e :: es) [] p2)) none pos) (sRaise x ns fa) := by
  refine ⟨fun W F R H σ en De tk S h => ?_⟩
  obtain ⟨C, a, fd, ps, hm, T, iC, tI, hb, Fn⟩ := G.ex
  refine uS.of (ps_raise hcalm tk (pmk_oex (dvs := []) T iC tI Fn hr hb .nil (passes_call takes0 fun _ _ _ _ h => h) hg hm (uA.pa X (e :: es)) hdb he hpl)) ?_
  show uA X σ H (e :: es) fun vals G1 => vals.length ≤ 1000 ∧ ∀ a, G1 a = none → spX C X.K ns (.ref a :: (vals ++ [])) (upd G1 a (exo a C none))
    (fun v H2 => v = .non ∧ ∃ (d : Addr) (fs : List (Str × V)), H2 a = some (exo a C (some d)) ∧ H2 d = some (exd d fs) ∧ G1 d = none ∧ W (.ref C) (some d) σ (upd (del H2 a) d (.xd fs))) (fun _ _ _ => False)
  unfold sRaise at h
  rw [wpO_bd] at h
  refine ha.run W F R H σ en _ tk S (wpO_mono (wpO_eq h) (fun os en2 ⟨eos, h⟩ vals G1 F1 le1 S1 => ?_) fun _ _ _ _ q => q.toC)
  have hlo : vals.length = ns.length := by rw [S1.1.len, ha.len _ _ _ eos, hn]
  obtain ⟨F2, le2, S2, rs⟩ := cools_ok (T := []) S1.1 (by rw [List.append_nil]; exact S1.2)
  refine ⟨?_, fun a hna => ?_⟩
  · have : (e :: es).length ≤ 1000 := ?_
    · rw [hlo, ← hn]; exact this
    · exact hz
  · refine ⟨a, vals, by rw [List.append_nil], hlo, T, upd_same, fun dx H' hd hne e1 e2 hsame => ⟨rfl, dx, _, e1, e2, ?_, ?_⟩⟩
    · rw [upd_ne hne] at hd; exact hd
    · rw [upd_ne hne] at hd
      have eH : upd (del H' a) dx (.xd (exFs ns vals [])) = upd G1 dx (.xd (exFs ns vals [])) := by
        funext b
        by_cases hb : b = dx
        · rw [hb, upd_same, upd_same]
        · rw [upd_ne hb, upd_ne hb]
          by_cases hba : b = a
          · rw [hba, del_same, hna]
          · rw [del_ne hba, hsame b hba hb, upd_ne hba]
      rw [eH]
      obtain ⟨le3, S3⟩ := S2.sep.cold (o := .xd (exFs ns vals [])) hd (fun _ z => HO.noConfusion z)
      refine h C dx σ _ (upd F2 dx (.xd (exFs ns vals []))) (le1.trans (le2.trans le3)) hm (Keep.refl pr σ) ⟨vals.reverse, ?_, ?_, ?_⟩ ⟨S2.len, S3⟩
      · rw [upd_same, exFs_rev hlo, List.append_nil, zip_rev hlo.symm]
      · rw [List.length_reverse, List.length_reverse, hlo]
      · exact (rs.le le3).rev
end
end PI
set_option maxHeartbeats 3900000
namespace PI
open L2 PySem PyProof.Rows PySem.Spec
variable [Tb]
/-- one clause: the class's value, the slot of the name, what its suite does -/
structure Cl where
  c : Value
  i : Option Nat
  ts : Addr → Value → Option Addr → TS
def putE (o : Option Nat) (v : Option V) (σ : L2.St) : L2.St := match o with
  | some i => σ.set i v
  | none => σ
def endsE (o : Option Nat) (De : Ends) : Ends := { nx := fun σ H => De.nx (putE o none σ) H, rt := De.rt, bk := fun σ H => De.bk (putE o none σ) H, ct := fun σ H => De.ct (putE o none σ) H }
def wCl (K : PySem.W.Frag) (Wout : WX) (De : Ends) : List Cl → WX
  | [] => Wout
  | q :: r => fun kl d σ H => ∃ b, PySem.W.exmOne K kl q.c = some b ∧ (b = true → ∀ a, H a = none → q.ts a kl d (endsE q.i De) (putE q.i (some (.ref a)) σ) H) ∧ (b = false → wCl K Wout De r kl d σ H)
inductive ClsOk (X : Cx) : List ExceptHandler → List Cl → Prop
  | nil : ClsOk X [] []
  | named {x n : Str} {i : Nat} {c : Value} {ts : Addr → Value → Option Addr → TS} {b₀ : Stmt} {suite : List Stmt} {np pos' : Pos} {hds : List ExceptHandler} {l : List Cl} (hc : Names X x c) (hi : X.N[i]? = some n) (hln : X.env.kindOf n = some .local)
      (hsu : ∀ (a : Addr) (oe : Obj) (kl : Value) (d : Option Addr) (pn : List (Addr × Obj)), Zc kl d oe → (∃ vs, oe.data = .fields vs) → PSs (X.suite a ((a, oe) :: pn)) (b₀ :: suite) (ts a kl d)) (r : ClsOk X hds l) :
      ClsOk X (.ExceptHandler (some (.Name x np)) (some n) (b₀ :: suite) pos' :: hds) (⟨c, some i, ts⟩ :: l)
  | plain {x : Str} {c : Value} {ts : Addr → Value → Option Addr → TS} {b₀ : Stmt} {suite : List Stmt} {np pos' : Pos} {hds : List ExceptHandler} {l : List Cl} (hc : Names X x c)
      (hsu : ∀ (a : Addr) (oe : Obj) (kl : Value) (d : Option Addr) (pn : List (Addr × Obj)), Zc kl d oe → (∃ vs, oe.data = .fields vs) → PSs (X.suite a ((a, oe) :: pn)) (b₀ :: suite) (ts a kl d)) (r : ClsOk X hds l) :
      ClsOk X (.ExceptHandler (some (.Name x np)) none (b₀ :: suite) pos' :: hds) (⟨c, none, ts⟩ :: l)
section
variable {X : Cx} {body : List Stmt} {h₀ : ExceptHandler} {hds : List ExceptHandler} {l : List Cl} {pos : Pos} {tb : WX → TS} {Wout : WX}
theorem ps_try_cls (hs : X.stack = X.env :: X.outer) (hf : X.env.frame = some X.env.locals) (hN : X.N.Nodup) (tk : Takes X Wout)
    (hb : ∀ (W : WX) (pn : List (Addr × Obj)) (xe : Value → (Shared → Prop)), Takes (X.tr pn xe) W → PassesOwn (model X.prog X.w) X.A X.env xe → PSs (X.tr pn xe) body (tb W))
    (hh : ClsOk X (h₀ :: hds) l) : PS X (.Try body (h₀ :: hds) [] [] pos) (fun De σ H => tb (wCl X.K Wout De l) De σ H) := by
  refine ⟨fun pins s σ H De I h => ?_⟩
  have ok := I.ok
  have hstack : X.A.frames = some (X.env :: X.outer) := by rw [ok.frames, hs]
  refine wpAny_Try_except ?_
  refine wpAny_mono ((hb (wCl X.K Wout De l) (X.pn ++ pins) (fun e s₁ => wpAny (model X.prog X.w) X.A (noteFrame e X.env) (fun _ s₂ => wpAny (model X.prog X.w) X.A (setFlight e none) (fun _ s₃ =>
    wpAny (model X.prog X.w) X.A (handleBy e X.env (h₀ :: hds)) (L2.SP X pins De) X.xe s₃) X.xe s₂) X.xe s₁) (fun u s' xx => ?_) PassesOwn.looking).run [] s σ H De (I.toTry _) h) (fun fl s1 got => ?_) (fun e s1 he => he)
  · obtain ⟨a, B, sB, pins', τ, G, kl, d, rfl, Iv', nbl, ups, sky, na, oss, agr, w⟩ := xx
    have Iv : Inv X pins τ G sB := Iv'.ofTry ok
    have sky2 : Sky B (X.env :: X.outer) a (Zc kl d) X.env.locals s'.heap := by rw [← hs]; exact sky
    show wpAny (model X.prog X.w) X.A (noteFrame (Value.ref a) X.env) _ _ _
    refine Sky.land Zc.steady hstack hf sky2 fun h3 air3 ups3 => ?_
    have Iv3 : Inv X pins τ G { s' with heap := h3 } := Iv.landed nbl air3.1 (ups.trans ups3) oss agr
    obtain ⟨ob3, ws3, at3, zc3, dt3⟩ := air3.there
    have nofr : a ∉ frs (X.env :: X.outer) := fun hm => by
      obtain ⟨_, o', e', hnf⟩ := air3.2.2.1.mem hm
      rw [at3] at e'; cases e'
      exact hnf _ dt3
    have nloc : a ≠ X.env.locals := fun z => nofr (List.mem_filterMap.mpr ⟨X.env, List.mem_cons_self, by rw [hf, z]⟩)
    have nfs : a ∉ X.fs := fun hm => by
      have ⟨e, he, q⟩ := List.mem_filterMap.mp hm
      exact nofr (List.mem_filterMap.mpr ⟨e, List.mem_cons_of_mem _ he, q⟩)
    have Z3 := Iv3.suite at3 dt3 na nloc nfs
    have LT : PySem.W.Looks (model X.prog X.w) h3 (typeOf (.ref a)) kl := fun A Q E s k q => wpAny_typeOf_ref (k _ _ at3) (by rw [zc3.1]; exact q)
    have test : ∀ {x : Str} {c : Value} {np : Pos} {Q : Value → Shared → Prop} {E : Value → Shared → Prop}, Names X x c → Q c { s' with heap := h3 } → wpAny (model X.prog X.w) (X.A.mark (some (.ref a))) (eval (.Name x np) X.env) Q E { s' with heap := h3 } := fun {x c np Q E} hc q => by
      rcases hc with ⟨hg, hdbg, hm | ⟨hm, hv, hnn⟩⟩
      · exact ld_glob (X := X.suite a ((a, ob3) :: (X.pn ++ pins))) Z3 hg hm q hdbg
      · exact ld_blt (X := X.suite a ((a, ob3) :: (X.pn ++ pins))) Z3 hg hm hv q hnn hdbg
    have go : ∀ {hds' : List ExceptHandler} {l' : List Cl}, ClsOk X hds' l' → wCl X.K Wout De l' kl d τ G → wpAny (model X.prog X.w) X.A (handleBy (.ref a) X.env hds') (L2.SP X pins De) X.xe { s' with heap := h3 } := by
      intro hds' l' hk
      induction hk with
      | nil =>
        intro w
        refine wpAny_handleBy_nil ?_
        obtain ⟨k1, k2, k3, oe, vs, T, oT, ts', he, hz, hd, h1, hr⟩ := id air3
        unfold PySem.passOn
        refine wpAny_bind ((wpAny_field he hd h1) ?_)
        rw [if_neg (show ¬ ((Value.ref T == .none) = true) from by simp)]
        have fin : wpAny (model X.prog X.w) X.A (setFlight (.ref a) X.env.frame) (fun _ s4 => wpAny (model X.prog X.w) X.A (throw (.ref a) : Sem Flow) (L2.SP X pins De) X.xe s4) X.xe { s' with heap := h3 } := by
          rw [hf]
          refine HandSPX.setFlight_upZ air3 fun h4 fh4 ups4 => wpAny_throw (tk _ _ ?_)
          exact ⟨a, B, sB, pins, τ, G, kl, d, rfl, Iv, nbl, (ups.trans ups3).trans ups4, .inr (.inr (by rw [hs]; exact fh4)), na, oss, agr, w⟩
        first
          | exact (wpAny_bind (wpAny_pure (wpAny_bind fin)))
          | exact wpAny_bind fin
      | @named x n i c ts b₀ suite np pos' hs2 l2 hc hi hln hsu r ih =>
        intro w
        obtain ⟨b, hbb, yes_, no_⟩ := w
        refine wpAny_handleBy_cons (codeAny_handlers_test ?_) (fun q => by cases q)
        refine test hc ((PySem.W.exm_one (M := model X.prog X.w) (Iv3.kIn) LT hbb).here ?_)
        cases b with
        | true =>
          refine (codeAny_handlers_suite_as ?_)
          refine HandSPX.lands_againZ air3 fun h4 air4 ups4 => ?_
          have Iv4 : Inv X pins τ G { s' with heap := h4 } := Iv.landed nbl air4.1 ((ups.trans ups3).trans ups4) oss agr
          obtain ⟨ob4, ws4, at4, zc4, dt4⟩ := air4.there
          have Z4 := Iv4.suite at4 dt4 na nloc nfs
          refine store_ok (X := X.suite a ((a, ob4) :: (X.pn ++ pins))) (v := .ref a) Z4 hN hi (.inl hln) rfl (fun s5 Z5 => ?_) (.inr hln)
          refine wpAny_mono ((hsu a ob4 kl d (X.pn ++ pins) zc4 ⟨_, dt4⟩).run [] s5 _ G _ Z5 (yes_ rfl a na)) (fun f s6 got => ?_) (fun _ _ z => False.elim z)
          have end_ : ∀ {σ6 : L2.St} {H6 : Hp} {Q : Shared → Prop}, Inv (X.suite a ((a, ob4) :: (X.pn ++ pins))) [] σ6 H6 s6 → (∀ s7, Inv X pins (σ6.set i none) H6 s7 → Q s7) →
              wpAny (model X.prog X.w) X.A (do bindName X.env n .none; unbindBehindTheSuite X.env n pos') (fun _ s7 => Q s7) X.xe s6 := fun {σ6 H6 Q} Z6 hq => gone_ok (Z6.unsuite ok) hN hi hln hq
          cases f with
          | next =>
            obtain ⟨σ6, H6, Z6, done6⟩ := got
            exact end_ Z6 fun s7 Iv7 => ⟨_, _, Iv7, done6⟩
          | brk =>
            obtain ⟨σ6, H6, Z6, done6⟩ := got
            exact end_ Z6 fun s7 Iv7 => ⟨_, _, Iv7, done6⟩
          | cont =>
            obtain ⟨σ6, H6, Z6, done6⟩ := got
            exact end_ Z6 fun s7 Iv7 => ⟨_, _, Iv7, done6⟩
          | ret u =>
            obtain ⟨val6, σ6, H6, Z6, rel6, done6⟩ := got
            exact end_ Z6 fun s7 Iv7 => ⟨_, _, _, Iv7, rel6, done6⟩
        | false =>
          show wpAny _ X.A (handleBy (.ref a) X.env hs2) _ _ _
          exact ih (no_ rfl)
      | @plain x c ts b₀ suite np pos' hs2 l2 hc hsu r ih =>
        intro w
        obtain ⟨b, hbb, yes_, no_⟩ := w
        refine wpAny_handleBy_cons (codeAny_handlers_test ?_) (fun q => by cases q)
        refine test hc ((PySem.W.exm_one (M := model X.prog X.w) (Iv3.kIn) LT hbb).here ?_)
        cases b with
        | true =>
          refine (codeAny_handlers_suite ?_)
          refine HandSPX.lands_againZ air3 fun h4 air4 ups4 => ?_
          have Iv4 : Inv X pins τ G { s' with heap := h4 } := Iv.landed nbl air4.1 ((ups.trans ups3).trans ups4) oss agr
          obtain ⟨ob4, ws4, at4, zc4, dt4⟩ := air4.there
          have Z4 := Iv4.suite at4 dt4 na nloc nfs
          refine wpAny_mono ((hsu a ob4 kl d (X.pn ++ pins) zc4 ⟨_, dt4⟩).run [] _ _ G _ Z4 (yes_ rfl a na)) (fun f s6 got => ?_) (fun _ _ z => False.elim z)
          cases f with
          | next =>
            obtain ⟨σ6, H6, Z6, done6⟩ := got
            exact ⟨_, _, Z6.unsuite ok, done6⟩
          | brk =>
            obtain ⟨σ6, H6, Z6, done6⟩ := got
            exact ⟨_, _, Z6.unsuite ok, done6⟩
          | cont =>
            obtain ⟨σ6, H6, Z6, done6⟩ := got
            exact ⟨_, _, Z6.unsuite ok, done6⟩
          | ret u =>
            obtain ⟨val6, σ6, H6, Z6, rel6, done6⟩ := got
            exact ⟨_, _, _, Z6.unsuite ok, rel6, done6⟩
        | false =>
          show wpAny _ X.A (handleBy (.ref a) X.env hs2) _ _ _
          exact ih (no_ rfl)
    exact go hh w
  · cases fl with
    | next =>
      obtain ⟨τ, G, Iv', q⟩ := got
      exact wpAny_execs_nil ⟨τ, G, Iv'.ofTry ok, q⟩
    | brk =>
      obtain ⟨τ, G, Iv', q⟩ := got
      exact ⟨τ, G, Iv'.ofTry ok, q⟩
    | cont =>
      obtain ⟨τ, G, Iv', q⟩ := got
      exact ⟨τ, G, Iv'.ofTry ok, q⟩
    | ret u =>
      obtain ⟨v, τ, G, Iv', r, q⟩ := got
      exact ⟨v, τ, G, Iv'.ofTry ok, r, q⟩
end
end PI
set_option maxHeartbeats 3900000
namespace PI
open L2 PySem PyProof.Rows PySem.Spec
variable [Tb]
/-- what a suite shows of the exception: a text, or a field of it -/
inductive HIt where
  | str (z : Str) | fld (f : Str)
def hIt (ns : List Str) (xs : List D) : HIt → Option D
  | .str z => some (.str z)
  | .fld f => match (ns.zip xs).lookup f with
    | some d => if isFz d then some d else none
    | none => none
def hIts (ns : List Str) (xs : List D) : List HIt → Option (List D)
  | [] => some []
  | it :: its => match hIt ns xs it, hIts ns xs its with
    | some z, some zs => some (z :: zs)
    | _, _ => none
def itFlds : List HIt → List Str
  | [] => []
  | .fld f :: its => f :: itFlds its
  | .str _ :: its => itFlds its
/-- f can be read of an exception of the class c -/
def XfOk (X : Cx) (c f : Str) : Prop := ∀ C, X.mg c = some (.ref C) → XfC X.K C ∧ PySem.W.findIn X.K (.ref C) f = some none
structure HOk (X : Cx) (pr : List Nat) (o : Option Nat) (suite : List Stmt) (h : Str → List Str → List D → M Fl) : Prop where
  run : ∀ (a dx C : Addr) (oe : Obj) (pn : List (Addr × Obj)) (F : Hp) (R : Rv) (H : Hp) (σ : L2.St) (en : List D) (De : Ends) (c : Str) (ns : List Str) (xs : List D), Zc (.ref C) (some dx) oe → (∃ vs, oe.data = .fields vs) → X.mg c = some (.ref C) → XdAt X.K X.mg F dx ns xs →
    SepE X F R H σ en [] → (∀ i, o = some i → σ[i]? = some (some (.ref a))) → wpO (h c ns xs en) (PF X pr F R σ De) (fun _ _ _ _ => False) → uSs (X.suite a ((a, oe) :: pn)) σ H suite De
/-- the expressions of a suite's tuple -/
inductive ItOk (X : Cx) (i : Nat) : List Expr → List HIt → Prop
  | nil : ItOk X i [] []
  | str {z : Str} {j : Nat} {p : Pos} {es : List Expr} {its : List HIt} (r : ItOk X i es its) : ItOk X i (.Constant (.str z) j p :: es) (.str z :: its)
  | fld {z f : Str} {pz p : Pos} {es : List Expr} {its : List HIt} (hN : X.N[i]? = some z) (hv : Vis X.env.scope z) (hd : (z == ("__debug__" : Str)) = false) (hcd : (z == ("__classdict__" : Str)) = false) (hb : attributeBase (.Name z pz) f X.env (eval (.Name z pz) X.env) = eval (.Name z pz) X.env)
      (r : ItOk X i es its) : ItOk X i (.Attribute (.Name z pz) f p :: es) (.fld f :: its)
section
variable {X : Cx} {F F' F1 H H' H1 : Hp} {R : Rv} {σ σ' σ1 : L2.St} {en en' : List D} {T T' : List (Option V × D)} {vs : List V} {os : List Op} {v x y : V} {o : Op} {d : D} {i j : Nat} {W : WX} {Q : VK} {pr : List Nat} {De : Ends} {pos : Pos} {xs : List D}
theorem fld_run {a dx C : Addr} {oe : Obj} {pn : List (Addr × Obj)} {c : Str} {ns : List Str} {z f : Str} {pz p : Pos} (hz : Zc (.ref C) (some dx) oe) (hf : ∃ vs, oe.data = .fields vs) (hC : X.mg c = some (.ref C)) (xd : XdAt X.K X.mg F dx ns xs) (fh : Le F H)
    (hs : σ[i]? = some (some (.ref a))) (hN : X.N[i]? = some z) (hv : Vis X.env.scope z) (hd : (z == ("__debug__" : Str)) = false) (hcd : (z == ("__classdict__" : Str)) = false) (hb : attributeBase (.Name z pz) f X.env (eval (.Name z pz) X.env) = eval (.Name z pz) X.env) (ok : XfOk X c f)
    (e : hIt ns xs (.fld f) = some d) (h : ∀ v, Rep X.K X.mg F v d → Q v H) : uE (X.suite a ((a, oe) :: pn)) σ H (.Attribute (.Name z pz) f p) Q := by
  obtain ⟨vs, hx, hl, rs⟩ := xd
  simp only [hIt] at e
  cases e1 : (ns.zip xs).lookup f with
  | none => rw [e1] at e; cases e
  | some d' =>
    rw [e1] at e
    dsimp only at e
    split at e
    · cases e
      obtain ⟨k, y, h1, h2, h3⟩ := lookup_zip hl rs.1 e1
      obtain ⟨T, hno⟩ := ok C hC
      obtain ⟨y', g1, g2⟩ := rs.get h2
      rw [h1] at g1
      cases g1
      exact uE.of (pe_xf (pn := pn) T hno hz hf (pe_var (X := X.suite a ((a, oe) :: pn)) (pos := pz) (i := i) hN hv hd hcd) hb) ⟨.ref a, hs, rfl, rfl, dx, _, y, rfl, fh _ _ hx, h3, h y g2⟩
    · cases e
theorem its_run {a dx C : Addr} {oe : Obj} {pn : List (Addr × Obj)} {c : Str} {ns : List Str} (hz : Zc (.ref C) (some dx) oe) (hf : ∃ vs, oe.data = .fields vs) (hC : X.mg c = some (.ref C)) (xd : XdAt X.K X.mg F dx ns xs) (fh : Le F H)
    (hs : σ[i]? = some (some (.ref a))) : ∀ {es : List Expr} {its : List HIt}, ItOk X i es its → (∀ f ∈ itFlds its, XfOk X c f) → ∀ {ds : List D} {Q : List V → Hp → Prop}, hIts ns xs its = some ds → (∀ vs, Reps X.K X.mg F vs ds → Q vs H) → uA (X.suite a ((a, oe) :: pn)) σ H es Q := by
  intro es its hk
  induction hk with
  | nil => exact fun _ {ds Q} e h => by cases e; exact uA.of pa_nil (h [] Reps.nil)
  | @str z j p es its r ih =>
    intro ok ds Q e h
    simp only [hIts, hIt] at e
    cases e1 : hIts ns xs its with
    | none => rw [e1] at e; cases e
    | some ds' =>
      rw [e1] at e
      cases e
      refine uA.of (pa_cons (X := X.suite a ((a, oe) :: pn)) pe_str (uA.pa _ es) (by rfl)) ?_
      exact ih ok e1 fun vs rs => h _ (Reps.cons (leaf_rep rfl) rs)
  | @fld z f pz p es its hN hv hd hcd hb r ih =>
    intro ok ds Q e h
    simp only [hIts] at e
    cases e0 : hIt ns xs (.fld f) with
    | none => rw [e0] at e; cases e
    | some d =>
      cases e1 : hIts ns xs its with
      | none => rw [e0, e1] at e; cases e
      | some ds' =>
        rw [e0, e1] at e
        cases e
        refine uA.of (pa_cons (X := X.suite a ((a, oe) :: pn)) (uE.pe _ _) (uA.pa _ es) (by rfl)) ?_
        exact fld_run hz hf hC xd fh hs hN hv hd hcd hb (ok f List.mem_cons_self) e0 fun v rv => ih (fun g hg => ok g (List.mem_cons_of_mem _ hg)) e1 fun vs rs => h _ (Reps.cons rv rs)
/-- g = (.., e.f, ..) -/
def hSet (cs : List Str) (j : Nat) (its : List HIt) : Str → List Str → List D → M Fl := fun c ns xs en => if cs.contains c && decide (its.length ≤ sizeLine) then (match hIts ns xs its with
  | some ds => .ok .nx (en.set j (.nd .tup ds))
  | none => .st) else .st
theorem hIts_len {ns : List Str} : ∀ {its : List HIt} {ds : List D}, hIts ns xs its = some ds → ds.length = its.length
  | [], ds, e => by cases e; rfl
  | it :: its, ds, e => by
    simp only [hIts] at e
    split at e
    · rename_i h1 h2
      cases e
      rw [List.length_cons, List.length_cons, hIts_len h2]
    · cases e
theorem hok_set {cs : List Str} {i j : Nat} {g : Str} {es : List Expr} {its : List HIt} {ctx : _} {p1 p2 p3 : Pos} (hx : ∀ c ∈ cs, ∀ f ∈ itFlds its, XfOk X c f) (hi : ItOk X i es its) (hp : j ∉ pr) (hN : X.N.Nodup) (hj : X.N[j]? = some g) (hg : Loc X.env.scope g) (hfn : X.fn g = true ∨ X.env.scope.names.lookup g = some .local)
    (hs : ∀ env : Env, swapsWith (.Tuple es ctx p2) (some (.Name g p1)) p3.line env = pure false) : HOk X pr (some i) [.Assign [.Name g p1] (.Tuple es ctx p2) p3] (hSet cs j its) := by
  refine ⟨fun a dx C oe pn F R H σ en De c ns xs hz hf hC xd S hsl h => ?_⟩
  unfold hSet at h
  split at h
  · rename_i hcs
    rw [Bool.and_eq_true, decide_eq_true_eq] at hcs
    cases e : hIts ns xs its with
    | none => rw [e] at h; exact h.elim
    | some ds =>
      rw [e] at h
      refine uSs.of (pss_one (t := fun De σ H => uS (X.suite a ((a, oe) :: pn)) σ H (.Assign [.Name g p1] (.Tuple es ctx p2) p3) De) (uS.ps _ _)) ?_
      have ev : uE (X.suite a ((a, oe) :: pn)) σ H (.Tuple es ctx p2) fun v H' => j < σ.length → De.nx (σ.set j (some v)) H' := by
        refine uE.of (pe_tup (uA.pa _ es)) ?_
        refine its_run hz hf hC xd S.sep.fh (hsl i rfl) hi (hx c (by simpa using hcs.1)) e fun vs rs => ⟨by rw [rs.1, hIts_len e]; exact hcs.2, fun p hp' hlt => ?_⟩
        obtain ⟨F', le, S'⟩ := Sep.tup S.sep rs hp'
        exact h _ _ F' le (Keep.set hp) (SepE.bind ⟨S.len, S'⟩ hlt)
      intro pins s I
      refine wpAny_Assign_Name (thn (ev pins s I) fun v s1 ⟨y, H1, I1, r1, q1⟩ => ?_) (hs _)
      exact store_ok I1 hN hj hg r1 (fun s2 I2 => ⟨_, H1, I2, q1 (by rw [I1.len]; exact (List.getElem?_eq_some_iff.mp hj).1)⟩) hfn
  · exact h.elim
/-- return [.., e.f, ..] -/
def hRetL (cs : List Str) (its : List HIt) : Str → List Str → List D → M Fl := fun c ns xs en => if cs.contains c && decide (its.length ≤ sizeLine) then (match hIts ns xs its with
  | some ds => .ok (.rt (.nd (.lst true) ds)) en
  | none => .st) else .st
theorem hok_retL {cs : List Str} {i : Nat} {es : List Expr} {its : List HIt} {p2 p3 : Pos} (hx : ∀ c ∈ cs, ∀ f ∈ itFlds its, XfOk X c f) (hi : ItOk X i es its) : HOk X pr (some i) [.Return (some (.List es p2)) p3] (hRetL cs its) := by
  refine ⟨fun a dx C oe pn F R H σ en De c ns xs hz hf hC xd S hsl h => ?_⟩
  unfold hRetL at h
  split at h
  · rename_i hcs
    rw [Bool.and_eq_true, decide_eq_true_eq] at hcs
    cases e : hIts ns xs its with
    | none => rw [e] at h; exact h.elim
    | some ds =>
      rw [e] at h
      refine uSs.of (pss_one (ps_ret (pe_lst (uA.pa _ es)))) ?_
      refine its_run hz hf hC xd S.sep.fh (hsl i rfl) hi (hx c (by simpa using hcs.1)) e fun vs rs => ⟨by rw [rs.1, hIts_len e]; exact hcs.2, fun p hp' => ?_⟩
      exact h _ σ _ F (Le.refl F) (Keep.refl pr σ) ⟨S.len, Sep.lst S.sep rs hp'⟩
  · exact h.elim
structure Hd where
  test : Str → Option Bool
  i : Option Nat
  h : Str → List Str → List D → M Fl
def unE (o : Option Nat) (en : List D) : List D := match o with
  | some i => en.set i .un
  | none => en
def handle : List Hd → Str → List Str → List D → M Fl
  | [], c, ns, xs, en => .ex c ns xs en
  | q :: r, c, ns, xs, en => match q.test c with
    | some true => match q.h c ns xs (unE q.i en) with
      | .ok (.rt d) en' => .ok (.rt d) en'
      | .ok fl en' => .ok fl (unE q.i en')
      | _ => .st
    | some false => handle r c ns xs en
    | none => .st
def sTry (fb : M Fl) (hs : List Hd) : M Fl := fun en => match fb en with
  | .ok fl en' => .ok fl en'
  | .ex c ns xs en' => handle hs c ns xs en'
  | .st => .st
/-- the test of a clause tells what exmOne tells -/
def TestOk (X : Cx) (test : Str → Option Bool) (c : Value) : Prop := ∀ x b, test x = some b → ∀ C, X.mg x = some (.ref C) → PySem.W.exmOne X.K (.ref C) c = some b
/-- the clauses of a try, each with what it does -/
inductive HdsP (X : Cx) (pr : List Nat) : List ExceptHandler → List Hd → List Cl → Prop
  | nil : HdsP X pr [] [] []
  | named {x n : Str} {i : Nat} {c : Value} {b₀ : Stmt} {suite : List Stmt} {np pos' : Pos} {hds : List ExceptHandler} {l : List Cl} {qs : List Hd} {test : Str → Option Bool} {h : Str → List Str → List D → M Fl} (hc : Names X x c) (hi : X.N[i]? = some n) (hln : X.env.kindOf n = some .local) (hp : i ∉ pr)
      (ht : TestOk X test c) (hh : HOk X pr (some i) (b₀ :: suite) h) (r : HdsP X pr hds qs l) : HdsP X pr (.ExceptHandler (some (.Name x np)) (some n) (b₀ :: suite) pos' :: hds) (⟨test, some i, h⟩ :: qs) (⟨c, some i, fun a cls d De σ H => ∀ oe pn, Zc cls d oe → (∃ vs, oe.data = .fields vs) → uSs (X.suite a ((a, oe) :: pn)) σ H (b₀ :: suite) De⟩ :: l)
  | plain {x : Str} {c : Value} {b₀ : Stmt} {suite : List Stmt} {np pos' : Pos} {hds : List ExceptHandler} {l : List Cl} {qs : List Hd} {test : Str → Option Bool} {h : Str → List Str → List D → M Fl} (hc : Names X x c)
      (ht : TestOk X test c) (hh : HOk X pr none (b₀ :: suite) h) (r : HdsP X pr hds qs l) : HdsP X pr (.ExceptHandler (some (.Name x np)) none (b₀ :: suite) pos' :: hds) (⟨test, none, h⟩ :: qs) (⟨c, none, fun a cls d De σ H => ∀ oe pn, Zc cls d oe → (∃ vs, oe.data = .fields vs) → uSs (X.suite a ((a, oe) :: pn)) σ H (b₀ :: suite) De⟩ :: l)
theorem HdsP.ok {hds : List ExceptHandler} {qs : List Hd} {l : List Cl} (h : HdsP X pr hds qs l) : ClsOk X hds l := by
  induction h with
  | nil => exact .nil
  | named hc hi hln hp ht hh r ih => exact .named hc hi hln (fun a oe cls d pn hz hf => ⟨fun pins s σ H D I q => q oe pn hz hf pins s I⟩) ih
  | plain hc ht hh r ih => exact .plain hc (fun a oe cls d pn hz hf => ⟨fun pins s σ H D I q => q oe pn hz hf pins s I⟩) ih
theorem handle_run {hds : List ExceptHandler} {qs : List Hd} {l : List Cl} (h : HdsP X pr hds qs l) {c : Str} {ns : List Str} {C dx : Addr} (hC : X.mg c = some (.ref C)) (xd : XdAt X.K X.mg F dx ns xs) (S : SepE X F R H σ en []) (hw : wpO (handle qs c ns xs en) (PF X pr F R σ De) (PXs X W pr F R σ)) :
    wCl X.K W De l (.ref C) (some dx) σ H := by
  induction h with
  | nil => exact hw C dx σ H F (Le.refl F) hC (Keep.refl pr σ) xd S
  | @named x n i c' b₀ suite np pos' hds l qs test h hc hi hln hp ht hh r ih =>
    simp only [handle] at hw
    cases e : test c with
    | none => rw [e] at hw; exact hw.elim
    | some b =>
      rw [e] at hw
      refine ⟨b, ht c b e C hC, fun hb a na oe pn hz hf => ?_, fun hb => ?_⟩
      · subst hb
        intro pins s I
        have hlt : i < σ.length := by
          have e1 : (σ.set i (some (.ref a))).length = X.N.length := I.len
          rw [List.length_set] at e1
          rw [e1]; exact (List.getElem?_eq_some_iff.mp hi).1
        have S1 : SepE X F R H (σ.set i (some (.ref a))) (en.set i .un) [] := SepE.bind (x := .ref a) (d := .un) (S.add (leaf_rep (d := .un) trivial)) hlt
        refine hh.run a dx C oe pn F R H (σ.set i (some (.ref a))) (en.set i .un) (endsE (some i) De) c ns xs hz hf hC xd S1 (fun k hk => by cases hk; rw [List.getElem?_set_self hlt]) ?_ pins s I
        have hk : Keep pr σ (σ.set i (some (.ref a))) := Keep.set hp
        have fin : ∀ {σ' : L2.St} {en' : List D} {H' F' : Hp}, Keep pr (σ.set i (some (.ref a))) σ' → SepE X F' R H' σ' en' [] → Keep pr σ (σ'.set i none) ∧ SepE X F' R H' (σ'.set i none) (en'.set i .un) [] := fun {σ' en' H' F'} kk S' =>
          ⟨(hk.trans kk).trans (Keep.set hp), S'.wipe1 i⟩
        dsimp only [unE] at hw
        revert hw
        cases h c ns xs (en.set i .un) with
        | st => exact fun hw => hw.elim
        | ex => exact fun hw => hw.elim
        | ok fl en' =>
          intro hw
          cases fl with
          | rt d => exact fun v σ' H' F' le kk S' => hw v σ' H' F' le (hk.trans kk) S'
          | nx => exact fun σ' H' F' le kk S' => hw _ H' F' le (fin kk S').1 (fin kk S').2
          | bk => exact fun σ' H' F' le kk S' => hw _ H' F' le (fin kk S').1 (fin kk S').2
          | ct => exact fun σ' H' F' le kk S' => hw _ H' F' le (fin kk S').1 (fin kk S').2
      · subst hb
        exact ih hw
  | @plain x c' b₀ suite np pos' hds l qs test h hc ht hh r ih =>
    simp only [handle] at hw
    cases e : test c with
    | none => rw [e] at hw; exact hw.elim
    | some b =>
      rw [e] at hw
      refine ⟨b, ht c b e C hC, fun hb a na oe pn hz hf => ?_, fun hb => ?_⟩
      · subst hb
        refine hh.run a dx C oe pn F R H σ en _ c ns xs hz hf hC xd S (fun k hk => nomatch hk) ?_
        dsimp only [unE] at hw
        revert hw
        cases h c ns xs en with
        | st => exact fun hw => hw.elim
        | ex => exact fun hw => hw.elim
        | ok fl en' => intro hw; cases fl <;> exact hw
      · subst hb
        exact ih hw
/-- try: .. except A as e: .. except B as e: .. -/
theorem ds_try {body : List Stmt} {fb : M Fl} {h₀ : ExceptHandler} {hds : List ExceptHandler} {qs : List Hd} {l : List Cl} (hs : X.stack = X.env :: X.outer) (hf : X.env.frame = some X.env.locals) (hN : X.N.Nodup)
    (hb : ∀ (pn : List (Addr × Obj)) (xe : Value → Shared → Prop), PassesOwn (model X.prog X.w) X.A X.env xe → DSs (X.tr pn xe) pr body fb) (hh : HdsP X pr (h₀ :: hds) qs l) : DS X pr (.Try body (h₀ :: hds) [] [] pos) (sTry fb qs) := by
  refine ⟨fun W F R H σ en De tk S h => ?_⟩
  refine uS.of (ps_try_cls (tb := fun W De σ H => ∀ pn xe, Takes (X.tr pn xe) W → PassesOwn (model X.prog X.w) X.A X.env xe → uSs (X.tr pn xe) σ H body De) hs hf hN tk (fun W pn xe tk hp => ⟨fun pins s σ H D I q => q pn xe tk hp pins s I⟩) hh.ok) ?_
  intro pn xe tk' hp
  refine (hb pn xe hp).run _ F R H σ en De tk' S ?_
  unfold sTry at h
  revert h
  cases fb en with
  | st => exact fun h => h.elim
  | ok fl en' => exact fun h => h
  | ex c ns xs en' =>
    intro h C dx σ' H' F' le hC kk xd S'
    exact handle_run hh hC xd S' (wpO_mono h (fun _ _ q => q.on le kk) fun _ _ _ _ q => q.on le kk)
end
end PI
set_option maxHeartbeats 3900000
namespace PI
open L2 PySem PyProof.Rows PySem.Spec
variable [Tb]
section
variable {X : Cx} {K : PySem.W.Frag} {mg : Str → Option Value} {F F' F1 H H' H1 : Hp} {R : Rv} {σ σ' σ1 : L2.St} {L : List (Option V × D)} {en en' : List D} {T T' : List (Option V × D)} {vs : List V} {os : List Op} {v x y : V} {o : Op} {d : D} {i j : Nat} {W : WX} {Q : VK} {pr : List Nat} {De : Ends} {pos : Pos} {xs : List D}
theorem Sep.extN (S : Sep K mg F R H L) (e : LamX.ExtN H H1) (t : LamX.Tabs Tb.T H1) : Sep K mg F R H1 L := by
  obtain ⟨A, f, n, q⟩ := S.fo
  refine ⟨fun a o h => e a o (S.fh a o h) (S.nf a o h), fun a o h => e a o (S.rh a o h) (S.nr a o h), S.rf, S.nf, S.nr, t, A, f.frame fun a ha => ?_, n, q⟩
  obtain ⟨o, ho⟩ := f.there a ha
  rw [e a o ho (f.tame a ha o ho).1, ho]
theorem SepE.extN (S : SepE X F R H σ en T) (e : LamX.ExtN H H1) (t : LamX.Tabs Tb.T H1) : SepE X F R H1 σ en T := ⟨S.len, S.sep.extN e t⟩
def isUn : D → Bool
  | .un => true
  | _ => false
def hres (r : O Fl) (j : Nat) : Option D := match r with
  | .ok .nx en => if isFz (en.getD j .un) && !isUn (en.getD j .un) then some (en.getD j .un) else none
  | .ok (.rt d) _ => some d
  | _ => none
/-- try: g = (told, a()) / except ..: return g: what comes of the lambda's end -/
def resA (told : Str) (n j : Nat) (qs : List Hd) (r : O Op) : O Op := match r with
  | .ok o en => .ok (.v (.nd .tup [.str told, cool (escD en o)])) (escE en o)
  | .ex c ns xs en => match hres (handle qs c ns xs (List.replicate n .un)) j with
    | some d => .ok (.v d) en
    | none => .st
  | .st => .st
/-- the wish of an exception of the lambda -/
def EchA (K : PySem.W.Frag) (mg : Str → Option Value) (n j : Nat) (qs : List Hd) (Q : VK) : XK := fun cls d H' => ∃ F R c ns xs C dx r, cls = .ref C ∧ d = some dx ∧ mg c = some (.ref C) ∧ XdAt K mg F dx ns xs ∧ Sep K mg F R H' [] ∧
  hres (handle qs c ns xs (List.replicate n .un)) j = some r ∧ ∀ v H2 F2, Le F F2 → Sep K mg F2 R H2 [(some v, r)] → Q v H2
def TTA (K : PySem.W.Frag) (mg : Str → Option Value) (told : Str) (n j : Nat) (qs : List Hd) : (XK → Hp → VK → Prop) → Hp → VK → Prop := fun tl H Q =>
  tl (EchA K mg n j qs Q) H (fun v H' => ∃ F R d, Sep K mg F R H' [(some v, d)] ∧ ∀ w H2 F2, Le F F2 → Sep K mg F2 R H2 [(some w, .nd .tup [.str told, cool d])] → Q w H2)
theorem sepE_un {R : Rv} (S : Sep X.K X.mg F R H L) (hl : σ.length = n) : SepE X F R H σ (List.replicate n .un) L := by
  refine ⟨by rw [List.length_replicate]; exact hl, ?_⟩
  obtain ⟨A', f, nn, q⟩ := S.fo
  refine ⟨S.fh, S.rh, S.rf, S.nf, S.nr, S.tb, A', ?_, nn, q⟩
  have := f.app (fo_un (K := X.K) (mg := X.mg) (F := F) (H := H) σ n)
  rwa [List.append_nil] at this
/-- the state behind a suite, g returned -/
theorem ret_of {j : Nat} {g : Str} {p p' : Pos} (hN : X.N[j]? = some g) (hv : Vis X.env.scope g) (hd : (g == ("__debug__" : Str)) = false) (hcd : (g == ("__classdict__" : Str)) = false) (S : SepE X F R H σ en []) (hz : isFz (en.getD j .un) = true) (hnu : en.getD j .un ≠ .un)
    (h : ∀ v, Sep X.K X.mg F R H [(some v, en.getD j .un)] → De.rt v H) : uSs X σ H [.Return (some (.Name g p)) p'] De := by
  refine uSs.of (pss_one (ps_ret (pe_var hN hv hd hcd))) ?_
  obtain ⟨b, hb⟩ := slot_some S hnu
  refine ⟨b, hb, h b ?_⟩
  have m := mem_slot S.len hb
  have S1 := S.sep.add (Sep.rep_mem S.sep m hz)
  rw [show (some b, en.getD j .un) :: ([] ++ σ.zip en) = [(some b, en.getD j .un)] ++ σ.zip en from rfl] at S1
  exact S1.left
end
section
variable {X : Cx} {Ng : List Str} {x a g q told : Str} {sg : Scope} {ga : Addr} {cdg : Value} {j jt : Nat} {h₀ : ExceptHandler} {hds : List ExceptHandler} {qs : List Hd} {ctx : Nat} {p1 p2 p3 p4 p5 p6 p7 p8 p9 : Pos}
abbrev zCx (X : Cx) (Ng : List Str) (x : Str) (sg : Scope) (ga : Addr) (cdg : Value) (s : Shared) (H : Hp) : Cx := (cxOf C8.CX0 X.prog X.w X.K X.mg X.base Ng x sg ga cdg X.A X.stack s H C8.E0).nox
theorem wCl_bad {pr : List Nat} {hds : List ExceptHandler} {qs : List Hd} {l : List Cl} {σ : L2.St} {H : Hp} {De : Ends} {W : WX} {en : List D} (h : HdsP X pr hds qs l) (hne : σ.length ≠ X.N.length) {c : Str} {ns : List Str} {xs : List D} {C dx : Addr} (hr : ∃ fl en', handle qs c ns xs en = .ok fl en') (hC : X.mg c = some (.ref C)) :
    wCl X.K W De l (.ref C) (some dx) σ H := by
  induction h with
  | nil => obtain ⟨_, _, z⟩ := hr; cases z
  | @named x n i c' b₀ suite np pos' hds l qs test h hc hi hln hp ht hh r ih =>
    simp only [handle] at hr
    cases e : test c with
    | none => rw [e] at hr; obtain ⟨_, _, z⟩ := hr; cases z
    | some b =>
      rw [e] at hr
      refine ⟨b, ht c b e C hC, fun hb a na oe pn hz hf pins s I => ?_, fun hb => ?_⟩
      · have e1 : (σ.set i (some (.ref a))).length = X.N.length := I.len
        rw [List.length_set] at e1
        exact absurd e1 hne
      · subst hb
        exact ih hr
  | @plain x c' b₀ suite np pos' hds l qs test h hc ht hh r ih =>
    simp only [handle] at hr
    cases e : test c with
    | none => rw [e] at hr; obtain ⟨_, _, z⟩ := hr; cases z
    | some b =>
      rw [e] at hr
      refine ⟨b, ht c b e C hC, fun hb a na oe pn hz hf pins s I => ?_, fun hb => ?_⟩
      · exact absurd I.len hne
      · subst hb
        exact ih hr
theorem pe_weak {X : Cx} {e : Expr} {t : TE} (h : PE X e t) : PE X e (fun σ H Q => ∃ Q0 : VK, t σ H Q0 ∧ ∀ v H', Q0 v H' → Q v H') := ⟨fun pins s σ H Q I ⟨Q0, q, m⟩ => thn (h.run pins s σ H Q0 I q) fun u s' ⟨v, H', I', r, q⟩ => ⟨v, H', I', r, m v H' q⟩⟩
theorem givesA (hnd : Ng.Nodup) (hj : Ng[j]? = some g) (hlg : sg.names.lookup g = some .local) (hdg : (g == ("__debug__" : Str)) = false) (hcg : (g == ("__classdict__" : Str)) = false)
    (hs : ∀ env : Env, swapsWith (.Tuple [.Constant (.str told) jt p4, .Call (.Name a p1) [] [] p2] ctx p5) (some (.Name g p3)) p6.line env = pure false)
    (hh : ∀ s H, ∃ l, HdsP (zCx X Ng x sg ga cdg s H) [] (h₀ :: hds) qs l) :
    LamX.GivesTo X Ng x sg ga cdg [.Try [.Assign [.Name g p3] (.Tuple [.Constant (.str told) jt p4, .Call (.Name a p1) [] [] p2] ctx p5) p6] (h₀ :: hds) [] [] p7, .Return (some (.Name g p8)) p9] a q (TTA X.K X.mg told Ng.length j qs) := by
  intro f c' s H Q tl act hc h
  obtain ⟨l, hl⟩ := hh s H
  have hjl : j < Ng.length := (List.getElem?_eq_some_iff.mp hj).1
  have hlen : (L2.start Ng [V.ref f]).length = Ng.length := by
    unfold L2.start
    simp only [List.map_cons, List.map_nil, List.length_append, List.length_cons, List.length_nil, List.length_replicate]
    omega
  refine ⟨_, pss_cons (ps_try_cls (X := zCx X Ng x sg ga cdg s H) (tb := fun W De σ H => ∃ (Ech : XK) (Q0 : VK), (∀ cls d σ' H', Ech cls d H' → W cls d σ' H') ∧ σ.length = Ng.length ∧ σ[0]? = some (some (.ref f)) ∧ H c' = some (LamX.CodeO c' q) ∧
      tl Ech H Q0 ∧ ∀ v H', Q0 v H' → ∀ p, H' p = none → De.nx (σ.set j (some (.ref p))) (upd H' p (.tup [.str told, v]))) rfl rfl hnd takes0 (fun W pn xe tk hp => ?_) hl.ok) (uSs.pss _ _), ?_⟩
  · refine ⟨?_⟩
    intro pins s' σ H' D I h'
    obtain ⟨Ech, Q0, hW, h0, h1, h2, h3, h4⟩ := h'
    have hE := pe_tup (x1 := ctx) (pos := p5) (pa_cons (pe_str (X := (zCx X Ng x sg ga cdg s H).tr pn xe) (x := told) (j := jt) (pos := p4)) (pa_cons (pe_weak (act W pn xe Ech p1 p2 tk hW)) pa_nil (by rfl)) (by rfl))
    have hS : uS ((zCx X Ng x sg ga cdg s H).tr pn xe) σ H' (.Assign [.Name g p3] (.Tuple [.Constant (.str told) jt p4, .Call (.Name a p1) [] [] p2] ctx p5) p6) D := by
     intro pins s1 I
     refine wpAny_Assign_Name (thn (hE.run pins s1 σ H' (fun v H1 => j < σ.length → D.nx (σ.set j (some v)) H1) I ?_) fun v s1 ⟨y, H1, I1, r1, q1⟩ => ?_) (hs _)
     · exact ⟨Q0, ⟨h1, h2, h3⟩, fun v H1 q => ⟨by rw [sizeLine_eq]; simp, fun p hp _ => h4 v H1 q p hp⟩⟩
     · exact store_ok I1 hnd hj (.inl hlg) r1 (fun s2 I2 => ⟨_, H1, I2, q1 (by rw [I1.len]; exact hjl)⟩) (.inr hlg)
    exact (pss_one (uS.ps ((zCx X Ng x sg ga cdg s H).tr pn xe) _)).run pins s' σ H' D I hS
  · refine ⟨EchA X.K X.mg Ng.length j qs Q, _, ?_, hlen, rfl, hc, h, ?_⟩
    · intro cls d σ' H' he
      obtain ⟨F, R, c, ns, xs, C, dx, r, rfl, rfl, hC, xd, S, er, k⟩ := he
      by_cases hsl : σ'.length = Ng.length
      · have S1 : SepE (zCx X Ng x sg ga cdg s H) F R H' σ' (List.replicate Ng.length .un) [] := sepE_un S hsl
        refine handle_run hl hC xd S1 ?_
        revert er
        cases handle qs c ns xs (List.replicate Ng.length .un) with
        | st => exact fun er => nomatch er
        | ex => exact fun er => nomatch er
        | ok fl en =>
          cases fl with
          | nx =>
            intro er
            simp only [hres] at er
            split at er
            · rename_i hz
              rw [Bool.and_eq_true] at hz
              cases er
              intro σ2 H2 F2 le kk S2
              exact ret_of (X := zCx X Ng x sg ga cdg s H) hj (.inl hlg) hdg hcg S2 hz.1 (fun z => by rw [z] at hz; exact absurd hz.2 Bool.false_ne_true) fun v S3 => k v H2 F2 le S3
            · cases er
          | rt d =>
            intro er
            cases er
            exact fun v σ2 H2 F2 le kk S2 => k v H2 F2 le S2.sep.left
          | bk => exact fun er => nomatch er
          | ct => exact fun er => nomatch er
      · refine wCl_bad hl hsl ?_ hC (en := List.replicate Ng.length .un) (c := c) (ns := ns) (xs := xs)
        revert er
        cases handle qs c ns xs (List.replicate Ng.length .un) with
        | st => exact fun er => nomatch er
        | ex => exact fun er => nomatch er
        | ok fl en => exact fun _ => ⟨fl, en, rfl⟩
    · intro v H' hq p hp
      obtain ⟨F, R, d, S, k⟩ := hq
      have S1 : SepE (zCx X Ng x sg ga cdg s H) F R H' (L2.start Ng [V.ref f]) (List.replicate Ng.length .un) [(some v, d)] := sepE_un S hlen
      obtain ⟨F2, le2, S2, r2⟩ := S1.coolTmp
      have rs : Reps X.K X.mg F2 [.str told, v] [.str told, cool d] := Reps.cons (leaf_rep rfl) (Reps.cons r2 Reps.nil)
      obtain ⟨F3, le3, S3⟩ := Sep.tup S2.sep rs hp
      have S4 : SepE (zCx X Ng x sg ga cdg s H) F3 R (upd H' p (.tup [.str told, v])) ((L2.start Ng [V.ref f]).set j (some (.ref p))) ((List.replicate Ng.length .un).set j (.nd .tup [.str told, cool d])) [] := SepE.bind ⟨S2.len, S3⟩ (by rw [hlen]; exact hjl)
      have eg : ((List.replicate Ng.length D.un).set j (.nd .tup [.str told, cool d])).getD j .un = .nd .tup [.str told, cool d] := by
        rw [List.getD_eq_getElem?_getD, List.getElem?_set_self (by rw [List.length_replicate]; exact hjl)]; rfl
      refine ret_of (X := zCx X Ng x sg ga cdg s H) hj (.inl hlg) hdg hcg S4 ?_ ?_ fun w S5 => ?_
      · rw [eg]; simp only [isFz, isFzL, Kd.own, cool_isFz, Bool.not_false, Bool.and_self]
      · rw [eg]; exact fun z => nomatch z
      · rw [eg] at S5
        exact k w _ F3 (le2.trans le3) S5
theorem do_lamA {c P : Addr} {k : Nat} {pg : Arguments} {dV kV doc pm ct oc : Value} {an od : Option Addr} {osl : Array (Option Value)} {params : Arguments} {body : Expr} {scope : Scope} {fb : M Op} {p lpos pos : Pos} (hnd : Ng.Nodup) (hj : Ng[j]? = some g) (hlg : sg.names.lookup g = some .local) (hdg : (g == ("__debug__" : Str)) = false) (hcg : (g == ("__classdict__" : Str)) = false)
    (hs : ∀ env : Env, swapsWith (.Tuple [.Constant (.str told) jt p4, .Call (.Name a p1) [] [] p2] ctx p5) (some (.Name g p3)) p6.line env = pure false)
    (hh : ∀ s H, ∃ l, HdsP (zCx X Ng x sg ga cdg s H) [] (h₀ :: hds) qs l)
    (hg : Gl X x) (hm : X.mg x = some (.ref ga)) (hk : PySem.W.keepIn X.K (.ref ga) = true)
    (lk : X.K.lookup ga = some ⟨oc, od, .func (PySem.W.fnOf x x pg [.Try [.Assign [.Name g p3] (.Tuple [.Constant (.str told) jt p4, .Call (.Name a p1) [] [] p2] ctx p5) p6] (h₀ :: hds) [] [] p7, .Return (some (.Name g p8)) p9] sg dV kV doc pm an cdg ct), osl⟩) (hcg2 : PySem.W.codeIn X.K cdg x = true)
    (hb : L2.Binds X.K (PySem.W.fnOf x x pg [.Try [.Assign [.Name g p3] (.Tuple [.Constant (.str told) jt p4, .Call (.Name a p1) [] [] p2] ctx p5) p6] (h₀ :: hds) [] [] p7, .Return (some (.Name g p8)) p9] sg dV kV doc pm an cdg ct) [a] []) (Sg : FnScope Ng [a] sg) (hNg : Ng[0]? = some a) (hva : Vis sg a)
    (TB : LamX.TabB X.base X.mg c P) (hcode : X.env.code = .ref c) (hmT : (P, X.env.qual ++ "<lambda>") ∈ Tb.T) (hu : ∀ p ∈ Tb.T, p.1 = P → p.2 = X.env.qual ++ "<lambda>") (hr : Room (k + 2) X.A) (Lm : LamX.LamS X.env.scope scope) (hdef : defaultsOf params X.env = ([], []))
    (hbind : ∀ (q : Str) (cl : List (Str × Addr)) (pm cv ctv : Value), PySem.bindArgs (PySem.W.kla_fn "<lambda>" q params body scope cl pm cv ctv) ⟨[], []⟩ = pure [])
    (hbody : ∀ (A : Around) (outer : List Env) (s : Shared) (H : Hp) (E : XK) (f c' : Addr), Room k (A.deeper (LamX.lamEnv X scope s.heap.objs.size f c')) → DO (LamX.lamCx X A outer s H E scope f c') body fb)
    (hdb : ((x == ("__debug__" : Str)) = false) := by decide) (hd : ((a == ("__debug__" : Str)) = false) := by decide) (hcd : (a == ("__classdict__" : Str)) = false := by decide) :
    DO X (.Call (.Name x p) [.Lambda params body scope lpos] [] pos) (fun en => resA told Ng.length j qs (fb en)) := by
  refine ⟨fun W F R H σ en Q tk S h => uE.of (LamX.pe_lamcall (T := Tb.T) (t := fun E σ H Q => ∀ A outer s H0 f c', Room k (A.deeper (LamX.lamEnv X scope s.heap.objs.size f c')) → uE (LamX.lamCx X A outer s H0 E scope f c') σ H body Q) hg hm hk lk hcg2 hb Sg hNg hva
    (givesA hnd hj hlg hdg hcg hs hh) TB hcode hmT hu hr Lm hdef hbind (fun A outer s H E f c' hr => ⟨fun pins s' σ H' Q I h => h A outer s H f c' hr pins s' I⟩) hdb hd hcd) ⟨S.sep.tb, fun H1 eN T1 => ?_⟩⟩
  show ∀ A outer s H0 f c', _ → _
  intro A outer s H0 f c' hr2
  have S1 := S.extN eN T1
  refine (hbody A outer s H0 _ f c' hr2).run (fun cls d _ H => EchA X.K X.mg Ng.length j qs Q cls d H) F R H1 σ en _ (takes_of rfl rfl rfl rfl) S1 ?_
  revert h
  unfold resA
  cases fb en with
  | st => exact fun h => h.elim
  | ok o en' =>
    intro h v H' F' le S2
    obtain ⟨F3, le3, S3⟩ := SepE.esc' S2.2 S2
    obtain ⟨R2, S4, back⟩ := Sep.lend (L1 := [(some v, escD en' o)]) (L2 := σ.zip (escE en' o)) S3.sep
    exact ⟨F3, R2, _, S4, fun w H2 F2 le2 S5 => h w H2 F2 (le.trans (le3.trans le2)) ⟨trivial, S3.len, back F2 H2 _ le2 S5⟩⟩
  | ex c0 ns xs en' =>
    intro h C dx H' F' le hC xd S2
    dsimp only at h
    obtain ⟨R2, S4, back⟩ := Sep.lend (L1 := []) (L2 := σ.zip en') S2.sep
    cases e : hres (handle qs c0 ns xs (List.replicate Ng.length .un)) j with
    | none => rw [e] at h; exact h.elim
    | some r =>
      rw [e] at h
      exact ⟨F', R2, c0, ns, xs, C, dx, r, rfl, rfl, hC, xd, S4, e, fun v H2 F2 le2 S5 => h v H2 F2 (le.trans le2) ⟨trivial, S2.len, back F2 H2 _ le2 S5⟩⟩
end
end PI
set_option maxHeartbeats 3900000
namespace PI
open L2 PySem PyProof.Rows PySem.Spec
variable [Tb]
section
variable {X : Cx} {F F' F1 H H' H1 : Hp} {R : Rv} {σ σ' σ1 : L2.St} {en en' : List D} {T T' : List (Option V × D)} {vs : List V} {os : List Op} {v x y : V} {o : Op} {d : D} {i j l : Nat} {W : WX} {Q : VK} {pr : List Nat} {De : Ends} {pos : Pos} {xs : List D}
def setsD : List Nat → List D → List D → Option (List D)
  | [], [], en => some en
  | i :: is, d :: ds, en => setsD is ds (en.set i d)
  | _, _, _ => none
def sPar (is : List Nat) (fa : M (List Op)) : M Fl := bd fa fun os => fun en => match setsD is (escs os en).1 (escs os en).2 with
  | some en' => .ok .nx en'
  | none => .st
theorem manyS {es : List Expr} {fa : M (List Op)} {k : List Op → M Fl} (h1 : DOs X es fa) (tk : Takes X W) (S : SepE X F R H σ en []) (h : wpO (bd fa k en) (PF X pr F R σ De) (PXs X W pr F R σ)) {Q2 : List V → Hp → Prop}
    (hk : ∀ vs os en2 F2 H2, os.length = es.length → Le F F2 → OpsS X F2 R H2 σ en2 vs os → wpO (k os en2) (PF X pr F R σ De) (PXs X W pr F R σ) → Q2 vs H2) : uA X σ H es Q2 := by
  rw [wpO_bd] at h
  exact h1.run W F R H σ en _ tk S (wpO_mono (wpO_eq h) (fun a en1 ⟨e, h⟩ x H1 F1 le1 S1 => hk x a en1 F1 H1 (h1.len _ _ _ e) le1 S1 h) fun _ _ _ _ q => q.toC)
theorem ds_par {nx ny : Str} {a b : Expr} {fa : M (List Op)} {px py pt : Pos} {kt k2 : Nat} {pt2 : Pos} (ha : DOs X [a, b] fa) (hp : i ∉ pr ∧ j ∉ pr := by decide) (hc : X.calm = true := by rfl) (hN : X.N.Nodup := by exact FnScope.nd (by assumption)) (hi : X.N[i]? = some nx := by rfl) (hj : X.N[j]? = some ny := by rfl) (hij : i ≠ j := by decide)
    (hx : X.env.scope.names.lookup nx = some .local := by rfl) (hy : X.env.scope.names.lookup ny = some .local := by rfl)
    (hw : swappedStores [.Tuple [.Name nx px, .Name ny py] kt pt] (.Tuple [a, b] k2 pt2) X.env = pure (some [nx, ny]) := by rfl)
    (hs : swapsWithSole [.Tuple [.Name nx px, .Name ny py] kt pt] (.Tuple [a, b] k2 pt2) pos.line X.env = pure false := by rfl) :
    DS X pr (.Assign [.Tuple [.Name nx px, .Name ny py] kt pt] (.Tuple [a, b] k2 pt2) pos) (sPar [i, j] fa) := by
  refine ⟨fun W F R H σ en De tk S h pins s I => (ps_par hc hN hi hj hij hx hy (uA.pa X [a, b]) hw hs).run pins s σ H De I ?_⟩
  have li : i < σ.length := by rw [I.len]; exact (List.getElem?_eq_some_iff.mp hi).1
  have lj : j < σ.length := by rw [I.len]; exact (List.getElem?_eq_some_iff.mp hj).1
  unfold sPar at h
  refine manyS ha tk S h fun vs os en2 F2 H2 hl le S2 h => ?_
  obtain ⟨F3, le3, S3, hl3⟩ := escs_ok (T := []) S2.1 (by rw [List.append_nil]; exact S2.2)
  have hlv : vs.length = 2 := by rw [S2.1.len, hl]; rfl
  revert h S3 hl3
  generalize (escs os en2).1 = ds
  generalize (escs os en2).2 = en3
  intro h S3 hl3
  match vs, hlv, ds, hl3, S3, h with
  | [v, w], _, [d, e], _, S3, h =>
    refine ⟨v, w, rfl, h _ H2 F3 (le.trans le3) ((Keep.set hp.1).trans (Keep.set hp.2)) ?_⟩
    exact SepE.bind (SepE.bind (T := [(some w, e)]) S3 li) (by rw [List.length_set]; exact lj)
theorem ds_par3 {nx ny nz : Str} {a b c : Expr} {fa : M (List Op)} {px py pz pt : Pos} {kt k2 : Nat} {pt2 : Pos} (ha : DOs X [a, b, c] fa) (hp : i ∉ pr ∧ j ∉ pr ∧ l ∉ pr := by decide) (hc : X.calm = true := by rfl) (hN : X.N.Nodup := by exact FnScope.nd (by assumption)) (hi : X.N[i]? = some nx := by rfl) (hj : X.N[j]? = some ny := by rfl) (hk : X.N[l]? = some nz := by rfl) (hij : i ≠ j := by decide) (hil : i ≠ l := by decide) (hjl : j ≠ l := by decide)
    (hx : X.env.scope.names.lookup nx = some .local := by rfl) (hy : X.env.scope.names.lookup ny = some .local := by rfl) (hz : X.env.scope.names.lookup nz = some .local := by rfl)
    (hw : swappedStores [.Tuple [.Name nx px, .Name ny py, .Name nz pz] kt pt] (.Tuple [a, b, c] k2 pt2) X.env = pure (some [nx, ny, nz]) := by rfl)
    (hs : swapsWithSole [.Tuple [.Name nx px, .Name ny py, .Name nz pz] kt pt] (.Tuple [a, b, c] k2 pt2) pos.line X.env = pure false := by rfl) :
    DS X pr (.Assign [.Tuple [.Name nx px, .Name ny py, .Name nz pz] kt pt] (.Tuple [a, b, c] k2 pt2) pos) (sPar [i, j, l] fa) := by
  refine ⟨fun W F R H σ en De tk S h pins s I => (ps_par3 hc hN hi hj hk hij hil hjl hx hy hz (uA.pa X [a, b, c]) hw hs).run pins s σ H De I ?_⟩
  have li : i < σ.length := by rw [I.len]; exact (List.getElem?_eq_some_iff.mp hi).1
  have lj : j < σ.length := by rw [I.len]; exact (List.getElem?_eq_some_iff.mp hj).1
  have ll : l < σ.length := by rw [I.len]; exact (List.getElem?_eq_some_iff.mp hk).1
  unfold sPar at h
  refine manyS ha tk S h fun vs os en2 F2 H2 hl le S2 h => ?_
  obtain ⟨F3, le3, S3, hl3⟩ := escs_ok (T := []) S2.1 (by rw [List.append_nil]; exact S2.2)
  have hlv : vs.length = 3 := by rw [S2.1.len, hl]; rfl
  revert h S3 hl3
  generalize (escs os en2).1 = ds
  generalize (escs os en2).2 = en3
  intro h S3 hl3
  match vs, hlv, ds, hl3, S3, h with
  | [v, w, u], _, [d, e, f], _, S3, h =>
    refine ⟨v, w, u, rfl, h _ H2 F3 (le.trans le3) (((Keep.set hp.1).trans (Keep.set hp.2.1)).trans (Keep.set hp.2.2)) ?_⟩
    exact SepE.bind (SepE.bind (T := [(some u, f)]) (SepE.bind (T := [(some w, e), (some u, f)]) S3 li) (by rw [List.length_set]; exact lj)) (by rw [List.length_set, List.length_set]; exact ll)
def sAug (i : Nat) (g : D → D → Option D) (fe : M Op) : M Fl := fun en => match en.getD i .un with
  | .un => .st
  | _ => (fe en).bd fun o en2 => match g (en2.getD i .un) (res en2 o) with
    | some r => .ok .nx (en2.set i r)
    | none => .st
theorem ds_aug {op : Operator} {g : D → D → Option D} {nx : Str} {e : Expr} {fe : M Op} {pos' : Pos} (hg : Prim2 X (inplaceOp op) g) (h1 : DO X e fe) (hp : i ∉ pr := by decide) (hN : X.N.Nodup := by exact FnScope.nd (by assumption)) (hi : X.N[i]? = some nx := by rfl) (hx : Loc X.env.scope nx := by first | exact Or.inl rfl | exact Or.inr rfl)
    (hf : X.fn nx = true ∨ X.env.scope.names.lookup nx = some .local := by first | exact .inl rfl | exact .inr rfl | assumption) : DS X pr (.AugAssign (.Name nx pos') op e pos) (sAug i g fe) := by
  refine ⟨fun W F R H σ en De tk S h pins s I => (ps_aug (ti := fun x y H Q => ∃ rr, OpR X (inplaceOp op) rr ∧ rr x y H Q) hN hi hx (uE.pe X e) (fun pins s σ H x y v u Q I rx ry ⟨rr, ho, q⟩ => ho pins s σ H x y v u Q I rx ry q) hf).run pins s σ H De I ?_⟩
  have li : i < σ.length := by rw [I.len]; exact (List.getElem?_eq_some_iff.mp hi).1
  unfold sAug at h
  have hnu : en.getD i .un ≠ .un := fun z => by rw [z] at h; exact h.elim
  have h : wpO ((fe en).bd fun o en2 => match g (en2.getD i .un) (res en2 o) with | some r => O.ok Fl.nx (en2.set i r) | none => .st) (PF X pr F R σ De) (PXs X W pr F R σ) := by
    revert h hnu
    cases en.getD i .un with
    | un => exact fun _ z => absurd rfl z
    | _ => exact fun h _ => h
  obtain ⟨b, hb⟩ := slot_some S hnu
  refine ⟨b, hb, ?_⟩
  refine oneS (k := fun o en2 => match g (en2.getD i .un) (res en2 o) with | some r => O.ok Fl.nx (en2.set i r) | none => .st) h1 tk S h fun y o en2 F2 H2 le S2 h => ?_
  cases er : g (en2.getD i .un) (res en2 o) with
  | none => rw [er] at h; exact h.elim
  | some r =>
    rw [er] at h
    have h : ∀ σ' H' F', Le F F' → Keep pr σ σ' → SepE X F' R H' σ' (en2.set i r) [] → De.nx σ' H' := h
    have m1 : (some b, en2.getD i .un) ∈ tmps [y] [o] ++ σ.zip en2 := List.mem_append_right _ (mem_slot S2.2.len hb)
    refine hg F2 R H2 _ b y _ _ r _ S2.2.sep m1 (mem1 S2) er fun v F' H' le' S' => ?_
    have S3 : SepE X F' R H' σ en2 [(some v, r)] := (made S2.2.len S').2
    exact h _ H' F' (le.trans le') (Keep.set hp) (S3.bind li)
theorem ok_iadd : Prim2 X (inplaceOp .Add) (gI fun i j => some (.int (i + j))) := p2I0 iop_add fun _ _ => rfl
theorem ok_isub : Prim2 X (inplaceOp .Sub) (gI fun i j => some (.int (i - j))) := p2I0 iop_sub fun _ _ => rfl
theorem nsIn_keys {es : List DictEntry} {K : PySem.W.Frag} {a : Addr} {n : Nat} {cl : Value} {sl : Array (Option Value)} {ks : List (Str × Int)} (lk : K.lookup a = some ⟨cl, none, .dict es.toArray n, sl⟩) (h : es.map He.keyOf = ks.map some) (z : Str) : ∃ r, PySem.W.nsIn K a z = some r ∧ r.isSome = (ks.map (·.1)).contains z := by
  have key : ∀ (es : List DictEntry) (ks : List (Str × Int)), es.map He.keyOf = ks.map some → (es.any (·.refKey) = false) ∧ (es.find? (·.key.isStr z)).isSome = (ks.map (·.1)).contains z := by
    intro es
    induction es with
    | nil => intro ks h; cases ks <;> first | exact ⟨rfl, rfl⟩ | cases h
    | cons e es ih =>
      intro ks h
      cases ks with
      | nil => cases h
      | cons k ks =>
        rw [List.map_cons] at h
        rw [List.map_cons] at h
        injection h with h1 h2
        obtain ⟨i1, i2⟩ := ih ks h2
        unfold He.keyOf at h1
        split at h1
        · rename_i x t q
          cases h1
          refine ⟨?_, ?_⟩
          · rw [List.any_cons, i1]
            have : e.refKey = false := by unfold DictEntry.refKey; rw [q]
            rw [this]; rfl
          · rw [List.find?_cons]
            have e1 : e.key.isStr z = (x == z) := by rw [q]; rfl
            rw [e1, List.map_cons, List.contains_cons]
            by_cases hz : x = z
            · subst hz; simp
            · have h3 : (x == z) = false := beq_eq_false_iff_ne.mpr hz
              have h4 : (z == x) = false := beq_eq_false_iff_ne.mpr (Ne.symm hz)
              rw [h3, i2]
              simp [h4]
        · cases h1
  obtain ⟨a1, a2⟩ := key es ks h
  unfold PySem.W.nsIn
  rw [lk]
  dsimp only
  cases e : es.find? (·.key.isStr z) with
  | some q => exact ⟨some q.val, rfl, by rw [← a2, e]; rfl⟩
  | none => rw [a1]; exact ⟨none, rfl, by rw [← a2, e]; rfl⟩
/-- the module's dict g, its text keys ks -/
structure KdOk (X : Cx) (g : Str) (ks : List Str) : Prop where
  ex : ∃ (d : Addr) (es : Array DictEntry) (n : Nat), X.mg g = some (.ref d) ∧ KDict X.K X.w d es n ∧ ∀ z, ∃ r, PySem.W.nsIn X.K d z = some r ∧ r.isSome = ks.contains z
def gInK (tb : List (Str × List Str)) (d e : D) : Option D := match d, e with
  | .str z, .fn g => (tb.lookup g).map fun ks => .bl (ks.contains z)
  | _, _ => none
def gNotInK (tb : List (Str × List Str)) (d e : D) : Option D := match d, e with
  | .str z, .fn g => (tb.lookup g).map fun ks => .bl (!ks.contains z)
  | _, _ => none
theorem fn_V {K : PySem.W.Frag} {mg : Str → Option Value} {L : List (Option V × D)} {c : Str} (S : Sep K mg F R H L) (m : (some x, .fn c) ∈ L) : ∃ a, mg c = some (.ref a) ∧ x = .ref a := by
  obtain ⟨A, f, _⟩ := (S.get m).fo
  have : ∃ a, mg c = some (.ref a) ∧ some x = some (.ref a) := by
    cases f with
    | leaf z _ => exact z
  obtain ⟨a, e1, e2⟩ := this
  cases e2
  exact ⟨a, e1, rfl⟩
theorem ok_inK {tb : List (Str × List Str)} (h : ∀ g ks, tb.lookup g = some ks → KdOk X g ks) : Prim2 X (compareOp .In) (gInK tb) := fun F R H L x y dx dy r Q S m1 m2 e hQ => by
  match dx, dy, m1, m2, e with
  | .str z, .fn g, m1, m2, e =>
    obtain ⟨ks, e1, rfl⟩ := Option.map_eq_some_iff.mp e
    obtain ⟨d, es, n, hm, D, hk⟩ := (h g ks e1).ex
    obtain ⟨a, ha, rfl⟩ := fn_V S m2
    rw [hm] at ha
    cases ha
    obtain ⟨r, hr, hi⟩ := hk z
    refine ⟨_, op_in_kd D, z, r, S.str m1, rfl, hr, ?_⟩
    rw [hi]
    exact fin_leaf S hQ rfl
theorem ok_notInK {tb : List (Str × List Str)} (h : ∀ g ks, tb.lookup g = some ks → KdOk X g ks) : Prim2 X (compareOp .NotIn) (gNotInK tb) := fun F R H L x y dx dy r Q S m1 m2 e hQ => by
  match dx, dy, m1, m2, e with
  | .str z, .fn g, m1, m2, e =>
    obtain ⟨ks, e1, rfl⟩ := Option.map_eq_some_iff.mp e
    obtain ⟨d, es, n, hm, D, hk⟩ := (h g ks e1).ex
    obtain ⟨a, ha, rfl⟩ := fn_V S m2
    rw [hm] at ha
    cases ha
    obtain ⟨r, hr, hi⟩ := hk z
    refine ⟨_, op_notIn_kd D, z, r, S.str m1, rfl, hr, ?_⟩
    rw [hi]
    exact fin_leaf S hQ rfl
def dCallV (i : Nat) (tb : List (Str × (List Bool × (List D → OF)))) (fa : M (List Op)) : M Op := fun en => match en.getD i .un with
  | .fn c => match tb.lookup c with
    | some (ms, f) => dCall ms f fa en
    | none => .st
  | _ => .st
theorem do_callV {n : Nat} {tb : List (Str × (List Bool × (List D → OF)))} {x : Str} {p : Pos} {e : Expr} {es : List Expr} {fa : M (List Op)} (hG : ∀ c ms f, tb.lookup c = some (ms, f) → ∃ k, Gf X.prog X.w X.K X.mg X.base c k n ms f ∧ Room k X.A) (ha : DOs X (e :: es) fa) (hN : X.N[i]? = some x := by rfl)
    (hv : Vis X.env.scope x := by first | exact Or.inl rfl | exact Or.inr (Or.inl rfl) | exact Or.inr (Or.inr rfl)) (hn : (e :: es).length = n := by rfl) (hd : (x == ("__debug__" : Str)) = false := by decide) (hcd : (x == ("__classdict__" : Str)) = false := by decide)
    (he : starEach (e :: es) X.env = ((false, eval e X.env) :: starEach es X.env) := by rfl) (hpl : (backTo pos (starEach es X.env)).any (·.1) = false := by rfl) :
    DO X (.Call (.Name x p) (e :: es) [] pos) (dCallV i tb fa) := by
  refine ⟨fun W F R H σ en Q tk S h pins s I => ?_⟩
  unfold dCallV at h
  cases e0 : en.getD i .un with
  | fn c =>
    rw [e0] at h
    dsimp only at h
    cases e1 : tb.lookup c with
    | none => rw [e1] at h; exact h.elim
    | some q =>
      obtain ⟨ms, f⟩ := q
      rw [e1] at h
      dsimp only at h
      obtain ⟨k, G, hr⟩ := hG c ms f e1
      obtain ⟨a, fd, ps, hm, hk, hb, Fn⟩ := G.ex
      obtain ⟨b, hb2⟩ := slot_some S (by rw [e0]; exact fun z => by cases z)
      have m := mem_slot S.len hb2
      rw [e0] at m
      obtain ⟨a', ha', eb⟩ := fn_V S.sep m
      rw [hm] at ha'
      cases ha'
      subst eb
      have key := manyL ha tk S h (Q2 := fun vs H2 => spOf X.K X.mg n ms f vs H2 Q (fun c dx H' => W c dx σ H')) fun vs os en2 F2 H2 hlen le S2 h => sp_here (hlen.trans hn) le S2 h
      refine wpAny_Call_Name_kw (thn ((pe_var (pos := p) (i := i) hN hv hd hcd).run pins s σ H (fun v H1 => v = .ref a ∧ H1 = H) I ⟨.ref a, hb2, rfl, rfl⟩) fun u s1 ⟨v, H1, I1, r1, ev, eH⟩ => ?_)
      subst ev
      rw [eH] at I1
      cases r1
      refine PySem.W.callWith_K (h₀ := X.base) I.ok.mod.kin hk (thn (key pos pins s1 I1) fun us s2 ⟨vs, H2, I2, r, q⟩ => ⟨I2.kIn, ?_⟩) he hpl
      exact run_fnW Fn hr hb tk I2 r q
  | _ => rw [e0] at h; exact h.elim
end
section
variable {base : Heap} {K : PySem.W.Frag} {P : Program} {mg : Str → Option Value} {w : World}
/-- a def as the head tells it; its code object's address is known in the body -/
theorem fn_d {x qual : Str} {params : Arguments} {body : List Stmt} {scope : Scope} {a : Addr} {fd : FuncData} {N ps : List Str} {k : Nat} {ms : List Bool} {g : M Fl} (Fn : FunD K x qual params body scope [] [] a fd) (Sc : FnScope N ps scope) (hle : ps.length ≤ N.length := by decide)
    (hbody : ∀ (cdv : Value) (A : Around) (outer : List Env) (s : Shared) (H : Hp) (E : XK), (∀ c, fd.code = .ref c → cdv = .ref c) → Room k (A.deeper (envOfC qual scope s.heap.objs.size a cdv)) → DSs (cxOf (L2.CX P w) P w K mg base N qual scope a cdv A outer s H E) (posOf 0 ms) body g) :
    FnOk P w K mg base (L2.CX P w) (k + 1) a fd ps (spOf K mg ps.length ms (fden g N.length ms)) := by
  obtain ⟨oc, od, dV, kV, doc, pm, an, cdv, ct, osl, rfl, lk, hcd, hD, hK⟩ := Fn.ex
  refine fn_of lk hcd Sc (fun vs H Q E h => h.1) fun A outer s H vs Q E hr h => ?_
  obtain ⟨hn, F, R, ds, hl, S, h⟩ := h
  refine ⟨_, uSs.pss _ _, ?_⟩
  have B := hbody cdv A outer s H E (fun c e => e) hr
  generalize hX : cxOf (L2.CX P w) P w K mg base N qual scope a cdv A outer s H E = X at B
  have tk : Takes X (fun cls d _ H => E cls d H) := by subst hX; exact takes_of rfl rfl rfl rfl
  have eK : X.K = K := by subst hX; rfl
  have eM : X.mg = mg := by subst hX; rfl
  have eN : X.N = N := by subst hX; rfl
  have e0 : L2.start N vs = vs.map some ++ List.replicate (N.length - ds.length) none := by unfold L2.start; rw [hl]
  have S0 : SepE X F R H (L2.start N vs) (ds ++ List.replicate (N.length - ds.length) .un) [] := by
    refine ⟨by rw [e0]; simp [hl], ?_⟩
    rw [eK, eM, e0, List.nil_append, List.zip_append (by simp [hl])]
    obtain ⟨A', f, nn, q⟩ := S.fo
    exact ⟨S.fh, S.rh, S.rf, S.nf, S.nr, S.tb, A', by have := f.app (fo_un (K := K) (mg := mg) (F := F) (H := H) (List.replicate (N.length - ds.length) none) (N.length - ds.length)); rwa [List.append_nil] at this, nn, q⟩
  have at0 : ∀ i v, vs[i]? = some v → (L2.start N vs)[i]? = some (some v) := fun i v h => by
    rw [e0, List.getElem?_append_left (by rw [List.length_map]; exact (List.getElem?_eq_some_iff.mp h).1), List.getElem?_map, h]
    rfl
  have fin : ∀ {σ' H' F' en T}, Le F F' → Keep (posOf 0 ms) (L2.start N vs) σ' → SepE X F' R H' σ' en T → Sep K mg F' R H' (T ++ backL ms vs ((posOf 0 ms).map fun i => en.getD i .un)) := fun {σ' H' F' en T} le kk S' => by
    obtain ⟨en2, S2⟩ := select (ms := ms) (vs := vs) (j := 0) (fun i v hv hi => by rw [Nat.zero_add] at hi ⊢; rw [kk.2 i hi]; exact at0 i v hv) S'
    have := S2.sep.left
    rw [eK, eM] at this
    exact this.perm List.perm_append_comm
  refine B.run _ F R H (L2.start N vs) _ _ tk S0 ?_
  unfold fden at h
  cases e : g (ds ++ List.replicate (N.length - ds.length) .un) with
  | st => rw [e] at h; exact h.elim
  | ex c ns xs en =>
    rw [e] at h
    intro C dx σ' H' F' le m kk xd S'
    rw [eK, eM] at xd
    rw [eM] at m
    exact h C dx H' F' le m xd (fin (T := []) le kk S')
  | ok fl en =>
    rw [e] at h
    cases fl with
    | nx => exact fun σ' H' F' le kk S' => h .non H' F' le (Sep.add (fin (T := []) le kk S') (leaf_rep rfl))
    | rt d => exact fun v σ' H' F' le kk S' => h v H' F' le (fin (T := [(some v, d)]) le kk S')
    | bk => exact h.elim
    | ct => exact h.elim
theorem ga_d {x qual : Str} {params : Arguments} {body : List Stmt} {scope : Scope} {a : Addr} {fd : FuncData} {N ps : List Str} {k : Nat} {ms : List Bool} {g : M Fl} (Fn : FunD K x qual params body scope [] [] a fd) (Sc : FnScope N ps scope) (hb : Binds K fd ps []) (hle : ps.length ≤ N.length := by decide)
    (hbody : ∀ (cdv : Value) (A : Around) (outer : List Env) (s : Shared) (H : Hp) (E : XK), (∀ c, fd.code = .ref c → cdv = .ref c) → Room k (A.deeper (envOfC qual scope s.heap.objs.size a cdv)) → DSs (cxOf (L2.CX P w) P w K mg base N qual scope a cdv A outer s H E) (posOf 0 ms) body g) :
    Ga P w K mg base a (k + 1) ps.length ms (fden g N.length ms) := ⟨fd, ps, hb, fn_d Fn Sc hle hbody⟩
end
end PI
set_option maxHeartbeats 3900000
namespace PI
open L2 PySem PyProof.Rows PySem.Spec
variable [Tb]
section
variable {X : Cx} {F F' F1 H H' H1 : Hp} {R : Rv} {σ σ' σ1 : L2.St} {en en' : List D} {T T' : List (Option V × D)} {vs : List V} {os : List Op} {v x y : V} {o : Op} {d : D} {i j l : Nat} {W : WX} {Q : VK} {pr : List Nat} {De : Ends} {pos : Pos} {xs : List D}
theorem do_tyN {x : Str} {T : String} {pos : Pos} (hg : Gl X x) (hm : X.mg x = none) (hv : bootBuiltins x = some (.type T)) (hn : x ≠ "__name__" := by decide) (hd : (x == ("__debug__" : Str)) = false := by decide) : DO X (.Name x pos) (dC (.ty T)) :=
  do_const _ (.ty T) (pe_bltn hg hm hv (show RelV (.ty T) (.type T) from rfl) hn hd) rfl
/-- what is never reached -/
theorem do_no {e : Expr} : DO X e no := ⟨fun _ _ _ _ _ _ _ _ _ h => h.elim⟩
theorem dt_no {e : Expr} : DT X e no := ⟨fun _ _ _ _ _ _ _ _ _ h => h.elim⟩
theorem ds_no {st : Stmt} : DS X pr st no := ⟨fun _ _ _ _ _ _ _ _ _ h => h.elim⟩
theorem dss_no {st : List Stmt} : DSs X pr st no := ⟨fun _ _ _ _ _ _ _ _ _ h => h.elim⟩
def TagM (mg : Str → Option Value) : Tag → Value → Prop
  | .inl n, v => v = .type n
  | .inr c, v => ∃ C, mg c = some (.ref C) ∧ v = .ref C
def anyTag (tb : Tag → Tag → Option Bool) (t : Tag) : List Tag → Option Bool
  | [] => some false
  | u :: us => match tb t u with
    | some true => some true
    | some false => anyTag tb t us
    | none => none
def clssOf : List D → Option (List Tag)
  | [] => some []
  | d :: ds => match clsOf d, clssOf ds with
    | some t, some ts => some (t :: ts)
    | _, _ => none
def gIsiT (tb : Tag → Tag → Option Bool) (d e : D) : Option D := match tagOf d, e with
  | some t, .nd .tup cs => match clssOf cs with
    | some us => (anyTag tb t us).map .bl
    | none => none
  | _, _ => none
theorem clss_V {K : PySem.W.Frag} {mg : Str → Option Value} : ∀ {cs : List D} {us : List Tag} {vs : List V}, Reps K mg F vs cs → clssOf cs = some us → ∃ uvs, Paired ClsV vs uvs ∧ Paired (TagM mg) us uvs
  | [], us, vs, r, e => by
    cases e
    have : vs = [] := List.length_eq_zero_iff.mp r.1
    subst this
    exact ⟨[], .nil, .nil⟩
  | d :: cs, us, [], r, e => by have := r.1; cases this
  | d :: cs, us, v :: vs, r, e => by
    obtain ⟨d', xs', e0, r1, r2⟩ := r.uncons
    cases e0
    simp only [clssOf] at e
    cases e1 : clsOf d with
    | none => rw [e1] at e; cases e
    | some t =>
      cases e2 : clssOf cs with
      | none => rw [e1, e2] at e; cases e
      | some ts =>
        rw [e1, e2] at e
        cases e
        obtain ⟨uvs, a1, a2⟩ := clss_V r2 e2
        have one : ∃ uv, ClsV v uv ∧ TagM mg t uv := by
          match d, r1, e1 with
          | .ty n, r1, e1 =>
            cases e1
            cases r1 with
            | leaf z _ => cases z; exact ⟨_, .ty n, rfl⟩
          | .fn c, r1, e1 =>
            cases e1
            cases r1 with
            | leaf z _ => obtain ⟨a, e1, e2⟩ := z; cases e2; exact ⟨_, .own a, a, e1, rfl⟩
        obtain ⟨uv, b1, b2⟩ := one
        exact ⟨uv :: uvs, .cons b1 a1, .cons b2 a2⟩
theorem kitAny_of {tb : Tag → Tag → Option Bool} (ht : IsiOk X tb) {t : Tag} {tv : Value} (tt : TagV X t tv) : ∀ {us : List Tag} {uvs : List Value} {b : Bool}, Paired (TagM X.mg) us uvs → anyTag tb t us = some b → PySem.W.kitAny X.K tv uvs = some b
  | [], [], b, _, e => by cases e; rfl
  | u :: us, uv :: uvs, b, p, e => by
    cases p with
    | cons p1 p2 =>
      simp only [anyTag] at e
      unfold PySem.W.kitAny
      have tu : TagV X u uv := by cases u <;> exact p1
      cases e1 : tb t u with
      | none => rw [e1] at e; cases e
      | some c =>
        rw [e1] at e
        rw [ht t u c e1 tv uv tt tu]
        cases c with
        | true => exact e
        | false => exact kitAny_of ht tt p2 e
  | [], _ :: _, b, p, _ => by cases p
  | _ :: _, [], b, p, _ => by cases p
/-- what isinstance sees of a value -/
theorem tag_V {cs : List Str} {t : Tag} {L : List (Option V × D)} (hs : Seen X cs) (S : Sep X.K X.mg F R H L) (m : (some x, d) ∈ L) (e1 : tagOf d = some t) (hc : ∀ c, t = .inr c → c ∈ cs) : ∃ tv, TyX X.K H x tv ∧ TagV X t tv := by
  have look : ∀ k xs, d = .nd k xs → ∃ p vs, x = .ref p ∧ Cont X.K X.mg H k.frz p vs := fun k xs ed => by
    subst ed
    obtain ⟨p, vs, e, _, hc, _⟩ := S.rd m
    exact ⟨p, vs, e, hc⟩
  match d, m, e1, look with
  | .non, m1, e1, _ => cases e1; obtain rfl := S.non m1; exact ⟨_, .base .non, rfl⟩
  | .bl b, m1, e1, _ => cases e1; obtain rfl := S.bl m1; exact ⟨_, .base (.bl b), rfl⟩
  | .int b, m1, e1, _ => cases e1; obtain rfl := S.int m1; exact ⟨_, .base (.int b), rfl⟩
  | .str b, m1, e1, _ => cases e1; obtain rfl := S.str m1; exact ⟨_, .base (.str b), rfl⟩
  | .nd .tup xs, m1, e1, lk =>
    cases e1
    obtain ⟨p, vs, rfl, hc⟩ := lk _ _ rfl
    exact ⟨_, .base (.tup hc), rfl⟩
  | .nd (.lst o) xs, m1, e1, lk =>
    cases e1
    obtain ⟨p, vs, rfl, hc⟩ := lk _ _ rfl
    exact ⟨_, .base (.lst hc), rfl⟩
  | .nd (.dk o ks) xs, m1, e1, lk =>
    cases e1
    obtain ⟨p, vs, rfl, hc⟩ := lk _ _ rfl
    exact ⟨_, .base (.dK hc.1), rfl⟩
  | .nd (.dt o ks) xs, m1, e1, lk =>
    cases e1
    obtain ⟨p, vs, rfl, hc⟩ := lk _ _ rfl
    exact ⟨_, .base (.dT hc.1), rfl⟩
  | .nd (.ob o c ns) xs, m1, e1, lk =>
    cases e1
    obtain ⟨p, vs, rfl, C, dx, hC, hct, _⟩ := lk _ _ rfl
    obtain ⟨c1, c2, c3, c4, c5⟩ := hs c (hc c rfl) C hC
    exact ⟨_, .base (.ins hct c1 c2 c3 c4 c5), C, hC, rfl⟩
/-- isinstance with one class or several -/
def gIsA (cs : List Str) (tb : Tag → Tag → Option Bool) (d e : D) : Option D := match tagOf d with
  | some (.inr c) => if cs.contains c then (gIsi tb d e).or (gIsiT tb d e) else none
  | _ => (gIsi tb d e).or (gIsiT tb d e)
theorem ok_isA {tb : Tag → Tag → Option Bool} {cs : List Str} (ht : IsiOk X tb) (hs : Seen X cs) : PrimN X (.builtin "isinstance") (g2 (gIsA cs tb)) := pN2 fun F R H L x y d e r Q S m1 m2 h hQ => by
  have h2 : (∀ c, tagOf d = some (.inr c) → c ∈ cs) ∧ (gIsi tb d e).or (gIsiT tb d e) = some r := by
    unfold gIsA at h
    split at h
    · rename_i c e0
      split at h
      · rename_i hcs
        exact ⟨fun c' e' => by rw [e0] at e'; cases e'; simpa using hcs, h⟩
      · cases h
    · rename_i hno
      exact ⟨fun c' e' => absurd e' (hno c'), h⟩
  obtain ⟨hc, h⟩ := h2
  cases e1 : tagOf d with
  | none =>
    simp only [gIsi, gIsiT, e1] at h
    cases h
  | some t =>
    obtain ⟨tv, tx, tt⟩ := tag_V hs S m1 e1 (fun c z => hc c (by rw [e1, z]))
    cases eg : gIsi tb d e with
    | some r' =>
      rw [eg] at h
      cases h
      unfold gIsi at eg
      rw [e1] at eg
      cases e2 : clsOf e with
      | none => rw [e2] at eg; cases eg
      | some u =>
        rw [e2] at eg
        obtain ⟨b, e3, rfl⟩ := Option.map_eq_some_iff.mp eg
        obtain ⟨uv, cv, tu⟩ := cls_V S m2 e2
        have tu' : TagV X u uv := by cases u <;> exact tu
        exact ⟨_, call_isi, ⟨x, y, tv, uv, b, rfl, cv, tx, ht t u b e3 tv uv tt tu', fin_leaf S hQ rfl⟩⟩
    | none =>
      rw [eg] at h
      have h : gIsiT tb d e = some r := h
      unfold gIsiT at h
      rw [e1] at h
      cases e with
      | nd k cs2 =>
        cases k with
        | tup =>
          dsimp only at h
          cases e6 : clssOf cs2 with
          | none => rw [e6] at h; cases h
          | some us =>
            rw [e6] at h
            obtain ⟨b, e3, rfl⟩ := Option.map_eq_some_iff.mp h
            have hz : isFzL cs2 = true := by
              have : ∀ (l : List D) (us : List Tag), clssOf l = some us → isFzL l = true := by
                intro l
                induction l with
                | nil => exact fun _ _ => rfl
                | cons a l ih =>
                  intro us e
                  simp only [clssOf] at e
                  cases ea : clsOf a with
                  | none => rw [ea] at e; cases e
                  | some t =>
                    cases el : clssOf l with
                    | none => rw [ea, el] at e; cases e
                    | some ts =>
                      have h1 : isFz a = true := by cases a <;> first | rfl | cases ea
                      simp only [isFzL, h1, ih ts el, Bool.and_self]
              exact this cs2 us e6
            obtain ⟨p, vs, rfl, hl, hct, rs⟩ := S.rds m2 hz
            obtain ⟨uvs, a1, a2⟩ := clss_V rs e6
            exact ⟨_, call_isiT, ⟨x, p, vs, tv, uvs, b, rfl, hct, a1, tx, kitAny_of ht tt a2 e3, fin_leaf S hQ rfl⟩⟩
        | _ => cases h
      | _ => cases h
theorem hu1 {k : Nat} {A : Around} (hr : Room k A) : A.units + 1 < cLine := by have := hr.un; omega
theorem hu64 {k : Nat} {A : Around} (hr : Room k A) : A.units + 64 < cLine := by have := hr.un; omega
theorem hu65 {k : Nat} {A : Around} (hr : Room k A) : A.units + 65 < cLine := by have := hr.un; omega
end
end PI
set_option maxHeartbeats 3900000
namespace PI
open L2 PySem PyProof.Rows PySem.Spec
variable [Tb]
section
variable {X : Cx} {F F' F1 H H' H1 : Hp} {R : Rv} {σ σ' σ1 : L2.St} {en en' : List D} {T T' : List (Option V × D)} {vs : List V} {os : List Op} {v x y : V} {o : Op} {d : D} {i j l : Nat} {W : WX} {Q : VK} {pr : List Nat} {De : Ends} {pos : Pos} {xs : List D}
theorem reps_int_of {K : PySem.W.Frag} {mg : Str → Option Value} : ∀ ns : List Int, Reps K mg F (ns.map V.int) (ns.map D.int)
  | [] => Reps.nil
  | n :: ns => Reps.cons (leaf_rep rfl) (reps_int_of ns)
def rgOk (a b : Int) : Bool := decide (-(2 ^ 62) ≤ a ∧ a < 2 ^ 62 ∧ -(2 ^ 62) ≤ b ∧ b < 2 ^ 62 ∧ (b - a).toNat ≤ 2 ^ 24)
def dListRg2 (fa fb : M Op) : M Op := bd fa fun a => bd fb fun b => fun en => match res en a, res en b with
  | .int i, .int j => if rgOk i j then .ok (.v (.nd (.lst true) (rng i (j - i).toNat))) en else .st
  | _, _ => .st
theorem reps_rg {K : PySem.W.Frag} {mg : Str → Option Value} (a b : Int) : Reps K mg F (rgV a b) (rng a (b - a).toNat) := by
  have := reps_int_of (F := F) (K := K) (mg := mg) ((List.range (b - a).toNat).map fun i => a + (i : Nat))
  rw [List.map_map, List.map_map] at this
  exact this
theorem do_listRg2 {a b : Expr} {fa fb : M Op} {p p2 pos2 : Pos} (h1 : DO X a fa) (h2 : DO X b fb) (hg : Gl X "list") (hm : X.mg "list" = none) (hg2 : Gl X "range") (hm2 : X.mg "range" = none) (hc : X.calm = true := by rfl)
    (na : starEach [a, b] X.env = (false, eval a X.env) :: starEach [b] X.env := by rfl) (nb : starEach [b] X.env = (false, eval b X.env) :: starEach [] X.env := by rfl) (hp : (backTo pos2 (starEach [b] X.env)).any (·.1) = false := by rfl)
    (ne : starEach [.Call (.Name "range" p2) [a, b] [] pos2] X.env = (false, eval (.Call (.Name "range" p2) [a, b] [] pos2) X.env) :: starEach [] X.env := by rfl) :
    DO X (.Call (.Name "list" p) [.Call (.Name "range" p2) [a, b] [] pos2] [] pos) (dListRg2 fa fb) := by
  refine ⟨fun W F R H σ en Q tk S h => uE.of (pe_listRg hc hg hm (prg_2 hg2 hm2 (uE.pe X a) (uE.pe X b) na nb hp) ne) ?_⟩
  show uE X σ H a fun x H1 => uE X σ H1 b fun y H2 => ∃ i j, x = .int i ∧ y = .int j ∧ RgOk i j ∧ ∀ q, H2 q = none → Q (.ref q) (upd H2 q (.lst (rgV i j)))
  refine two h1 h2 tk S h fun x y a b en2 F2 H2 le S2 h => ?_
  obtain ⟨m1, m2⟩ := mem2 S2
  revert h m1 m2
  cases res en2 a with
  | int i =>
    cases res en2 b with
    | int j =>
      intro h m1 m2
      dsimp only at h
      split at h
      · rename_i hr
        refine ⟨i, j, S2.2.sep.int m1, S2.2.sep.int m2, (by unfold rgOk at hr; unfold RgOk; exact of_decide_eq_true hr), fun q hq => ?_⟩
        exact h _ _ F2 le ⟨trivial, S2.2.len, Sep.lst S2.2.clear.sep (reps_rg i j) hq⟩
      · exact h.elim
    | _ => exact fun h => h.elim
  | _ => exact fun h => h.elim
theorem fld_nil {f : Str} : ∀ c ∈ ([] : List Str), FldOk X c f := fun _ h => absurd h List.not_mem_nil
theorem fld_cons {c : Str} {cs : List Str} {f : Str} (h : FldOk X c f) (r : ∀ c ∈ cs, FldOk X c f) : ∀ c' ∈ c :: cs, FldOk X c' f := fun c' hc => by
  rcases List.mem_cons.mp hc with e | e
  · rw [e]; exact h
  · exact r c' e
theorem xff_nil {c : Str} : ∀ f ∈ ([] : List Str), XfOk X c f := fun _ h => absurd h List.not_mem_nil
theorem xff_cons {c f : Str} {fs : List Str} (h : XfOk X c f) (r : ∀ f ∈ fs, XfOk X c f) : ∀ g ∈ f :: fs, XfOk X c g := fun g hg => by
  rcases List.mem_cons.mp hg with e | e
  · rw [e]; exact h
  · exact r g e
theorem xf_one {c : Str} {fs : List Str} (h : ∀ f ∈ fs, XfOk X c f) : ∀ c' ∈ [c], ∀ f ∈ fs, XfOk X c' f := fun c' hc => by
  rw [List.mem_singleton.mp hc]; exact h
structure TabOk (X : Cx) (n : Nat) (tb : List (Str × (List Bool × (List D → OF)))) : Prop where
  ok : ∀ c ms f, tb.lookup c = some (ms, f) → ∃ k, Gf X.prog X.w X.K X.mg X.base c k n ms f ∧ Room k X.A
theorem tab_nil {n : Nat} : TabOk X n [] := ⟨fun _ _ _ h => by cases h⟩
theorem tab_cons {n k : Nat} {c : Str} {ms : List Bool} {f : List D → OF} {tb : List (Str × (List Bool × (List D → OF)))} (G : Gf X.prog X.w X.K X.mg X.base c k n ms f) (hr : Room k X.A) (r : TabOk X n tb) : TabOk X n ((c, (ms, f)) :: tb) := ⟨fun c' ms' f' h => by
  rw [List.lookup_cons] at h
  split at h
  · rename_i e
    cases h
    have := beq_iff_eq.mp e
    subst this
    exact ⟨k, G, hr⟩
  · exact r.ok c' ms' f' h⟩
end
section
variable {base : Heap} {K : PySem.W.Frag} {P : Program} {mg : Str → Option Value} {w : World}
theorem ga_st {x qual : Str} {params : Arguments} {body : List Stmt} {scope : Scope} {a : Addr} {fd : FuncData} {ps : List Str} {k n : Nat} {ms : List Bool} (Fn : FunD K x qual params body scope [] [] a fd) (hb : Binds K fd ps []) : Ga P w K mg base a k n ms (fun _ => .st) :=
  ⟨fd, ps, hb, fun vs H Q E h => (by obtain ⟨_, F, R, ds, _, _, z⟩ := h; exact z.elim), fun A outer s H args us vs Q E hr e0 hbd r h => (by obtain ⟨_, F, R, ds, _, _, z⟩ := h; exact z.elim)⟩
theorem Ga.mono {a : Addr} {j k n : Nat} {ms : List Bool} {f : List D → OF} (G : Ga P w K mg base a j n ms f) (h : j ≤ k) : Ga P w K mg base a k n ms f := by
  obtain ⟨fd, ps, h1, h2⟩ := G.ex
  exact ⟨fd, ps, h1, h2.mono h⟩
theorem fun_ofD {x qual : Str} {st : Stmt} {a : Addr} {fd : FuncData} (Fn : FunD K x qual (defArgs st) (defBody st) (defScope st) [] [] a fd) : Fun K x qual st a fd := by
  obtain ⟨oc, od, dV, kV, doc, pm, an, cdv, ct, osl, rfl, lk, hcd, hD, hK⟩ := Fn.ex
  obtain ⟨_, rfl⟩ | ⟨e, _⟩ := hD
  · exact ⟨⟨oc, od, kV, doc, pm, an, cdv, ct, osl, rfl, lk, hcd⟩, Fn.kp⟩
  · exact absurd rfl e
end
end PI
set_option maxHeartbeats 3900000
namespace PI
open L2 PySem PyProof.Rows PySem.Spec
variable [Tb]
def an2 {a b : Bool} (h : (a && b) = true) : a = true ∧ b = true := Bool.and_eq_true_iff.mp h
/-- an own exception class over ValueError -/
def oexB (K : PySem.W.Frag) (C : Addr) : Bool := (match K.lookup C with
    | some ⟨.type c, _, .cls cd, sl⟩ => decide (c = "type") && (match cd.mro, sl.toList with
      | .ref C' :: bm, [_, _, _, _, some (.builtin n), _] => decide (C' = C) && (decide (n = "ValueError.__new__") && (!cd.hasDel && (cd.hasDict && PySem.HandSPX.refsVE bm)))
      | _, _ => false)
    | _ => false) && (decide (PySem.W.findIn K (.ref C) "__setattr__" = some (some (.builtin "object.__setattr__"))) && (decide (PySem.W.subIn K (.ref C) (.type "BaseException") = some true) && (decide (PySem.W.typeIn K (.ref C) = some (.type "type")) && PySem.W.keepIn K (.ref C))))
theorem oexB_ok {K : PySem.W.Frag} {C : Addr} (h : oexB K C = true) : OexC K C := by
  obtain ⟨h0, h1⟩ := an2 h
  obtain ⟨h1, h2⟩ := an2 h1
  obtain ⟨h2, h3⟩ := an2 h2
  obtain ⟨h3, h4⟩ := an2 h3
  refine ⟨?_, of_decide_eq_true h1, of_decide_eq_true h2, of_decide_eq_true h3, h4⟩
  split at h0
  · rename_i c dd cd sl ho
    replace h0 := an2 h0
    obtain ⟨hc, h0⟩ := h0
    replace hc := of_decide_eq_true hc
    subst hc
    split at h0
    · rename_i C' bm k0 k1 k2 k3 num k5 hm hs
      replace h0 := an2 h0
      obtain ⟨a1, h0⟩ := h0
      replace h0 := an2 h0
      obtain ⟨a2, h0⟩ := h0
      replace h0 := an2 h0
      obtain ⟨a3, h0⟩ := h0
      replace h0 := an2 h0
      obtain ⟨a4, a5⟩ := h0
      replace a1 := of_decide_eq_true a1
      replace a2 := of_decide_eq_true a2
      replace a3 : cd.hasDel = false := by simpa using a3
      subst a1 a2
      rcases cd with ⟨nm, bs, mro, ns, qn, hd, sn, sub, ab, col, del⟩
      dsimp only at hm a3 a4
      subst hm a3 a4
      have hsl : sl = #[k0, k1, k2, k3, some (.builtin "ValueError.__new__"), k5] := by
        obtain ⟨l⟩ := sl
        simp only at hs
        rw [hs]
      subst hsl
      exact ⟨nm, qn, ns, bs, bm, sn, sub, ab, col, dd, k0, k1, k2, k3, k5, ho, a5⟩
    · cases h0
  · cases h0
def binB (K : PySem.W.Frag) (C : Addr) : Bool := decide (PySem.W.specialIn K (.ref C) "__getattribute__" = some (some (.builtin "type.__getattribute__"))) && (PySem.W.readsIn K C (.type "type") &&
  (match PySem.W.findCls K (.ref C) (.type "type") "__init__" with
    | some (.val (.builtin n)) => decide (n = "ValueError.__init__")
    | _ => false))
theorem binB_ok {K : PySem.W.Frag} {C : Addr} (h : binB K C = true) : BInit K C := by
  obtain ⟨h1, h2⟩ := an2 h
  obtain ⟨h2, h3⟩ := an2 h2
  refine ⟨of_decide_eq_true h1, h2, ?_⟩
  split at h3
  · rename_i n e
    have := of_decide_eq_true h3
    subst this
    exact e
  · cases h3
def clsB (K : PySem.W.Frag) (C : Addr) : Bool := PySem.W.plainGet K C Str.empty && (PySem.W.hasDictIn K C && (PySem.W.plainOver K C && decide (PySem.W.findIn K (.ref C) "__setattr__" = some (some (.builtin "object.__setattr__")))))
theorem clsB_ok {K : PySem.W.Frag} {C : Addr} (h : clsB K C = true) : Cls K C := by
  obtain ⟨h1, h2⟩ := an2 h
  obtain ⟨h2, h3⟩ := an2 h2
  obtain ⟨h3, h4⟩ := an2 h3
  exact ⟨h1, h2, h3, of_decide_eq_true h4⟩
def noB (K : PySem.W.Frag) (C : Addr) (f : Str) : Bool := decide (PySem.W.findIn K (.ref C) f = some none)
def seenB (K : PySem.W.Frag) (C : Addr) : Bool := clsB K C && (decide (PySem.W.findIn K (.ref C) "__class__" = some (some (.builtin "object.__class__"))) && (decide (PySem.W.specialIn K (.builtin "object.__class__") "__get__" = some (some (.builtin "getset_descriptor.__get__"))) &&
  (decide (PySem.W.takesIn K (.builtin "object.__class__") = some true) && decide (PySem.W.mroIn K C (.type "object") = some true))))
theorem seenB_ok {K : PySem.W.Frag} {C : Addr} (h : seenB K C = true) : SeenCls K C := by
  obtain ⟨h1, h2⟩ := an2 h
  obtain ⟨h2, h3⟩ := an2 h2
  obtain ⟨h3, h4⟩ := an2 h3
  obtain ⟨h4, h5⟩ := an2 h4
  exact ⟨clsB_ok h1, of_decide_eq_true h2, of_decide_eq_true h3, of_decide_eq_true h4, of_decide_eq_true h5⟩
def mkB (K : PySem.W.Frag) (C a : Addr) : Bool := PySem.W.makesIn K C && (decide (PySem.W.findIn K (.ref C) "__init__" = some (some (.ref a))) && (PySem.W.isFn K (.ref a) && PySem.W.keepIn K (.ref C)))
theorem mkB_ok {K : PySem.W.Frag} {C a : Addr} (h : mkB K C a = true) : L2.Mk K C a := by
  obtain ⟨h1, h2⟩ := an2 h
  obtain ⟨h2, h3⟩ := an2 h2
  obtain ⟨h3, h4⟩ := an2 h3
  exact ⟨h1, of_decide_eq_true h2, h3, h4⟩
def gA (K : PySem.W.Frag) (x : Str) : Addr := He.fAd K (x, none)
def tagA (K : PySem.W.Frag) : Tag → Value
  | .inl n => .type n
  | .inr c => .ref (gA K c)
def kitB (K : PySem.W.Frag) (q : (Tag × Tag) × Bool) : Bool := decide (PySem.W.kitOne K (tagA K q.1.1) (tagA K q.1.2) = some q.2)
theorem lookup_mem {α β : Type} [BEq α] [LawfulBEq α] {a : α} {b : β} : ∀ {l : List (α × β)}, l.lookup a = some b → (a, b) ∈ l
  | [], h => by cases h
  | (c, d) :: l, h => by
    rw [List.lookup_cons] at h
    split at h
    · rename_i e
      cases h
      rw [beq_iff_eq.mp e]
      exact List.mem_cons_self
    · exact List.mem_cons_of_mem _ (lookup_mem h)
/-- a table asked by two names -/
def ask2 {α : Type} [DecidableEq α] (l : List ((α × α) × Bool)) (t u : α) : Option Bool := (l.find? fun q => decide (q.1.1 = t ∧ q.1.2 = u)).map (·.2)
theorem ask2_mem {α : Type} [DecidableEq α] {l : List ((α × α) × Bool)} {t u : α} {b : Bool} (h : ask2 l t u = some b) : ((t, u), b) ∈ l := by
  obtain ⟨q, hq, rfl⟩ := Option.map_eq_some_iff.mp h
  have h1 := List.mem_of_find?_eq_some hq
  have h3 := List.find?_some (p := fun q : (α × α) × Bool => decide (q.1.1 = t ∧ q.1.2 = u)) hq
  have h2 : q.1.1 = t ∧ q.1.2 = u := of_decide_eq_true h3
  clear h3
  obtain ⟨⟨a, c⟩, b⟩ := q
  obtain ⟨rfl, rfl⟩ := h2
  exact h1
/-- the names of the classes in a table of isinstance stand in the module -/
def tagsIn (l : List ((Tag × Tag) × Bool)) (cs : List Str) : Bool := l.all fun q => (match q.1.1 with | .inl _ => true | .inr c => cs.contains c) && (match q.1.2 with | .inl _ => true | .inr c => cs.contains c)
theorem kit_ok {K : PySem.W.Frag} {mg : Str → Option Value} {l : List ((Tag × Tag) × Bool)} {cs : List Str} (h : l.all (kitB K) = true) (hin : tagsIn l cs = true) (hm : ∀ c ∈ cs, mg c = some (.ref (gA K c))) : ∀ t u b, ask2 l t u = some b → ∀ tv uv, TagM mg t tv → TagM mg u uv → PySem.W.kitOne K tv uv = some b := by
  intro t u b e tv uv h1 h2
  have m := ask2_mem e
  have k := of_decide_eq_true (List.all_eq_true.mp h _ m)
  obtain ⟨i1, i2⟩ := an2 (List.all_eq_true.mp hin _ m)
  have one : ∀ (t : Tag) (v : Value), TagM mg t v → (match t with | .inl _ => true | .inr c => cs.contains c) = true → v = tagA K t := fun t v hv hi => by
    cases t with
    | inl n => exact hv
    | inr c =>
      obtain ⟨C, e1, e2⟩ := hv
      rw [hm c (by simpa using hi)] at e1
      cases e1
      exact e2
  rw [one t tv h1 i1, one u uv h2 i2]
  exact k
def exmB (K : PySem.W.Frag) (q : (Str × Str) × Bool) : Bool := decide (PySem.W.exmOne K (.ref (gA K q.1.2)) (.ref (gA K q.1.1)) = some q.2)
theorem exm_ok {K : PySem.W.Frag} {mg : Str → Option Value} {l : List ((Str × Str) × Bool)} {cs : List Str} (h : l.all (exmB K) = true) (hin : (l.all fun q => cs.contains q.1.1 && cs.contains q.1.2) = true) (hm : ∀ c ∈ cs, mg c = some (.ref (gA K c))) :
    ∀ y x b, ask2 l y x = some b → ∀ C D, mg x = some (.ref C) → mg y = some (.ref D) → PySem.W.exmOne K (.ref C) (.ref D) = some b := by
  intro y x b e C D h1 h2
  have m := ask2_mem e
  have k := of_decide_eq_true (List.all_eq_true.mp h _ m)
  obtain ⟨i1, i2⟩ := an2 (List.all_eq_true.mp hin _ m)
  rw [hm x (by simpa using i2)] at h1
  rw [hm y (by simpa using i1)] at h2
  cases h1
  cases h2
  exact k
theorem fld_ok {K : PySem.W.Frag} {mg : Str → Option Value} {c f : Str} (hm : mg c = some (.ref (gA K c))) (h : clsB K (gA K c) = true) (n : noB K (gA K c) f = true) : ∀ C, mg c = some (.ref C) → Cls K C ∧ NoAttr K C f := fun C e => by
  rw [hm] at e
  cases e
  exact ⟨clsB_ok h, (of_decide_eq_true n : PySem.W.findIn K (.ref (gA K c)) f = some none)⟩
theorem xf_ok {K : PySem.W.Frag} {mg : Str → Option Value} {c f : Str} (hm : mg c = some (.ref (gA K c))) (h : xfB K (gA K c) = true) (n : noB K (gA K c) f = true) : ∀ C, mg c = some (.ref C) → XfC K C ∧ PySem.W.findIn K (.ref C) f = some none := fun C e => by
  rw [hm] at e
  cases e
  exact ⟨xfB_ok h, of_decide_eq_true n⟩
theorem kd_ok {K : PySem.W.Frag} {w : World} {a : Addr} {ks : List Str} (h : He.dicW K a = some (He.keysIn w.params ks)) : ∃ (d : Addr) (es : Array DictEntry) (n : Nat), d = a ∧ KDict K w d es n ∧ ∀ z, ∃ r, PySem.W.nsIn K d z = some r ∧ r.isSome = ks.contains z := by
  obtain ⟨es, n, D⟩ := He.dicW_ok h
  refine ⟨a, es, n, rfl, D, fun z => ?_⟩
  have h2 : es.toList.map He.keyOf = (ks.map fun k => (k, PyData.keyHash w.params k)).map some := by
    unfold He.dicW at h
    rw [D.at_] at h
    dsimp only at h
    split at h
    · rw [List.map_map]
      exact Option.some.inj h
    · cases h
  obtain ⟨r, e1, e2⟩ := nsIn_keys (es := es.toList) (K := K) (a := a) (n := n) (sl := #[]) (cl := .type "dict") (by rw [D.at_]) h2 z
  refine ⟨r, e1, ?_⟩
  rw [e2, List.map_map]
  congr 1
  exact List.map_id _
theorem nd_eq {l : List (Addr × Str)} (nd : (l.map (·.1)).Nodup) {a b : Addr × Str} (h1 : a ∈ l) (h2 : b ∈ l) (e : a.1 = b.1) : a = b := by
  obtain ⟨i, hi⟩ := List.getElem?_of_mem h1
  obtain ⟨j, hj⟩ := List.getElem?_of_mem h2
  have h3 : (l.map (·.1))[i]? = some a.1 := by rw [List.getElem?_map, hi]; rfl
  have h4 : (l.map (·.1))[j]? = some a.1 := by rw [List.getElem?_map, hj, e]; rfl
  have hl := (List.getElem?_eq_some_iff.mp h3).1
  have ij : i = j := (List.getElem?_inj hl nd).mp (h3.trans h4.symm)
  subst ij
  rw [hi] at hj
  exact Option.some.inj hj
theorem tab_at {H : Hp} {l : List (Addr × Str)} {l2 : List (Addr × Addr)} (hT : ∀ p ∈ l2, H p.2 = some (.tbl #[])) (e : l.map (·.1) = l2.map (·.2)) {p : Addr × Str} (hp : p ∈ l) : H p.1 = some (.tbl #[]) := by
  have h1 : p.1 ∈ l2.map (·.2) := by rw [← e]; exact List.mem_map_of_mem hp
  obtain ⟨z, hz, ez⟩ := List.mem_map.mp h1
  rw [← ez]
  exact hT z hz
section
theorem law_start {K : PySem.W.Frag} {mg : Str → Option Value} {H : Hp} {a : Addr} {ns : List Int} {f : List D → OF} {bk : List D} (hT : LamX.Tabs Tb.T H) (hS : SqL K H a (ns.map V.int)) (e : f [.nd .rol (ns.map D.int)] = .ok (.bl true) bk) :
    spOf K mg 1 [false] f [.ref a] H (fun v _ => v = .bl true) (fun _ _ _ => False) := by
  have key : ∃ F : Hp, Le F H ∧ SqL K F a (ns.map V.int) ∧ ∀ b o, F b = some o → NoTbl o := by
    rcases hS with hS | hS
    · refine ⟨fun b => if b = a then H a else none, fun b o e => ?_, .inl ?_, fun b o e => ?_⟩
      · try dsimp only at e
        split at e
        · rename_i z; rw [z]; exact e
        · cases e
      · unfold Rd at hS ⊢
        try dsimp only
        rw [if_pos rfl]
        exact hS
      · try dsimp only at e
        split at e
        · unfold Rd at hS
          rcases hS with hS | ⟨o', hS⟩ <;> (rw [hS] at e; cases e; exact fun _ z => HO.noConfusion z)
        · cases e
    · exact ⟨fun _ => none, (fun b o e => nomatch e), .inr hS, (fun b o e => nomatch e)⟩
  obtain ⟨F, le, hs, nt⟩ := key
  refine ⟨rfl, F, ⟨fun _ => none, []⟩, [.nd .rol (ns.map D.int)], rfl, ?_, ?_⟩
  · refine ⟨le, (fun b o e => nomatch e), (fun b o e => nomatch e), nt, (fun b o e => nomatch e), hT, [], ?_, List.nodup_nil, fun a h => absurd h List.not_mem_nil⟩
    exact .cold rfl hs (by rw [List.length_map, List.length_map]) ((reps_int_of (F := F) ns).2.any H) .nil
  · rw [e]
    intro v H' F' le' S'
    exact S'.bl List.mem_cons_self
end
end PI
set_option maxHeartbeats 3900000
namespace PI
open L2 PySem PyProof.Rows PySem.Spec
theorem cx_false {P : Program} {w : World} {outer : List Env} {H : Hp} {s s' : Shared} {e : Value} (h : L2.CX P w outer H s (fun _ _ _ => False) e s') : False := by
  have ⟨_, _, _, _, _, _, _, _, _, _, _, _, z⟩ := h
  exact z
theorem ex_at {l : List Bool} (h : l.all id = true) (i : Nat) {b : Bool} (e : l[i]? = some b) : b = true := by
  have := List.all_eq_true.mp h b (List.mem_of_getElem? e)
  exact this
theorem code_at {K : PySem.W.Frag} {x qual : Str} {params : Arguments} {body : List Stmt} {scope : Scope} {p : Str × Option Str} {fd : FuncData} (F : FunD K x qual params body scope [] [] (He.fAd K p) fd) : fd.code = .ref (He.codeOf K p) := by
  obtain ⟨oc, od, dV, kV, doc, pm, an, cdv, ct, osl, rfl, lk, hcd, _⟩ := F.ex
  obtain ⟨c, rfl⟩ := He.codeIn_ref hcd
  rw [He.codeOf_eq lk (c := c) rfl]
theorem tab_all {w : World} {fa : List He.Fa} {fn : List He.DefD} {ts : List He.Tab} {K : PySem.W.Frag} (c : He.SaysT fa fn ts w K) : ∀ t ∈ ts, He.dicW K (t.1 K) = some (He.keysIn w.params t.2) := by
  have h : (ts.map fun t => He.dicW K (t.1 K)) = ts.map fun t => some (He.keysIn w.params t.2) := congrArg (fun z : He.AlT => z.2) c
  exact List.map_inj_left.mp h
variable [Tb]
theorem seen_ok {K : PySem.W.Frag} {mg : Str → Option Value} {cs : List Str} (h : (cs.all fun c => seenB K (gA K c)) = true) (hm : ∀ c ∈ cs, mg c = some (.ref (gA K c))) : ∀ c ∈ cs, ∀ C, mg c = some (.ref C) → SeenCls K C := fun c hc C e => by
  rw [hm c hc] at e
  cases e
  exact seenB_ok (List.all_eq_true.mp h c hc)
def gloAll (mg : Str → Option Value) (K : PySem.W.Frag) : List Str → Prop
  | [] => True
  | c :: cs => mg c = some (.ref (gA K c)) ∧ gloAll mg K cs
theorem gloAll_ok {mg : Str → Option Value} {K : PySem.W.Frag} : ∀ {cs : List Str}, gloAll mg K cs → ∀ c ∈ cs, mg c = some (.ref (gA K c))
  | [], _, _, h => absurd h List.not_mem_nil
  | c :: cs, h, c', hc => by
    rcases List.mem_cons.mp hc with e | e
    · rw [e]; exact h.1
    · exact gloAll_ok h.2 c' e
end PI
set_option maxHeartbeats 3900000
namespace PI
open L2 PySem PyProof.Rows PySem.Spec
section
variable {n : Nat} {fa : List He.Fa} {fn : List He.DefD} {ts : List He.Tab} {tf : List He.Defn} {ex : PySem.W.Frag → Bool}
/-- what the module's names come to in n steps, and the statics -/
def lookF (n : Nat) (g : Addr → Option Obj) : PySem.W.Frag := He.frT g (PySem.cStatics :: He.asD g n)
def obY (n : Nat) (fa : List He.Fa) (fn : List He.DefD) (ts : List He.Tab) (tf : List He.Defn) (ex : PySem.W.Frag → Bool) (g : Addr → Option Obj) : He.AlX :=
  (He.obsT fa fn ts (lookF n g), ex (lookF n g) && He.tabsB g tf (lookF n g))
theorem obY_says {w : World} {h : Heap} (e : obY n fa fn ts tf ex h.get? = He.valX fn ts w) : He.SaysX fa fn ts tf ex w h (lookF n h.get?) := by
  obtain ⟨a, b⟩ : He.obsT fa fn ts (lookF n h.get?) = He.valT fn ts w ∧ (ex (lookF n h.get?) && He.tabsB h.get? tf (lookF n h.get?)) = true := Prod.mk.inj e
  obtain ⟨b1, b2⟩ := an2 b
  have q : ∀ p ∈ tf, PySem.W.codeHdIn (lookF n h.get?) (He.cT (lookF n h.get?) p).1 (He.cT (lookF n h.get?) p).2 = true ∧ ∃ o : Obj, h.get? (He.cT (lookF n h.get?) p).2 = some o ∧ He.emptyTab o = true := by
    intro p hp
    have z := an2 (List.all_eq_true.mp b2 p hp)
    refine ⟨z.1, ?_⟩
    have z2 := z.2
    generalize h.get? (He.cT (lookF n h.get?) p).2 = y at z2 ⊢
    cases y with
    | some o => exact ⟨o, rfl, z2⟩
    | none => cases z2
  refine { t := a, more := b1, hd := fun p hp => (q p hp).1, out := fun p hp => ?_, empty := fun p hp => ?_ }
  · obtain ⟨o, h1, h2⟩ := (q p hp).2
    exact He.frT_none h1 h2
  · obtain ⟨o, h1, h2⟩ := (q p hp).2
    rw [h1, He.emptyTab_eq h2]
def hkY (n : Nat) (fa : List He.Fa) (fn : List He.DefD) (ts : List He.Tab) (tf : List He.Defn) (ex : PySem.W.Frag → Bool) : PySem.W.Hook where
  α := He.AlX
  val := fun w => He.valX fn ts w
  obs := fun s => obY n fa fn ts tf ex s.heap.get?
  says := fun w h => ∃ K : PySem.W.Frag, K.In h ∧ He.SaysX fa fn ts tf ex w h K
  of := fun _ _ e => ⟨lookF n _, He.frT_in, obY_says e⟩
  keeps := fun w h h' z k => by
    obtain ⟨K, X, c⟩ := z
    exact ⟨K, X.keeps k, { t := c.t, more := c.more, hd := c.hd, out := c.out, empty := fun p hp => k _ _ (c.empty p hp) }⟩
theorem obY_eq {g : Addr → Option Obj} {s : Shared} (h : ∀ a, g a = s.heap.get? a) : obY n fa fn ts tf ex g = (hkY n fa fn ts tf ex).obs s := by
  cases (funext h : g = s.heap.get?)
  rfl
end
end PI
set_option maxHeartbeats 3900000
namespace PI
open L2 PySem PyProof.Rows PySem.Spec
variable [Tb]
/-- what comes of the lambda's end -/
def resB (n j : Nat) (qs : List Hd) (r : O Op) : O Op := match r with
  | .ok _ en => .ok (.v .non) en
  | .ex c ns xs en => match hres (handle qs c ns xs (List.replicate n .un)) j with
    | some d => .ok (.v d) en
    | none => .st
  | .st => .st
def TTB (K : PySem.W.Frag) (mg : Str → Option Value) (n j : Nat) (qs : List Hd) : (XK → Hp → VK → Prop) → Hp → VK → Prop := fun tl H Q => tl (EchA K mg n j qs Q) H (fun _ H' => Q .non H')
section
variable {X : Cx} {Ng : List Str} {x a g q : Str} {sg : Scope} {ga : Addr} {cdg : Value} {j jt : Nat} {h₀ : ExceptHandler} {hds : List ExceptHandler} {qs : List Hd} {p1 p2 p3 p4 p5 p6 p7 p8 p9 : Pos}
theorem givesB (hnd : Ng.Nodup) (hj : Ng[j]? = some g) (hj0 : j ≠ 0) (hlg : sg.names.lookup g = some .local) (hdg : (g == ("__debug__" : Str)) = false) (hcg : (g == ("__classdict__" : Str)) = false)
    (hs : ∀ env : Env, swapsWith (.Constant .none jt p4) (some (.Name g p3)) p5.line env = pure false)
    (hs2 : ∀ env : Env, swapsWith (.Call (.Name a p1) [] [] p2) none p6.line env = pure false)
    (hh : ∀ s H, ∃ l, HdsP (zCx X Ng x sg ga cdg s H) [] (h₀ :: hds) qs l) :
    LamX.GivesTo X Ng x sg ga cdg [.Assign [.Name g p3] (.Constant .none jt p4) p5, .Try [.Expr (.Call (.Name a p1) [] [] p2) p6] (h₀ :: hds) [] [] p7, .Return (some (.Name g p8)) p9] a q (TTB X.K X.mg Ng.length j qs) := by
  intro f c' s H Q tl act hc h
  obtain ⟨l, hl⟩ := hh s H
  have hjl : j < Ng.length := (List.getElem?_eq_some_iff.mp hj).1
  have hlen : (L2.start Ng [V.ref f]).length = Ng.length := by
    unfold L2.start
    simp only [List.map_cons, List.map_nil, List.length_append, List.length_cons, List.length_nil, List.length_replicate]
    omega
  refine ⟨_, pss_cons (ps_set (X := zCx X Ng x sg ga cdg s H) (i := j) hnd hj (.inl hlg) (pe_non (j := jt) (pos := p4)) (hs _) (.inr hlg)) (pss_cons (ps_try_cls (X := zCx X Ng x sg ga cdg s H) (tb := fun W De σ H => ∃ (Ech : XK) (Q0 : VK), (∀ cls d σ' H', Ech cls d H' → W cls d σ' H') ∧ σ[0]? = some (some (.ref f)) ∧ H c' = some (LamX.CodeO c' q) ∧
      tl Ech H Q0 ∧ ∀ v H', Q0 v H' → De.nx σ H') rfl rfl hnd takes0 (fun W pn xe tk hp => ?_) hl.ok) (uSs.pss _ _)), ?_⟩
  · refine ⟨?_⟩
    intro pins s' σ H' D I h'
    obtain ⟨Ech, Q0, hW, h1, h2, h3, h4⟩ := h'
    exact (pss_one (ps_expr (pe_weak (act W pn xe Ech p1 p2 tk hW)) (hs2 _))).run pins s' σ H' D I ⟨Q0, ⟨h1, h2, h3⟩, fun v H1 q => h4 v H1 q⟩
  · show ∃ (Ech : XK) (Q0 : VK), (∀ cls d σ' H', Ech cls d H' → wCl (zCx X Ng x sg ga cdg s H).K (fun _ _ _ _ => False) _ l cls d σ' H') ∧ ((L2.start Ng [V.ref f]).set j (some .non))[0]? = some (some (.ref f)) ∧ H c' = some (LamX.CodeO c' q) ∧ tl Ech H Q0 ∧ ∀ v H', Q0 v H' → uSs (zCx X Ng x sg ga cdg s H) ((L2.start Ng [V.ref f]).set j (some .non)) H' [Stmt.Return (some (Expr.Name g p8)) p9] _
    refine ⟨EchA X.K X.mg Ng.length j qs Q, _, ?_, ?_, hc, h, ?_⟩
    · intro cls d σ' H' he
      obtain ⟨F, R, c, ns, xs, C, dx, r, rfl, rfl, hC, xd, S, er, k⟩ := he
      by_cases hsl : σ'.length = Ng.length
      · have S1 : SepE (zCx X Ng x sg ga cdg s H) F R H' σ' (List.replicate Ng.length .un) [] := sepE_un S hsl
        refine handle_run hl hC xd S1 ?_
        revert er
        cases handle qs c ns xs (List.replicate Ng.length .un) with
        | st => exact fun er => nomatch er
        | ex => exact fun er => nomatch er
        | ok fl en =>
          cases fl with
          | nx =>
            intro er
            simp only [hres] at er
            split at er
            · rename_i hz
              rw [Bool.and_eq_true] at hz
              cases er
              intro σ2 H2 F2 le kk S2
              exact ret_of (X := zCx X Ng x sg ga cdg s H) hj (.inl hlg) hdg hcg S2 hz.1 (fun z => by rw [z] at hz; exact absurd hz.2 (by decide)) fun v S3 => k v H2 F2 le S3
            · cases er
          | rt d =>
            intro er
            cases er
            exact fun v σ2 H2 F2 le kk S2 => k v H2 F2 le S2.sep.left
          | bk => exact fun er => nomatch er
          | ct => exact fun er => nomatch er
      · refine wCl_bad hl hsl ?_ hC (en := List.replicate Ng.length .un) (c := c) (ns := ns) (xs := xs)
        revert er
        cases handle qs c ns xs (List.replicate Ng.length .un) with
        | st => exact fun er => nomatch er
        | ex => exact fun er => nomatch er
        | ok fl en => exact fun _ => ⟨fl, en, rfl⟩
    · rw [List.getElem?_set_ne hj0]
      rfl
    · intro v H' hq
      refine uSs.of (pss_one (ps_ret (pe_var hj (.inl hlg) hdg hcg))) ?_
      exact ⟨.non, by rw [List.getElem?_set_self (by rw [hlen]; exact hjl)], hq⟩
theorem do_lamB {c P : Addr} {k : Nat} {pg : Arguments} {dV kV doc pm ct oc : Value} {an od : Option Addr} {osl : Array (Option Value)} {params : Arguments} {body : Expr} {scope : Scope} {fb : M Op} {p lpos pos : Pos} (hnd : Ng.Nodup) (hj : Ng[j]? = some g) (hj0 : j ≠ 0) (hlg : sg.names.lookup g = some .local) (hdg : (g == ("__debug__" : Str)) = false) (hcg : (g == ("__classdict__" : Str)) = false)
    (hs : ∀ env : Env, swapsWith (.Constant .none jt p4) (some (.Name g p3)) p5.line env = pure false)
    (hs2 : ∀ env : Env, swapsWith (.Call (.Name a p1) [] [] p2) none p6.line env = pure false)
    (hh : ∀ s H, ∃ l, HdsP (zCx X Ng x sg ga cdg s H) [] (h₀ :: hds) qs l)
    (hg : Gl X x) (hm : X.mg x = some (.ref ga)) (hk : PySem.W.keepIn X.K (.ref ga) = true)
    (lk : X.K.lookup ga = some ⟨oc, od, .func (PySem.W.fnOf x x pg [.Assign [.Name g p3] (.Constant .none jt p4) p5, .Try [.Expr (.Call (.Name a p1) [] [] p2) p6] (h₀ :: hds) [] [] p7, .Return (some (.Name g p8)) p9] sg dV kV doc pm an cdg ct), osl⟩) (hcg2 : PySem.W.codeIn X.K cdg x = true)
    (hb : L2.Binds X.K (PySem.W.fnOf x x pg [.Assign [.Name g p3] (.Constant .none jt p4) p5, .Try [.Expr (.Call (.Name a p1) [] [] p2) p6] (h₀ :: hds) [] [] p7, .Return (some (.Name g p8)) p9] sg dV kV doc pm an cdg ct) [a] []) (Sg : FnScope Ng [a] sg) (hNg : Ng[0]? = some a) (hva : Vis sg a)
    (TB : LamX.TabB X.base X.mg c P) (hcode : X.env.code = .ref c) (hmT : (P, X.env.qual ++ "<lambda>") ∈ Tb.T) (hu : ∀ p ∈ Tb.T, p.1 = P → p.2 = X.env.qual ++ "<lambda>") (hr : Room (k + 2) X.A) (Lm : LamX.LamS X.env.scope scope) (hdef : defaultsOf params X.env = ([], []))
    (hbind : ∀ (q : Str) (cl : List (Str × Addr)) (pm cv ctv : Value), PySem.bindArgs (PySem.W.kla_fn "<lambda>" q params body scope cl pm cv ctv) ⟨[], []⟩ = pure [])
    (hbody : ∀ (A : Around) (outer : List Env) (s : Shared) (H : Hp) (E : XK) (f c' : Addr), Room k (A.deeper (LamX.lamEnv X scope s.heap.objs.size f c')) → DO (LamX.lamCx X A outer s H E scope f c') body fb)
    (hdb : ((x == ("__debug__" : Str)) = false) := by decide) (hd : ((a == ("__debug__" : Str)) = false) := by decide) (hcd : ((a == ("__classdict__" : Str)) = false) := by decide) :
    DO X (.Call (.Name x p) [.Lambda params body scope lpos] [] pos) (fun en => resB Ng.length j qs (fb en)) := by
  refine ⟨fun W F R H σ en Q tk S h => uE.of (LamX.pe_lamcall (T := Tb.T) (t := fun E σ H Q => ∀ A outer s H0 f c', Room k (A.deeper (LamX.lamEnv X scope s.heap.objs.size f c')) → uE (LamX.lamCx X A outer s H0 E scope f c') σ H body Q) hg hm hk lk hcg2 hb Sg hNg hva
    (givesB hnd hj hj0 hlg hdg hcg hs hs2 hh) TB hcode hmT hu hr Lm hdef hbind (fun A outer s H E f c' hr => ⟨fun pins s' σ H' Q I h => h A outer s H f c' hr pins s' I⟩) hdb hd hcd) ⟨S.sep.tb, fun H1 eN T1 => ?_⟩⟩
  show ∀ A outer s H0 f c', _ → _
  intro A outer s H0 f c' hr2
  have S1 := S.extN eN T1
  refine (hbody A outer s H0 _ f c' hr2).run (fun cls d _ H => EchA X.K X.mg Ng.length j qs Q cls d H) F R H1 σ en _ (takes_of rfl rfl rfl rfl) S1 ?_
  revert h
  unfold resB
  cases fb en with
  | st => exact fun h => h.elim
  | ok o en' =>
    intro h v H' F' le S2
    exact h .non H' F' le ⟨trivial, S2.2.clear.add (leaf_rep rfl)⟩
  | ex c0 ns xs en' =>
    intro h C dx H' F' le hC xd S2
    dsimp only at h
    obtain ⟨R2, S4, back⟩ := Sep.lend (L1 := []) (L2 := σ.zip en') S2.sep
    cases e : hres (handle qs c0 ns xs (List.replicate Ng.length .un)) j with
    | none => rw [e] at h; exact h.elim
    | some r =>
      rw [e] at h
      exact ⟨F', R2, c0, ns, xs, C, dx, r, rfl, rfl, hC, xd, S4, e, fun v H2 F2 le2 S5 => h v H2 F2 (le.trans le2) ⟨trivial, S2.len, back F2 H2 _ le2 S5⟩⟩
end
end PI
set_option maxHeartbeats 3900000
namespace PI
open L2 PySem PyProof.Rows PySem.Spec
variable [Tb]
section
variable {X : Cx} {K : PySem.W.Frag} {mg : Str → Option Value} {F F' F1 H H' H1 : Hp} {R : Rv} {σ σ' σ1 : L2.St} {L : List (Option V × D)} {en en' : List D} {T T' : List (Option V × D)} {vs : List V} {os : List Op} {v x y : V} {o : Op} {d : D} {i j : Nat} {W : WX} {Q : VK} {pr : List Nat} {De : Ends} {pos : Pos} {xs : List D}
/-- target = e, the value frozen -/
def sAsg (f : M Op) (g : D → M Unit) : M Fl := bd f fun o => fun en => match g (cool (escD en o)) (escE en o) with
  | .ok _ en' => .ok .nx en'
  | _ => .st
theorem ds_asg {tg e : Expr} {f : M Op} {g : D → M Unit} (h1 : DO X e f) (h2 : DG X pr tg g) (hs : swapsWithSole [tg] e pos.line X.env = pure false := by rfl) (hw : swappedStores [tg] e X.env = pure none := by rfl)
    (ha : (assignEach [tg] X.env).map (·.2) = [assign tg X.env] := by rfl) : DS X pr (.Assign [tg] e pos) (sAsg f g) := by
  refine ⟨fun W F R H σ en De tk S h => uS.of (ps_asg (uE.pe X e) (uG.pg X tg) hs hw ha) ?_⟩
  refine oneS h1 tk S h fun x o en2 F2 H2 le S2 h => ?_
  obtain ⟨F3, le3, S3⟩ := S2.2.esc' S2
  obtain ⟨F4, le4, S4, r4⟩ := S3.coolTmp
  have S5 := S4.add r4
  cases eg : g (cool (escD en2 o)) (escE en2 o) with
  | st => rw [eg] at h; exact h.elim
  | ex => exact (h2.noex eg).elim
  | ok u en3 =>
    rw [eg] at h
    refine h2.run F4 R H2 σ _ x _ _ S5 ?_
    rw [eg]
    intro σ' H' F' le' kk S'
    exact h σ' H' F' (le.trans (le3.trans (le4.trans le'))) kk S'
/-- an int that stands in the module -/
theorem do_gint {z : Str} {i : Int} {t : Nat} {pos : Pos} (hg : Gl X z) (hm : X.mg z = some (.int i t)) (hd : ((z == ("__debug__" : Str)) = false) := by decide) : DO X (.Name z pos) (dC (.int i)) :=
  do_const _ (.int i) (pe_glob hg hm ⟨t, rfl⟩ hd) rfl
def dListRg1 (fa : M Op) : M Op := bd fa fun a => fun en => match res en a with
  | .int j => if rgOk 0 j then .ok (.v (.nd (.lst true) (rng 0 (j - 0).toNat))) en else .st
  | _ => .st
theorem do_listRg1 {a : Expr} {fa : M Op} {p p2 pos2 : Pos} (h1 : DO X a fa) (hg : Gl X "list") (hm : X.mg "list" = none) (hg2 : Gl X "range") (hm2 : X.mg "range" = none) (hc : X.calm = true := by rfl)
    (na : starEach [a] X.env = (false, eval a X.env) :: starEach [] X.env := by rfl)
    (ne : starEach [.Call (.Name "range" p2) [a] [] pos2] X.env = (false, eval (.Call (.Name "range" p2) [a] [] pos2) X.env) :: starEach [] X.env := by rfl) (hp : (backTo pos2 (starEach [] X.env)).any (·.1) = false := by rfl) :
    DO X (.Call (.Name "list" p) [.Call (.Name "range" p2) [a] [] pos2] [] pos) (dListRg1 fa) := by
  refine ⟨fun W F R H σ en Q tk S h => uE.of (pe_listRg hc hg hm (prg_1 hg2 hm2 (uE.pe X a) na) ne) ?_⟩
  show uE X σ H a fun x H1 => ∃ n, x = .int n ∧ RgOk 0 n ∧ ∀ q, H1 q = none → Q (.ref q) (upd H1 q (.lst (rgV 0 n)))
  unfold dListRg1 at h
  rw [wpO_bd] at h
  refine h1.run W F R H σ en _ tk S (wpO_mono h (fun a en2 h x H2 F2 le S2 => ?_) fun _ _ _ _ q => q)
  have m1 := mem1 S2
  show ∃ n, x = .int n ∧ RgOk 0 n ∧ ∀ q, H2 q = none → Q (.ref q) (upd H2 q (.lst (rgV 0 n)))
  revert h m1
  cases res en2 a with
  | int j =>
    intro h m1
    dsimp only at h
    split at h
    · rename_i hr
      refine ⟨j, S2.2.sep.int m1, (by unfold rgOk at hr; unfold RgOk; exact of_decide_eq_true hr), fun q hq => ?_⟩
      exact h _ _ F2 le ⟨trivial, S2.2.len, Sep.lst S2.2.clear.sep (reps_rg 0 j) hq⟩
    · exact h.elim
  | _ => exact fun h => h.elim
def ins1 (a : Int) : List Int → List Int
  | [] => [a]
  | b :: r => if a ≤ b then a :: b :: r else b :: ins1 a r
def isort : List Int → List Int
  | [] => []
  | a :: r => ins1 a (isort r)
theorem ins1_perm (a : Int) : ∀ l : List Int, (ins1 a l).Perm (a :: l)
  | [] => .refl _
  | b :: r => by
    unfold ins1
    split
    · exact .refl _
    · exact ((ins1_perm a r).cons b).trans (.swap a b r)
theorem isort_perm : ∀ l : List Int, (isort l).Perm l
  | [] => .refl _
  | a :: r => (ins1_perm a (isort r)).trans ((isort_perm r).cons a)
theorem ins1_up (a : Int) : ∀ l : List Int, l.Pairwise (· ≤ ·) → (ins1 a l).Pairwise (· ≤ ·)
  | [], _ => List.pairwise_singleton _ _
  | b :: r, h => by
    (obtain ⟨h1, h2⟩ := List.pairwise_cons.mp h)
    unfold ins1
    split
    · next hab => exact List.pairwise_cons.mpr ⟨fun c hc => by
        (rcases List.mem_cons.mp hc with rfl | hc)
        · exact hab
        · exact Int.le_trans hab (h1 c hc), h⟩
    · next hab => exact List.pairwise_cons.mpr ⟨fun c hc => by
        rcases List.mem_cons.mp ((ins1_perm a r).mem_iff.mp hc) with rfl | hc
        · omega
        · exact h1 c hc, ins1_up a r h2⟩
theorem isort_up : ∀ l : List Int, (isort l).Pairwise (· ≤ ·)
  | [] => .nil
  | a :: r => ins1_up a _ (isort_up r)
theorem up_one : ∀ {l m : List Int}, l.Perm m → l.Pairwise (· ≤ ·) → m.Pairwise (· ≤ ·) → l = m
  | [], m, p, _, _ => (List.nil_perm.mp p).symm
  | a :: r, [], p, _, _ => by cases List.perm_nil.mp p
  | a :: r, b :: s, p, h, k => by
    (obtain ⟨h1, h2⟩ := List.pairwise_cons.mp h)
    obtain ⟨k1, k2⟩ := List.pairwise_cons.mp k
    have e : a = b := by
      rcases List.mem_cons.mp (p.mem_iff.mp (List.mem_cons_self : a ∈ a :: r)) with e | e
      · exact e
      · rcases List.mem_cons.mp (p.mem_iff.mpr (List.mem_cons_self : b ∈ b :: s)) with e2 | e2
        · exact e2.symm
        · have := h1 b e2
          have := k1 a e
          omega
    subst e
    rw [up_one p.cons_inv h2 k2]
def gSorted : D → Option D := gInts fun ns => some (.nd (.lst true) ((isort ns).map D.int))
theorem ok_sorted : PrimN X (.builtin "sorted") (g1 gSorted) := pN1 fun F R H L x d r Q S m e hQ => by
  obtain ⟨p, ns, rfl, hs, e⟩ := ints_rd S m e
  cases e
  refine ⟨_, cr_sortedI, p, ns, rfl, hs, fun ns' q h1 h2 hq => ?_⟩
  have e2 : ns' = isort ns := up_one (h1.trans (isort_perm ns).symm) h2 (isort_up ns)
  subst e2
  exact hQ _ F _ (Le.refl F) (Sep.lst S (reps_int_of _) hq)
def dPop (j : Nat) (f : M Op) : M Op := fun en => match en.getD j .un with
  | .nd (.lst true) _ => (f en).bd fun o en => match (en.getD j .un), res en o with
    | .nd (.lst true) xs, .int i => match ixN xs.length i with
      | some k => if xs.length ≤ sizeLine then .ok (.v (xs.getD k .un)) (en.set j (.nd (.lst true) (xs.eraseIdx k))) else .st
      | none => .st
    | _, _ => .st
  | _ => .st
theorem getD_perm : ∀ {l : List D} {vs : List V} {k : Nat}, vs.length = l.length → k < l.length → ∃ y, vs[k]? = some y ∧ (kids vs l).Perm (kids (vs.eraseIdx k) (l.eraseIdx k) ++ [(some y, l.getD k .un)])
  | [], _, _, _, h => (by cases h)
  | d :: l, [], _, h, _ => by cases h
  | d :: l, v :: vs, 0, h, _ => ⟨v, rfl, by
    show ((some v, d) :: kids vs l).Perm (kids vs l ++ [(some v, d)])
    exact (List.perm_append_singleton _ _).symm⟩
  | d :: l, v :: vs, k + 1, h, hk => by
    obtain ⟨y, e, p⟩ := getD_perm (l := l) (vs := vs) (k := k) (by simpa using h) (by simpa using hk)
    exact ⟨y, e, p.cons (some v, d)⟩
theorem do_pop {j : Nat} {z : Str} {e : Expr} {f : M Op} {pz ap cp : Pos} (h1 : DO X e f) (hN : X.N[j]? = some z := by rfl) (hv : Vis X.env.scope z := by first | exact Or.inl rfl | exact Or.inr (Or.inl rfl) | exact Or.inr (Or.inr rfl)) (hd : ((z == ("__debug__" : Str)) = false) := by decide)
    (hcd : (z == ("__classdict__" : Str)) = false := by decide)
    (hbase : attributeBase (.Name z pz) "pop" X.env (eval (.Name z pz) X.env) = eval (.Name z pz) X.env := by rfl)
    (hfew : ((backTo cp (starEach [e] X.env)).all (fun x => !x.1) && (backToKw cp (keywordEach [] X.env)).all (fun x => x.1.isSome)
      && decide (([e] : List Expr).length + ([] : List Keyword).length + (if ([] : List Keyword).isEmpty then 0 else 1) < 30)) = (true) := by rfl)
    (hline : (ap.endLine == cp.line) = true := by rfl) (hs : starEach [e] X.env = (false, eval e X.env) :: starEach [] X.env := by rfl) (hplain : (backTo cp (starEach [] X.env)).any (·.1) = false := by rfl) :
    DO X (.Call (.Attribute (.Name z pz) "pop" ap) [e] [] cp) (dPop j f) := by
  refine ⟨fun W F R H σ en Q tk S h => uE.of (pe_bm PySem.F.plainAttrs_list PySem.F.slot_list_pop PySem.F.type_list_pop mt_popAt (pe_var hN hv hd hcd) (pa_cons (uE.pe X e) pa_nil hs) hbase hfew hline hs hplain) ?_⟩
  unfold dPop at h
  cases et : en.getD j .un with
  | nd k xs0 =>
    rw [et] at h
    cases k with
    | lst oo =>
      cases oo with
      | false => exact h.elim
      | true =>
        have h : wpO ((f en).bd fun o en => match (en.getD j .un), res en o with
          | .nd (.lst true) xs, .int i => match ixN xs.length i with
            | some k => if xs.length ≤ sizeLine then O.ok (Op.v (xs.getD k .un)) (en.set j (.nd (.lst true) (xs.eraseIdx k))) else .st
            | none => .st
          | _, _ => .st) (PVo X F R σ Q) (PXc X W F R σ) := h
        obtain ⟨b, hb⟩ := slot_some S (by rw [et]; exact fun z => by cases z)
        have m0 : (some b, D.nd (.lst true) xs0) ∈ σ.zip en := by have := mem_slot S.len hb; rwa [et] at this
        obtain ⟨p0, vs0, e0, _, hc0, _⟩ := Sep.rd S.sep m0
        refine ⟨b, hb, ?_, ?_⟩
        · subst e0; exact .inl ⟨rfl, _, SqL.of hc0⟩
        · show uE X σ H e fun y H1 => rPopAt b [y] H1 Q
          have h2 : wpO (bd f (fun o en => match (en.getD j .un), res en o with
            | .nd (.lst true) xs, .int i => match ixN xs.length i with
              | some k => if xs.length ≤ sizeLine then O.ok (Op.v (xs.getD k .un)) (en.set j (.nd (.lst true) (xs.eraseIdx k))) else .st
              | none => .st
            | _, _ => .st) en) (PVo X F R σ Q) (PXc X W F R σ) := h
          rw [wpO_bd] at h2
          refine h1.run W F R H σ en _ tk S (wpO_mono h2 (fun o en2 h x H2 F2 le S2 => ?_) fun _ _ _ _ q => q)
          have m1 := mem1 S2
          have S3 := S2.2.clear
          show rPopAt b [x] H2 Q
          revert h m1
          cases et2 : en2.getD j .un with
          | nd k xs =>
            cases k with
            | lst oo =>
              cases oo with
              | false => exact fun h => h.elim
              | true =>
                cases er : res en2 o with
                | int i =>
                  intro h m1
                  dsimp only at h
                  cases ei : ixN xs.length i with
                  | none => rw [ei] at h; exact h.elim
                  | some k =>
                    rw [ei] at h
                    dsimp only at h
                    split at h
                    · rename_i hz
                      obtain ⟨hx, hk, hlo, hhi⟩ := ixN_seq ei
                      obtain ⟨p, vs, rfl, hl, hc, S4, close⟩ := S3.openSlot rfl hb et2
                      obtain ⟨y, ey, pm⟩ := getD_perm (l := xs) (vs := vs) (k := k) hl hk
                      have hsz : xs.length ≤ 2 ^ 24 := hz
                      refine ⟨p, vs, i, k, y, rfl, by rw [S2.2.sep.int m1], hc, by omega, by omega, by rw [hl]; exact hx, ey, ?_⟩
                      refine h y _ F2 le ⟨trivial, close (.lst (vs.eraseIdx k)) (.lst true) (vs.eraseIdx k) (xs.eraseIdx k) [(some y, xs.getD k .un)] rfl (by rw [List.length_eraseIdx, List.length_eraseIdx, hl]) upd_same ?_⟩
                      rw [← List.append_assoc]
                      exact S4.perm (pm.append_right _)
                    · exact h.elim
                | _ => exact fun h => h.elim
            | _ => exact fun h => h.elim
          | _ => exact fun h => h.elim
    | _ => exact h.elim
  | _ => rw [et] at h; exact h.elim
end
end PI
set_option maxHeartbeats 3900000
namespace PI
open L2 PySem PyProof.Rows PySem.Spec PySem.SeqAt
open AutoSeq1
  (wpAny_loadPart')
open SeqRoads2 MeetsSeq3 MeetsSeq2 MeetsSeq
section
variable {prog : Program}
variable {w : World}
variable {A : Around}
variable {R : Result → Shared → Prop}
/-- item by item, as far as both go: J i: the first i are equal; a pair that differs ends it -/
theorem tup_eqR (p q : Addr) (ls ms : Array Value) (n1 n2 : Nat) (d1 d2 : Option Addr) (z1 z2 : Array (Option Value)) (J : Nat → Shared → Prop)
    (step : ∀ i (h1 : i < ls.size) (h2 : i < ms.size) s, J i s → wpAny (model prog w) A.in1 (eqBool ls[i] ms[i]) (fun r s' => if r = true then J (i + 1) s' else R (.ok (.ret (.bool false))) s') (fun e s' => R (.error e) s') s)
    (stop : ∀ s, J (min ls.size ms.size) s → R (.ok (.ret (.bool (ls.size == ms.size)))) s) {s : Shared} (hp : s.heap.get? p = some { cls := .type "tuple", dict := d1, data := .seq ls n1, slots := z1 }) (hq : s.heap.get? q = some { cls := .type "tuple", dict := d2, data := .seq ms n2, slots := z2 }) (h : J 0 s) :
    wpAny (model prog w) A.in1 (Builtin.«tuple.__eq__» ⟨[.ref p, .ref q], []⟩) (GQ.FinOf prog w A R) (fun e s' => R (.error e) s') s := by
  have sub := AutoSeq1.sub_tuple_tuple
  have hZ : (ls.toList.zip ms.toList).length = min ls.size ms.size := by simp [List.length_zip]
  have h0 := h
  obtain ⟨hh, g, dr, tk, os⟩ := s
  wp_walk using wpAny_loadPart' hp, wpAny_loadPart' hq, wpAny_forIn_list _ (fun rest b s' => b.1 = none ∧ ∃ i, rest = (ls.toList.zip ms.toList).drop i ∧ i ≤ min ls.size ms.size ∧ J i s') _
  case turn =>
    (rintro ⟨y, x⟩ rest b s' ⟨hb', i, hz, hi, hI⟩)
    have hlt : i < (ls.toList.zip ms.toList).length := by
      rcases Nat.lt_or_ge i (ls.toList.zip ms.toList).length with k | k
      · exact k
      · rw [List.drop_of_length_le k] at hz
        cases hz
    have h1 : i < ls.size := by omega
    have h2 : i < ms.size := by omega
    (rw [List.drop_eq_getElem_cons hlt] at hz)
    injection hz with hyx hrest
    have hy : y = ls[i] := by
      have := congrArg Prod.fst hyx
      simpa using this
    have hx : x = ms[i] := by
      have := congrArg Prod.snd hyx
      simpa using this
    subst hy hx
    refine wpAny_bind (wpAny_mono (step i h1 h2 s' hI) (fun r s2 k => ?_) fun _ _ x => x)
    cases r with
    | true =>
      wp_walk
      exact ⟨rfl, i + 1, hrest, by omega, k⟩
    | false =>
      wp_walk
      simpa using k
  case fin =>
    (rintro ⟨b1, b2⟩ s' ⟨hb', i, hz, hi, hI⟩)
    simp only at hb'
    subst hb'
    have hge : (ls.toList.zip ms.toList).length ≤ i := by
      rcases Nat.lt_or_ge i (ls.toList.zip ms.toList).length with k | k
      · rw [List.drop_eq_getElem_cons k] at hz
        cases hz
      · exact k
    have hi' : i = min ls.size ms.size := by omega
    have hR := stop s' (hi' ▸ hI)
    wp_walk
    simpa [Builtin.Tuple.tupleCompareSizes] using hR
  case h =>
    (exact ⟨rfl, 0, rfl, Nat.zero_le _, h0⟩)
theorem tup_neR (p q : Addr) (ls ms : Array Value) (n1 n2 : Nat) (d1 d2 : Option Addr) (z1 z2 : Array (Option Value)) (J : Nat → Shared → Prop)
    (step : ∀ i (h1 : i < ls.size) (h2 : i < ms.size) s, J i s → wpAny (model prog w) A.in1 (eqBool ls[i] ms[i]) (fun r s' => if r = true then J (i + 1) s' else R (.ok (.ret (.bool true))) s') (fun e s' => R (.error e) s') s)
    (stop : ∀ s, J (min ls.size ms.size) s → R (.ok (.ret (.bool (ls.size != ms.size)))) s) {s : Shared} (hp : s.heap.get? p = some { cls := .type "tuple", dict := d1, data := .seq ls n1, slots := z1 }) (hq : s.heap.get? q = some { cls := .type "tuple", dict := d2, data := .seq ms n2, slots := z2 }) (h : J 0 s) :
    wpAny (model prog w) A.in1 (Builtin.«tuple.__ne__» ⟨[.ref p, .ref q], []⟩) (GQ.FinOf prog w A R) (fun e s' => R (.error e) s') s := by
  have sub := AutoSeq1.sub_tuple_tuple
  have hZ : (ls.toList.zip ms.toList).length = min ls.size ms.size := by simp [List.length_zip]
  have h0 := h
  obtain ⟨hh, g, dr, tk, os⟩ := s
  wp_walk using wpAny_loadPart' hp, wpAny_loadPart' hq, wpAny_forIn_list _ (fun rest b s' => b.1 = none ∧ ∃ i, rest = (ls.toList.zip ms.toList).drop i ∧ i ≤ min ls.size ms.size ∧ J i s') _
  case turn =>
    (rintro ⟨y, x⟩ rest b s' ⟨hb', i, hz, hi, hI⟩)
    have hlt : i < (ls.toList.zip ms.toList).length := by
      rcases Nat.lt_or_ge i (ls.toList.zip ms.toList).length with k | k
      · exact k
      · rw [List.drop_of_length_le k] at hz
        cases hz
    have h1 : i < ls.size := by omega
    have h2 : i < ms.size := by omega
    (rw [List.drop_eq_getElem_cons hlt] at hz)
    injection hz with hyx hrest
    have hy : y = ls[i] := by
      have := congrArg Prod.fst hyx
      simpa using this
    have hx : x = ms[i] := by
      have := congrArg Prod.snd hyx
      simpa using this
    subst hy hx
    refine wpAny_bind (wpAny_mono (step i h1 h2 s' hI) (fun r s2 k => ?_) fun _ _ x => x)
    cases r with
    | true =>
      wp_walk
      exact ⟨rfl, i + 1, hrest, by omega, k⟩
    | false =>
      wp_walk
      simpa using k
  case fin =>
    (rintro ⟨b1, b2⟩ s' ⟨hb', i, hz, hi, hI⟩)
    simp only at hb'
    subst hb'
    have hge : (ls.toList.zip ms.toList).length ≤ i := by
      rcases Nat.lt_or_ge i (ls.toList.zip ms.toList).length with k | k
      · rw [List.drop_eq_getElem_cons k] at hz
        cases hz
      · exact k
    have hi' : i = min ls.size ms.size := by omega
    have hR := stop s' (hi' ▸ hI)
    wp_walk
    simpa [Builtin.Tuple.tupleCompareSizes] using hR
  case h =>
    (exact ⟨rfl, 0, rfl, Nat.zero_le _, h0⟩)
end
variable [Tb]
mutual
def shp : D → Bool
  | .non => true
  | .bl _ => true
  | .int _ => true
  | .str _ => true
  | .nd .tup xs => shpL xs
  | .nd (.ob false _ _) xs => shpL xs
  | _ => false
def shpL : List D → Bool
  | [] => true
  | x :: xs => shp x && shpL xs
end
mutual
/-- the same tree, but for the names of classes -/
def eqT : D → D → Bool
  | .non, .non => true
  | .bl a, .bl b => a == b
  | .int a, .int b => a == b
  | .str a, .str b => a == b
  | .nd .tup xs, .nd .tup ys => eqTL xs ys
  | .nd (.ob false _ ns) xs, .nd (.ob false _ ms) ys => decide (ns = ms) && eqTL xs ys
  | _, _ => false
def eqTL : List D → List D → Bool
  | [], [] => true
  | x :: xs, y :: ys => eqT x y && eqTL xs ys
  | _, _ => false
end
section
variable {K : PySem.W.Frag} {mg : Str → Option Value} {F : Hp}
theorem rep_leafI {v : V} {d : D} (h : ∀ k xs, d ≠ .nd k xs) (r : Rep K mg F v d) : Leaf mg (some v) d := by
  cases r with
  | leaf q _ => exact q
  | cold => exact (h _ _ rfl).elim
theorem rep_int {v : V} {i : Int} (r : Rep K mg F v (.int i)) : v = .int i := Option.some.inj (rep_leafI (fun _ _ z => by cases z) r)
theorem rep_bl {v : V} {i : Bool} (r : Rep K mg F v (.bl i)) : v = .bl i := Option.some.inj (rep_leafI (fun _ _ z => by cases z) r)
theorem rep_str {v : V} {i : Str} (r : Rep K mg F v (.str i)) : v = .str i := Option.some.inj (rep_leafI (fun _ _ z => by cases z) r)
theorem rep_non {v : V} (r : Rep K mg F v .non) : v = .non := Option.some.inj (rep_leafI (fun _ _ z => by cases z) r)
theorem Reps.nil_of {xs : List D} (r : Reps K mg F [] xs) : xs = [] := List.eq_nil_of_length_eq_zero (by rw [← r.1]; rfl)
mutual
theorem uniq : ∀ {d e : D} {v : V}, shp d = true → shp e = true → Rep K mg F v d → Rep K mg F v e → eqT d e = true
  | .non, e, v, _, h2, r1, r2 => by
    cases rep_non r1
    cases e with
    | non => rfl
    | bl b => cases rep_bl r2
    | int b => cases rep_int r2
    | str b => cases rep_str r2
    | nd k xs => obtain ⟨_, _, z, _⟩ := r2.node; cases z
    | _ => cases h2
  | .bl a, e, v, _, h2, r1, r2 => by
    cases rep_bl r1
    cases e with
    | non => cases rep_non r2
    | bl b => cases rep_bl r2; simp [eqT]
    | int b => cases rep_int r2
    | str b => cases rep_str r2
    | nd k xs => obtain ⟨_, _, z, _⟩ := r2.node; cases z
    | _ => cases h2
  | .int a, e, v, _, h2, r1, r2 => by
    cases rep_int r1
    cases e with
    | non => cases rep_non r2
    | bl b => cases rep_bl r2
    | int b => cases rep_int r2; simp [eqT]
    | str b => cases rep_str r2
    | nd k xs => obtain ⟨_, _, z, _⟩ := r2.node; cases z
    | _ => cases h2
  | .str a, e, v, _, h2, r1, r2 => by
    cases rep_str r1
    cases e with
    | non => cases rep_non r2
    | bl b => cases rep_bl r2
    | int b => cases rep_int r2
    | str b => cases rep_str r2; simp [eqT]
    | nd k xs => obtain ⟨_, _, z, _⟩ := r2.node; cases z
    | _ => cases h2
  | .nd .tup xs, e, v, h1, h2, r1, r2 => by
    obtain ⟨p, vs, rfl, c1, q1⟩ := r1.node
    have c1 : F p = some (.tup vs) := c1
    cases e with
    | non => cases rep_non r2
    | bl b => cases rep_bl r2
    | int b => cases rep_int r2
    | str b => cases rep_str r2
    | nd k ys =>
      obtain ⟨p', ws, z, c2, q2⟩ := r2.node
      cases z
      match k, c2, h2, r2 with
      | .tup, c2, h2, r2 =>
        have c2 : F p = some (.tup ws) := c2
        rw [c1] at c2
        cases c2
        exact uniqL (xs := xs) h1 h2 q1 q2
      | .ob false c ns, c2, h2, r2 =>
        obtain ⟨C, dx, _, c3, _⟩ := c2
        rw [c1] at c3
        cases c3
      | .ob true c ns, c2, h2, r2 => cases h2
      | .rol, c2, h2, r2 => cases h2
      | .lst _, c2, h2, r2 => cases h2
      | .dk _ _, c2, h2, r2 => cases h2
      | .dt _ _, c2, h2, r2 => cases h2
    | _ => cases h2
  | .nd (.ob false c ns) xs, e, v, h1, h2, r1, r2 => by
    obtain ⟨p, vs, rfl, ⟨C, dx, m1, c1, l1⟩, q1⟩ := r1.node
    cases e with
    | non => cases rep_non r2
    | bl b => cases rep_bl r2
    | int b => cases rep_int r2
    | str b => cases rep_str r2
    | nd k ys =>
      obtain ⟨p', ws, z, c2, q2⟩ := r2.node
      cases z
      match k, c2, h2, r2 with
      | .tup, c2, h2, r2 =>
        have c2 : F p = some (.tup ws) := c2
        rw [c1] at c2
        cases c2
      | .ob false c' ms, c2, h2, r2 =>
        obtain ⟨C', dx', _, c3, l3⟩ := c2
        rw [c1] at c3
        have hz : ns.zip vs = ms.zip ws := by
          injection c3 with c3
          injection c3
        have e1 : ns = ms := by
          have := congrArg (List.map Prod.fst) hz
          rwa [List.map_fst_zip (by omega), List.map_fst_zip (by omega)] at this
        have e2 : vs = ws := by
          have := congrArg (List.map Prod.snd) hz
          rwa [List.map_snd_zip (by omega), List.map_snd_zip (by omega)] at this
        subst e1 e2
        simp only [eqT, decide_true, Bool.true_and]
        exact uniqL (xs := xs) h1 h2 q1 q2
      | .ob true c ns, c2, h2, r2 => cases h2
      | .rol, c2, h2, r2 => cases h2
      | .lst _, c2, h2, r2 => cases h2
      | .dk _ _, c2, h2, r2 => cases h2
      | .dt _ _, c2, h2, r2 => cases h2
    | _ => cases h2
  | .nd (.ob true _ _) _, _, _, h1, _, _, _ => by cases h1
  | .nd .rol _, _, _, h1, _, _, _ => by cases h1
  | .nd (.lst _) _, _, _, h1, _, _, _ => by cases h1
  | .nd (.dk _ _) _, _, _, h1, _, _, _ => by cases h1
  | .nd (.dt _ _) _, _, _, h1, _, _, _ => by cases h1
  | .un, _, _, h1, _, _, _ => by cases h1
  | .ty _, _, _, h1, _, _, _ => by cases h1
  | .fn _, _, _, h1, _, _, _ => by cases h1
theorem uniqL : ∀ {xs ys : List D} {vs : List V}, shpL xs = true → shpL ys = true → Reps K mg F vs xs → Reps K mg F vs ys → eqTL xs ys = true
  | [], ys, vs, _, _, r1, r2 => by
    cases List.eq_nil_of_length_eq_zero (by rw [r1.1]; rfl : vs.length = 0)
    cases r2.nil_of
    rfl
  | x :: xs, ys, [], _, _, r1, r2 => by cases r1.nil_of
  | x :: xs, ys, v :: vs, h1, h2, r1, r2 => by
    obtain ⟨d, xs', e, a1, a2⟩ := r1.uncons
    cases e
    obtain ⟨d', ys', rfl, b1, b2⟩ := r2.uncons
    obtain ⟨h1, h3⟩ := Bool.and_eq_true_iff.mp (show (shp x && shpL xs) = true from h1)
    obtain ⟨h2, h4⟩ := Bool.and_eq_true_iff.mp (show (shp d' && shpL ys') = true from h2)
    simp only [eqTL, uniq (d := x) h1 h2 a1 b1, uniqL (xs := xs) h3 h4 a2 b2, Bool.and_self]
end
end
end PI
set_option maxHeartbeats 3900000
namespace PI
open L2 PySem PyProof.Rows PySem.Spec PySem.SeqAt
variable [Tb]
def gQL (g : D → D → Option Bool) : List D → List D → Option Bool
  | [], [] => some true
  | [], _ :: _ => some false
  | _ :: _, [] => some false
  | x :: xs, y :: ys => match g x y with
    | some true => gQL g xs ys
    | some false => some false
    | none => none
def gQ1 (cs : List (Str × (List D → OF))) (g : D → D → Option Bool) (d e : D) : Option Bool := match d, e with
  | .nd .tup xs, .nd .tup ys => gQL g xs ys
  | .nd (.ob false c ns) xs, .nd (.ob false c' ms) ys => if c = c' then (match cs.lookup c with
    | some f => (match f [.nd (.ob false c ns) xs, .nd (.ob false c' ms) ys] with
      | .ok (.bl b) _ => some b
      | _ => none)
    | none => none) else none
  | .nd _ _, _ => none
  | _, .nd _ _ => none
  | d, e => some (PyData.eqv (toPy d) (toPy e))
/-- what == answers within n levels; nothing is said where one and the same might be unequal -/
def gQ (cs : List (Str × (List D → OF))) : Nat → D → D → Option Bool
  | 0, _, _ => none
  | n + 1, d, e => if shp d && shp e then (match gQ1 cs (gQ cs n) d e with
    | some b => if eqT d e && !b then none else some b
    | none => none) else none
section
variable {X : Cx} {F F' H H' : Hp} {R : Rv} {σ : L2.St} {L : List (Option V × D)} {n kc : Nat} {g : D → D → Option Bool} {pins : List (Addr × Obj)}
/-- where it ends: things were only made -/
def Aft (X : Cx) (pins : List (Addr × Obj)) (σ : L2.St) (F : Hp) (R : Rv) (L : List (Option V × D)) (s' : Shared) : Prop := ∃ F' H', Inv X pins σ H' s' ∧ Le F F' ∧ Sep X.K X.mg F' R H' L
def EqR (X : Cx) (n : Nat) (g : D → D → Option Bool) : Prop :=
  ∀ (A : Around) (pins : List (Addr × Obj)) (s : Shared) (σ : L2.St) (H : Hp) (x y : V) (u v : Value) (F : Hp) (R : Rv) (L : List (Option V × D)) (dx dy : D) (r : Bool), Sub X n A → Inv X pins σ H s → RelV x u → RelV y v →
    Sep X.K X.mg F R H L → Rep X.K X.mg F x dx → Rep X.K X.mg F y dy → g dx dy = some r → wpAny (model X.prog X.w) A (eqBool u v) (fun b s' => b = r ∧ Aft X pins σ F R L s') X.xe s
theorem Aft.le (h : Aft X pins σ F' R L s') (e : Le F F') : Aft X pins σ F R L s' := by
  obtain ⟨F2, H2, a, b, c⟩ := h
  exact ⟨F2, H2, a, e.trans b, c⟩
/-- one turn of the loop over two tuples -/
theorem turnR (h : EqR X n g) {A : Around} (sb : Sub X (n + 1) A) {xs ys : List D} {vs ws : List V} {its its2 : List Value} {r : Bool}
    (rx : Reps X.K X.mg F vs xs) (ry : Reps X.K X.mg F ws ys) (r1 : Vals vs its) (r2 : Vals ws its2) (i : Nat) (h1 : i < its.toArray.size) (h2 : i < its2.toArray.size) (s' : Shared)
    (J : Aft X pins σ F R L s' ∧ gQL g (xs.drop i) (ys.drop i) = some r) {P : Bool → Shared → Prop} (hP1 : ∀ s2, Aft X pins σ F R L s2 → gQL g (xs.drop (i + 1)) (ys.drop (i + 1)) = some r → P true s2) (hP2 : ∀ s2, Aft X pins σ F R L s2 → r = false → P false s2) :
    wpAny (model X.prog X.w) A.in1 (eqBool its.toArray[i] its2.toArray[i]) P X.xe s' := by
  obtain ⟨⟨F1, H1, I1, le1, S1⟩, hg⟩ := J
  have k1 : i < vs.length := by rw [r1.length]; simpa using h1
  have k2 : i < ws.length := by rw [r2.length]; simpa using h2
  have k3 : i < xs.length := by rw [← rx.1]; exact k1
  have k4 : i < ys.length := by rw [← ry.1]; exact k2
  have g1 : (its[i]? = some its.toArray[i]) := by
    (have h1' : i < its.length := by simpa using h1)
    (rw [List.getElem?_eq_getElem h1'] <;> simp)
  have g2 : (its2[i]? = some its2.toArray[i]) := by
    (have h2' : i < its2.length := by simpa using h2)
    (rw [List.getElem?_eq_getElem h2'] <;> simp)
  obtain ⟨x, hx, qx⟩ := rx.get (List.getElem?_eq_getElem k3)
  obtain ⟨y, hy, qy⟩ := ry.get (List.getElem?_eq_getElem k4)
  obtain ⟨u, hu, ru⟩ := r1.get hx
  obtain ⟨v, hv, rv⟩ := r2.get hy
  rw [g1] at hu
  rw [g2] at hv
  (rw [Option.some.inj hu, Option.some.inj hv])
  rw [List.drop_eq_getElem_cons k3, List.drop_eq_getElem_cons k4] at hg
  cases eg : g xs[i] ys[i] with
  | none =>
    simp only [gQL, eg] at hg
    cases hg
  | some b =>
    refine wpAny_mono (h A.in1 pins s' σ H1 x y u v F1 R L _ _ b sb.in1 I1 ru rv S1 (qx.le le1) (qy.le le1) eg) (fun c s2 z => ?_) fun _ _ z => z
    obtain ⟨rfl, af⟩ := z
    cases c with
    | true =>
      simp only [gQL, eg] at hg
      exact hP1 s2 (af.le le1) hg
    | false =>
      simp only [gQL, eg] at hg
      exact hP2 s2 (af.le le1) (Option.some.inj hg).symm
/-- the end of the loop -/
theorem endR {xs ys : List D} {r : Bool} {i : Nat} (hi : i = min xs.length ys.length) (hg : gQL g (xs.drop i) (ys.drop i) = some r) : (xs.length == ys.length) = r := by
  rcases Nat.lt_trichotomy xs.length ys.length with h | h | h
  · rw [List.drop_eq_nil_of_le (by omega : xs.length ≤ i), List.drop_eq_getElem_cons (by omega : i < ys.length)] at hg
    cases hg
    simp only [beq_eq_false_iff_ne]
    omega
  · rw [List.drop_eq_nil_of_le (by omega : xs.length ≤ i), List.drop_eq_nil_of_le (by omega : ys.length ≤ i)] at hg
    cases hg
    simp only [beq_iff_eq]
    exact h
  · rw [List.drop_eq_nil_of_le (by omega : ys.length ≤ i), List.drop_eq_getElem_cons (by omega : i < xs.length)] at hg
    cases hg
    simp only [beq_eq_false_iff_ne]
    omega
/-- two tuples -/
theorem rc_tupQ (h : EqR X n g) {A : Around} (sb : Sub X (n + 1) A) {s : Shared} {p q : Addr} {xs ys : List D} {vs ws : List V} {r : Bool} (I : Inv X pins σ H s) (S : Sep X.K X.mg F R H L) (hp : F p = some (.tup vs)) (hq : F q = some (.tup ws))
    (rx : Reps X.K X.mg F vs xs) (ry : Reps X.K X.mg F ws ys) (hg : gQL g xs ys = some r) : wpAny (model X.prog X.w) A (richCompare .Eq (.ref p) (.ref q)) (fun z s' => z = .bool r ∧ Aft X pins σ F R L s') X.xe s := by
  obtain ⟨its, r1, e1, z1⟩ := I.tuple (a := p) (xs := vs) (.inl (.inl (S.fh p _ hp)))
  obtain ⟨its2, r2, e2, z2⟩ := I.tuple (a := q) (xs := ws) (.inl (.inl (S.fh q _ hq)))
  obtain ⟨⟨cls, dd, data, sl⟩, ho, hc, n1, hd⟩ := id e1
  obtain ⟨⟨cls2, dd2, data2, sl2⟩, ho2, hc2, n2, hd2⟩ := id e2
  simp only at hc hd hc2 hd2
  subst hc hd hc2 hd2
  have l1 : its.toArray.size = xs.length := by rw [List.size_toArray, ← r1.length]; exact rx.1
  have l2 : its2.toArray.size = ys.length := by rw [List.size_toArray, ← r2.length]; exact ry.1
  refine wpAny_richCompare_same_room (op := .Eq) ⟨_, ho, rfl⟩ ⟨_, ho2, rfl⟩ PySem.F.slot_tuple_eq (GQ.call_here PySem.F.slot_tuple_eq ⟨_, ho, rfl⟩ PySem.F.entry_tuple_eq (PySem.F.args_tuple_eq_2 _ _) ?_) sb.room.units0
  refine tup_eqR (R := wants (fun v s' => v ≠ .notImplemented ∧ (v = .bool r ∧ Aft X pins σ F R L s')) X.xe) p q its.toArray its2.toArray n1 n2 dd dd2 sl sl2 (fun i s' => Aft X pins σ F R L s' ∧ gQL g (xs.drop i) (ys.drop i) = some r) (fun i h1 h2 s' J => ?_) (fun s' J => ?_) ho ho2 ⟨⟨F, H, I, Le.refl F, S⟩, hg⟩
  · refine turnR h sb rx ry r1 r2 i h1 h2 s' J (fun s2 a b => ?_) fun s2 a b => ?_
    · rw [if_pos rfl]
      exact ⟨a, b⟩
    · rw [if_neg (by decide)]
      exact ⟨(fun z => nomatch z), by rw [b], a⟩
  · refine ⟨(fun z => nomatch z), ?_, J.1⟩
    rw [l1, l2] at J ⊢
    rw [endR rfl J.2]
theorem rn_tupQ (h : EqR X n g) {A : Around} (sb : Sub X (n + 1) A) {s : Shared} {p q : Addr} {xs ys : List D} {vs ws : List V} {r : Bool} (I : Inv X pins σ H s) (S : Sep X.K X.mg F R H L) (hp : F p = some (.tup vs)) (hq : F q = some (.tup ws))
    (rx : Reps X.K X.mg F vs xs) (ry : Reps X.K X.mg F ws ys) (hg : gQL g xs ys = some r) : wpAny (model X.prog X.w) A (richCompare .NotEq (.ref p) (.ref q)) (fun z s' => z = .bool (!r) ∧ Aft X pins σ F R L s') X.xe s := by
  obtain ⟨its, r1, e1, z1⟩ := I.tuple (a := p) (xs := vs) (.inl (.inl (S.fh p _ hp)))
  obtain ⟨its2, r2, e2, z2⟩ := I.tuple (a := q) (xs := ws) (.inl (.inl (S.fh q _ hq)))
  obtain ⟨⟨cls, dd, data, sl⟩, ho, hc, n1, hd⟩ := id e1
  obtain ⟨⟨cls2, dd2, data2, sl2⟩, ho2, hc2, n2, hd2⟩ := id e2
  simp only at hc hd hc2 hd2
  subst hc hd hc2 hd2
  have l1 : its.toArray.size = xs.length := by rw [List.size_toArray, ← r1.length]; exact rx.1
  have l2 : its2.toArray.size = ys.length := by rw [List.size_toArray, ← r2.length]; exact ry.1
  refine wpAny_richCompare_same_room (op := .NotEq) ⟨_, ho, rfl⟩ ⟨_, ho2, rfl⟩ PySem.F.slot_tuple_ne (GQ.call_here PySem.F.slot_tuple_ne ⟨_, ho, rfl⟩ PySem.F.entry_tuple_ne (PySem.F.args_tuple_ne_2 _ _) ?_) sb.room.units0
  refine tup_neR (R := wants (fun v s' => v ≠ .notImplemented ∧ (v = .bool (!r) ∧ Aft X pins σ F R L s')) X.xe) p q its.toArray its2.toArray n1 n2 dd dd2 sl sl2 (fun i s' => Aft X pins σ F R L s' ∧ gQL g (xs.drop i) (ys.drop i) = some r) (fun i h1 h2 s' J => ?_) (fun s' J => ?_) ho ho2 ⟨⟨F, H, I, Le.refl F, S⟩, hg⟩
  · refine turnR h sb rx ry r1 r2 i h1 h2 s' J (fun s2 a b => ?_) fun s2 a b => ?_
    · rw [if_pos rfl]
      exact ⟨a, b⟩
    · rw [if_neg (by decide)]
      exact ⟨(fun z => nomatch z), by rw [b]; rfl, a⟩
  · refine ⟨(fun z => nomatch z), ?_, J.1⟩
    rw [l1, l2] at J ⊢
    have := endR rfl J.2
    rw [← this]
    rfl
/-- a class with an == of its own that answers with a bool; != is object's -/
structure EqC (X : Cx) (kc : Nat) (c : Str) (f : List D → OF) : Prop where
  ex : ∃ C a, X.mg c = some (.ref C) ∧ PySem.W.findIn X.K (.ref C) "__eq__" = some (some (.ref a)) ∧ PySem.W.isFn X.K (.ref a) = true ∧ Ga X.prog X.w X.K X.mg X.base a kc 2 [false, false] f
/-- the call of the method -/
theorem call_own {A : Around} (sb : Sub X kc A) {s : Shared} {a p q : Addr} {f : List D → OF} {d e : D} {b : Bool} {bk : List D} (G : Ga X.prog X.w X.K X.mg X.base a kc 2 [false, false] f) (I : Inv X pins σ H s) (S : Sep X.K X.mg F R H L) (rd : Rep X.K X.mg F (.ref p) d) (re : Rep X.K X.mg F (.ref q) e)
    (hf : f [d, e] = .ok (.bl b) bk) : wpAny (model X.prog X.w) A (call (.ref a) [.ref p, .ref q]) (fun z s' => z = .bool b ∧ Aft X pins σ F R L s') X.xe s := by
  obtain ⟨fd, ps, hb, Fn⟩ := G.ex
  obtain ⟨R', S2, back⟩ := Sep.lend (L1 := kids [V.ref p, V.ref q] [d, e]) (L2 := L) (S.adds (Reps.cons rd (Reps.cons re Reps.nil)))
  have hsp : spOf X.K X.mg 2 [false, false] f [V.ref p, V.ref q] H (fun v H' => v = .bl b ∧ ∃ F', Le F F' ∧ Sep X.K X.mg F' R H' L) (fun _ _ _ => False) := by
    refine ⟨rfl, F, R', [d, e], rfl, S2, ?_⟩
    rw [hf]
    intro v H' F' le S3
    exact ⟨S3.bl List.mem_cons_self, F', le, back F' H' [] le (Sep.drop (L1 := [(some v, .bl b)]) S3)⟩
  have e0 : (Env0 X.prog X.w X.K X.mg X.base A X.stack s H) := by
    have e := I.env0
    (exact ⟨by rw [sb.fr]; exact e.frames, e.mod, e.bs, e.bsz, e.funs, e.frf, e.hok, e.bare⟩)
  have hl := Fn.len _ _ _ _ hsp
  refine wpAny_call (codeAny_mono (Fn.run A X.stack s H ⟨[.ref p, .ref q], []⟩ [.ref p, .ref q] [.ref p, .ref q] _ _ sb.room e0 (by
    have := hb s [.ref p, .ref q] I.kIn (by simpa using hl)
    simpa using this) (.cons rfl (.cons rfl .nil)) hsp) fun r s' hq => ?_)
  cases r with
  | error e => exact (cx_false hq).elim
  | ok fl =>
    cases fl with
    | ret w =>
      obtain ⟨z, H', I', rz, ez, F', le, S'⟩ := I.after hq
      subst ez
      cases rz
      exact ⟨rfl, F', H', I', le, S'⟩
    | next => exact False.elim hq
    | brk => exact False.elim hq
    | cont => exact False.elim hq
theorem rc_insQ {c : Str} {f : List D → OF} (ec : EqC X kc c f) {A : Around} (sb : Sub X kc A) {s : Shared} {p q : Addr} {ns ms : List Str} {xs ys : List D} {b : Bool} {bk : List D} (I : Inv X pins σ H s) (S : Sep X.K X.mg F R H L)
    (rd : Rep X.K X.mg F (.ref p) (.nd (.ob false c ns) xs)) (re : Rep X.K X.mg F (.ref q) (.nd (.ob false c ms) ys)) (hf : f [.nd (.ob false c ns) xs, .nd (.ob false c ms) ys] = .ok (.bl b) bk) :
    wpAny (model X.prog X.w) A (richCompare .Eq (.ref p) (.ref q)) (fun z s' => z = .bool b ∧ Aft X pins σ F R L s') X.xe s := by
  obtain ⟨C, a, hC, hs, hfn, G⟩ := ec.ex
  obtain ⟨p', vs, z, ⟨C1, d1, m1, c1, _⟩, _⟩ := rd.node
  cases z
  obtain ⟨q', ws, z, ⟨C2, d2, m2, c2, _⟩, _⟩ := re.node
  cases z
  rw [hC] at m1 m2
  cases m1
  cases m2
  obtain ⟨mA, J, _⟩ := ins_get I.hok (S.fh p _ c1)
  obtain ⟨mB, J', _⟩ := ins_get I.hok (S.fh q _ c2)
  obtain ⟨od, J, _⟩ := J.look
  (obtain ⟨od', J', _⟩ := J'.look)
  obtain ⟨m, hF⟩ := I.fr
  refine PySem.W.cmp_K (op := .Eq) (tb := .ref C) sb.room.units0 hF I.ok.mod.kin J J'.type (by simp [PySem.W.notFirst]) hs hfn ?_
  refine wpAny_mono (call_own sb G I S rd re hf) (fun z s' h => ?_) fun _ _ z => z
  obtain ⟨rfl, af⟩ := h
  exact ⟨rfl, af⟩
def flatK : D → Bool
  | .non => true
  | .bl _ => true
  | .int _ => true
  | .str _ => true
  | _ => false
theorem flat_eq {K : PySem.W.Frag} {mg : Str → Option Value} {d e : D} {x y : V} (h1 : flatK d = true) (h2 : flatK e = true) (r1 : Rep K mg F x d) (r2 : Rep K mg F y e) : flatV x = true ∧ flatV y = true ∧ eqV x y = PyData.eqv (toPy d) (toPy e) := by
  cases d with
  | non =>
    cases rep_non r1
    cases e with
    | non => cases rep_non r2; exact ⟨rfl, rfl, rfl⟩
    | bl b => cases rep_bl r2; exact ⟨rfl, rfl, rfl⟩
    | int b => cases rep_int r2; exact ⟨rfl, rfl, rfl⟩
    | str b => cases rep_str r2; exact ⟨rfl, rfl, rfl⟩
    | _ => cases h2
  | bl a =>
    cases rep_bl r1
    cases e with
    | non => cases rep_non r2; exact ⟨rfl, rfl, rfl⟩
    | bl b => cases rep_bl r2; exact ⟨rfl, rfl, rfl⟩
    | int b => cases rep_int r2; exact ⟨rfl, rfl, rfl⟩
    | str b => cases rep_str r2; exact ⟨rfl, rfl, rfl⟩
    | _ => cases h2
  | int a =>
    cases rep_int r1
    cases e with
    | non => cases rep_non r2; exact ⟨rfl, rfl, rfl⟩
    | bl b => cases rep_bl r2; exact ⟨rfl, rfl, rfl⟩
    | int b => cases rep_int r2; exact ⟨rfl, rfl, rfl⟩
    | str b => cases rep_str r2; exact ⟨rfl, rfl, rfl⟩
    | _ => cases h2
  | str a =>
    cases rep_str r1
    cases e with
    | non => cases rep_non r2; exact ⟨rfl, rfl, rfl⟩
    | bl b => cases rep_bl r2; exact ⟨rfl, rfl, rfl⟩
    | int b => cases rep_int r2; exact ⟨rfl, rfl, rfl⟩
    | str b => cases rep_str r2; exact ⟨rfl, rfl, rfl⟩
    | _ => cases h2
  | _ => cases h1
theorem gQ_of {cs : List (Str × (List D → OF))} {d e : D} {r : Bool} (h : gQ cs (n + 1) d e = some r) : shp d = true ∧ shp e = true ∧ gQ1 cs (gQ cs n) d e = some r ∧ (eqT d e = true → r = true) := by
  unfold gQ at h
  split at h
  · rename_i hs
    obtain ⟨h1, h2⟩ := Bool.and_eq_true_iff.mp hs
    refine ⟨h1, h2, ?_⟩
    split at h
    · rename_i b hb
      split at h
      · cases h
      · rename_i hn
        cases h
        refine ⟨hb, fun he => ?_⟩
        cases r with
        | true => rfl
        | false => exact absurd (by rw [he]; rfl) hn
    · cases h
  · cases h
/-- the two kinds of what is asked: flat, or objects -/
theorem gQ1_flat {cs : List (Str × (List D → OF))} {d e : D} {r : Bool} (h : gQ1 cs g d e = some r) (hs1 : shp d = true) (hs2 : shp e = true) :
    (flatK d = true ∧ flatK e = true ∧ PyData.eqv (toPy d) (toPy e) = r) ∨ (∃ xs ys, d = .nd .tup xs ∧ e = .nd .tup ys ∧ gQL g xs ys = some r) ∨
    ∃ c ns ms xs ys f bk, d = .nd (.ob false c ns) xs ∧ e = .nd (.ob false c ms) ys ∧ cs.lookup c = some f ∧ f [.nd (.ob false c ns) xs, .nd (.ob false c ms) ys] = .ok (.bl r) bk := by
  unfold gQ1 at h
  split at h
  · exact .inr (.inl ⟨_, _, rfl, rfl, h⟩)
  · rename_i c ns xs c' ms ys
    split at h
    · rename_i hc
      subst hc
      split at h
      · rename_i f hl
        split at h
        · rename_i b bk hb
          cases h
          exact .inr (.inr ⟨_, _, _, _, _, _, _, rfl, rfl, hl, hb⟩)
        · cases h
      · cases h
    · cases h
  · cases h
  · cases h
  · rename_i h1 h2 h3 h4
    cases h
    refine .inl ⟨?_, ?_, rfl⟩
    · cases d with
      | nd k xs => exact (h1 k xs rfl).elim
      | un => cases hs1
      | ty => cases hs1
      | fn => cases hs1
      | _ => rfl
    · cases e with
      | nd k xs => exact (h2 k xs rfl).elim
      | un => cases hs2
      | ty => cases hs2
      | fn => cases hs2
      | _ => rfl
theorem eqR_all {cs : List (Str × (List D → OF))} (hc : ∀ c f, cs.lookup c = some f → EqC X kc c f) : ∀ n : Nat, EqR X (n + kc) (gQ cs n)
  | 0 => fun A pins s σ H x y u v F R L dx dy r sb I ru rv S rd re h => by cases h
  | n + 1 => fun A pins s σ H x y u v F R L dx dy r sb I ru rv S rd re h => by
    obtain ⟨h1, h2, h3, h4⟩ := gQ_of h
    rcases gQ1_flat h3 h1 h2 with ⟨f1, f2, e⟩ | ⟨xs, ys, rfl, rfl, hL⟩ | ⟨c, ns, ms, xs, ys, f, bk, rfl, rfl, hl, hf⟩
    · obtain ⟨k1, k2, k3⟩ := flat_eq f1 f2 rd re
      have q := eqAt_V (A := A) (s := s) ru rv k1 k2
      rw [k3, e] at q
      exact q X.prog X.w X.xe _ ⟨rfl, F, H, I, Le.refl F, S⟩
    · obtain ⟨p, vs, rfl, c1, q1⟩ := rd.node
      obtain ⟨q, ws, rfl, c2, q2⟩ := re.node
      cases ru
      cases rv
      by_cases hab : p = q
      · subst hab
        cases h4 (uniq h1 h2 rd re)
        exact SeqAt.EqAt.same (A := A) (s := s) (.ref p) X.prog X.w X.xe _ ⟨rfl, F, H, I, Le.refl F, S⟩
      · refine GQ.eqBool_refG hab (wpAny_mono (rc_tupQ (eqR_all hc n) (sb.mono (by omega)) I S c1 c2 q1 q2 hL) (fun z s' k => ?_) fun _ _ z => z)
        exact ⟨r, k.1, rfl, k.2⟩
    · obtain ⟨p, vs, rfl, c1, q1⟩ := rd.node
      obtain ⟨q, ws, rfl, c2, q2⟩ := re.node
      cases ru
      cases rv
      by_cases hab : p = q
      · subst hab
        cases h4 (uniq h1 h2 rd re)
        exact SeqAt.EqAt.same (A := A) (s := s) (.ref p) X.prog X.w X.xe _ ⟨rfl, F, H, I, Le.refl F, S⟩
      · refine GQ.eqBool_refG hab (wpAny_mono (rc_insQ (hc c f hl) (sb.mono (by omega)) I S rd re hf) (fun z s' k => ?_) fun _ _ z => z)
        exact ⟨r, k.1, rfl, k.2⟩
end
end PI
set_option maxHeartbeats 3900000
namespace PI
open L2 PySem PyProof.Rows PySem.Spec PySem.SeqAt
/-- what a class must be like for != to be object's, by its own == -/
def neB (K : PySem.W.Frag) (C a : Addr) : Bool := match K.lookup C with
  | some ⟨.type c, _, .cls cd, sl⟩ => decide (c = "type") && ((match cd.mro, sl.toList with
    | [.ref C', .type b], [_, _, _, _, some (.builtin _), _] => decide (C' = C) && (decide (b = "object") && (!cd.hasDel && (match K.lookup cd.ns with
      | some ⟨_, _, .dict es _, _⟩ => (es.toList.all fun e => match e.key with
        | .str _ _ => true
        | _ => false) && (decide (nsFind es "__eq__" = some (.ref a)) && decide (nsFind es "__ne__" = none))
      | _ => false)))
    | _, _ => false) && (match K.lookup a with
      | some ⟨.type t, _, _, _⟩ => decide (t = "function")
      | _ => false))
  | _ => false
theorem neB_ok {K : PySem.W.Frag} {C a : Addr} {h : Heap} {x : Addr} {o : Obj} (X : K.In h) (hb : neB K C a = true) (hx : h.get? x = some o) (hc : o.cls = .ref C) : h.OwnEqNoNe x C a "object" [.type "object"] := by
  unfold neB at hb
  split at hb
  · rename_i c dd cd sl hC
    replace hb := an2 hb
    obtain ⟨b1, hb⟩ := hb
    replace hb := an2 hb
    obtain ⟨b2, b3⟩ := hb
    replace b1 := of_decide_eq_true b1
    subst b1
    split at b2
    · rename_i C' b k0 k1 k2 k3 num k5 hm hs
      replace b2 := an2 b2
      obtain ⟨e1, b2⟩ := b2
      replace b2 := an2 b2
      obtain ⟨e2, b2⟩ := b2
      replace b2 := an2 b2
      obtain ⟨e3, b2⟩ := b2
      replace e1 := of_decide_eq_true e1
      replace e2 := of_decide_eq_true e2
      replace e3 : cd.hasDel = false := by simpa using e3
      subst e1 e2
      split at b2
      · rename_i oc od es ep osl hN
        replace b2 := an2 b2
        obtain ⟨n1, b2⟩ := b2
        replace b2 := an2 b2
        obtain ⟨n2, n3⟩ := b2
        split at b3
        · rename_i t od2 dt2 sl2 hA
          replace b3 := of_decide_eq_true b3
          subst b3
          rcases cd with ⟨nm, bs, mro, ns, qn, hd, sn, sub, ab, col, del⟩
          dsimp only at hm e3 hN
          subst hm e3
          have hsl : sl = #[k0, k1, k2, k3, some (.builtin num), k5] := by
            obtain ⟨l⟩ := sl
            simp only at hs
            rw [hs]
          subst hsl
          refine ⟨o, _, nm, qn, ns, bs, hd, sn, sub, ab, col, dd, k0, k1, k2, k3, k5, num, nsFind es, some (.builtin "object.__eq__"), hx, hc, X _ _ hC, ⟨_, es, ep, X _ _ hN, rfl, fun e he => ?_, fun _ => rfl⟩, of_decide_eq_true n2, X _ _ hA, rfl, PySem.F.cmp_object.mro, ?_, of_decide_eq_true n3⟩
          · have q := List.all_eq_true.mp n1 e (by simpa using he)
            split at q
            · rename_i n t hk
              exact ⟨n, t, hk⟩
            · cases q
          · rw [typeLookup_type, builtinLookup_eq_fast]
            kernel_rfl
        · cases b3
      · cases b2
    · cases b2
  · cases hb
variable [Tb]
section
variable {X : Cx} {F F' H H' : Hp} {R : Rv} {σ : L2.St} {L : List (Option V × D)} {n kc : Nat} {g : D → D → Option Bool} {pins : List (Addr × Obj)}
/-- .. its != too -/
structure NeC (X : Cx) (kc : Nat) (c : Str) (f : List D → OF) : Prop where
  ex : ∃ C a, X.mg c = some (.ref C) ∧ neB X.K C a = true ∧ Ga X.prog X.w X.K X.mg X.base a kc 2 [false, false] f
theorem rn_insQ {c : Str} {f : List D → OF} (ec : NeC X kc c f) {A : Around} (sb : Sub X (kc + 2) A) {s : Shared} {p q : Addr} {ns ms : List Str} {xs ys : List D} {b : Bool} {bk : List D} (I : Inv X pins σ H s) (S : Sep X.K X.mg F R H L)
    (rd : Rep X.K X.mg F (.ref p) (.nd (.ob false c ns) xs)) (re : Rep X.K X.mg F (.ref q) (.nd (.ob false c ms) ys)) (hf : f [.nd (.ob false c ns) xs, .nd (.ob false c ms) ys] = .ok (.bl b) bk) :
    wpAny (model X.prog X.w) A (richCompare .NotEq (.ref p) (.ref q)) (fun z s' => z = .bool (!b) ∧ Aft X pins σ F R L s') X.xe s := by
  obtain ⟨C, a, hC, hn, G⟩ := ec.ex
  obtain ⟨p', vs, z, ⟨C1, d1, m1, c1, _⟩, _⟩ := rd.node
  cases z
  obtain ⟨q', ws, z, ⟨C2, d2, m2, c2, _⟩, _⟩ := re.node
  cases z
  rw [hC] at m1 m2
  cases m1
  cases m2
  obtain ⟨mA, J, _⟩ := ins_get I.hok (S.fh p _ c1)
  obtain ⟨mB, J', _⟩ := ins_get I.hok (S.fh q _ c2)
  obtain ⟨od, J, _⟩ := J.look
  (obtain ⟨od', J', _⟩ := J'.look)
  have Y := neB_ok I.kIn hn J.at_ J.cls
  have sb1 : Sub X (kc + 1) A.in1 := sb.in1
  obtain ⟨hh, gg, dr, tk, os⟩ := s
  refine richCompare_ne_ownEq PySem.F.cmp_object Y J'.at_ J'.cls (by have := sb1.room.units0; exact this) ?_
  refine wpAny_mono (call_own (sb1.mono (by omega)) G I S rd re hf) (fun z s' h => ?_) fun _ _ z => z
  obtain ⟨rfl, af⟩ := h
  exact ⟨b, rfl, rfl, af⟩
def gTop (cs : List (Str × (List D → OF))) (d e : D) : Option Bool := match d, e with
  | .nd k xs, .nd l ys => if shp (.nd k xs) && shp (.nd l ys) then gQ1 cs (gQ cs 20) (.nd k xs) (.nd l ys) else none
  | _, _ => none
def gEqQ (cs : List (Str × (List D → OF))) (d e : D) : Option D := (gEq d e).or ((gTop cs d e).map .bl)
def gNeQ (cs : List (Str × (List D → OF))) (d e : D) : Option D := (gNe d e).or ((gTop cs d e).map fun b => .bl (!b))
mutual
theorem shp_fz : ∀ {d : D}, shp d = true → isFz d = true
  | .non, _ => rfl
  | .bl _, _ => rfl
  | .int _, _ => rfl
  | .str _, _ => rfl
  | .nd .tup xs, h => by simp only [isFz, Kd.own, shpL_fz (xs := xs) h]; rfl
  | .nd (.ob false _ _) xs, h => by simp only [isFz, Kd.own, shpL_fz (xs := xs) h]; rfl
  | .nd (.ob true _ _) _, h => by cases h
  | .nd .rol _, h => by cases h
  | .nd (.lst _) _, h => by cases h
  | .nd (.dk _ _) _, h => by cases h
  | .nd (.dt _ _) _, h => by cases h
  | .un, h => by cases h
  | .ty _, h => by cases h
  | .fn _, h => by cases h
theorem shpL_fz : ∀ {xs : List D}, shpL xs = true → isFzL xs = true
  | [], _ => rfl
  | x :: xs, h => by
    obtain ⟨h1, h2⟩ := Bool.and_eq_true_iff.mp (show (shp x && shpL xs) = true from h)
    simp only [isFzL, shp_fz h1, shpL_fz (xs := xs) h2, Bool.and_self]
end
theorem gTop_of {cs : List (Str × (List D → OF))} {d e : D} {b : Bool} (h : gTop cs d e = some b) : shp d = true ∧ shp e = true ∧ gQ1 cs (gQ cs 20) d e = some b ∧ flatK d = false := by
  unfold gTop at h
  split at h
  · split at h
    · rename_i hs
      obtain ⟨h1, h2⟩ := Bool.and_eq_true_iff.mp hs
      exact ⟨h1, h2, h, rfl⟩
    · cases h
  · cases h
theorem ok_eqQ {cs : List (Str × (List D → OF))} (hu : X.A.units + 64 < cLine) (hc : ∀ c f, cs.lookup c = some f → EqC X kc c f) (hr : Room (21 + kc) X.A) : Prim2 X (compareOp .Eq) (gEqQ cs) := by
  intro F R H L x y dx dy r Q S m1 m2 e hQ
  unfold gEqQ at e
  cases h1 : gEq dx dy with
  | some r1 =>
    rw [h1] at e
    cases e
    exact ok_eq hu F R H L x y dx dy r Q S m1 m2 h1 hQ
  | none =>
    rw [h1] at e
    cases h2 : gTop cs dx dy with
    | none => rw [h2] at e; cases e
    | some b =>
      rw [h2] at e
      cases e
      obtain ⟨s1, s2, s3, s4⟩ := gTop_of h2
      have rd := S.rep_mem m1 (shp_fz s1)
      have re := S.rep_mem m2 (shp_fz s2)
      refine ⟨fun x' y' H' Q' => x' = x ∧ y' = y ∧ H' = H ∧ Q' = Q, fun pins s σ H' x' y' v u Q' I rx ry hq => ?_, rfl, rfl, rfl, rfl⟩
      obtain ⟨rfl, rfl, rfl, rfl⟩ := hq
      have fin : ∀ (z : Value) (s' : Shared), (z = .bool b ∧ Aft X pins σ F R L s') → EP X pins σ Q' z s' := fun z s' k => by
        obtain ⟨rfl, F2, H2, I2, le, S2⟩ := k
        exact ⟨.bl b, H2, I2, rfl, hQ _ F2 H2 le (S2.add (leaf_rep rfl))⟩
      show wpAny (model X.prog X.w) X.A (richCompare .Eq v u) (EP X pins σ Q') X.xe s
      rcases gQ1_flat s3 s1 s2 with ⟨f1, _, _⟩ | ⟨xs, ys, rfl, rfl, hL⟩ | ⟨c, ns, ms, xs, ys, f, bk, rfl, rfl, hl, hf⟩
      · rw [s4] at f1; cases f1
      · obtain ⟨p, vs, rfl, c1, q1⟩ := rd.node
        obtain ⟨q, ws, rfl, c2, q2⟩ := re.node
        cases rx
        cases ry
        exact wpAny_mono (rc_tupQ (eqR_all hc 20) (A := X.A) ⟨hr.mono (by omega), rfl⟩ I S c1 c2 q1 q2 hL) fin fun _ _ z => z
      · obtain ⟨p, vs, rfl, c1, q1⟩ := rd.node
        obtain ⟨q, ws, rfl, c2, q2⟩ := re.node
        cases rx
        cases ry
        exact wpAny_mono (rc_insQ (hc c f hl) (A := X.A) ⟨hr.mono (by omega), rfl⟩ I S rd re hf) fin fun _ _ z => z
theorem ok_neQ {cs : List (Str × (List D → OF))} (hu : X.A.units + 64 < cLine) (hc : ∀ c f, cs.lookup c = some f → EqC X kc c f) (hn : ∀ c f, cs.lookup c = some f → NeC X kc c f) (hr : Room (21 + kc) X.A) : Prim2 X (compareOp .NotEq) (gNeQ cs) := by
  intro F R H L x y dx dy r Q S m1 m2 e hQ
  unfold gNeQ at e
  cases h1 : gNe dx dy with
  | some r1 =>
    rw [h1] at e
    cases e
    exact ok_ne hu F R H L x y dx dy r Q S m1 m2 h1 hQ
  | none =>
    rw [h1] at e
    cases h2 : gTop cs dx dy with
    | none => rw [h2] at e; cases e
    | some b =>
      rw [h2] at e
      cases e
      obtain ⟨s1, s2, s3, s4⟩ := gTop_of h2
      have rd := S.rep_mem m1 (shp_fz s1)
      have re := S.rep_mem m2 (shp_fz s2)
      refine ⟨fun x' y' H' Q' => x' = x ∧ y' = y ∧ H' = H ∧ Q' = Q, fun pins s σ H' x' y' v u Q' I rx ry hq => ?_, rfl, rfl, rfl, rfl⟩
      obtain ⟨rfl, rfl, rfl, rfl⟩ := hq
      have fin : ∀ (z : Value) (s' : Shared), (z = .bool (!b) ∧ Aft X pins σ F R L s') → EP X pins σ Q' z s' := fun z s' k => by
        obtain ⟨rfl, F2, H2, I2, le, S2⟩ := k
        exact ⟨.bl (!b), H2, I2, rfl, hQ _ F2 H2 le (S2.add (leaf_rep rfl))⟩
      show wpAny (model X.prog X.w) X.A (richCompare .NotEq v u) (EP X pins σ Q') X.xe s
      rcases gQ1_flat s3 s1 s2 with ⟨f1, _, _⟩ | ⟨xs, ys, rfl, rfl, hL⟩ | ⟨c, ns, ms, xs, ys, f, bk, rfl, rfl, hl, hf⟩
      · rw [s4] at f1; cases f1
      · obtain ⟨p, vs, rfl, c1, q1⟩ := rd.node
        obtain ⟨q, ws, rfl, c2, q2⟩ := re.node
        cases rx
        cases ry
        exact wpAny_mono (rn_tupQ (eqR_all hc 20) (A := X.A) ⟨hr.mono (by omega), rfl⟩ I S c1 c2 q1 q2 hL) fin fun _ _ z => z
      · obtain ⟨p, vs, rfl, c1, q1⟩ := rd.node
        obtain ⟨q, ws, rfl, c2, q2⟩ := re.node
        cases rx
        cases ry
        exact wpAny_mono (rn_insQ (hn c f hl) (A := X.A) ⟨hr.mono (by omega), rfl⟩ I S rd re hf) fin fun _ _ z => z
end
end PI
set_option maxHeartbeats 3900000
namespace PI
open L2 PySem PyProof.Rows PySem.Spec
variable [Tb]
section
variable {X : Cx} {pr : List Nat} {o : Option Nat}
def hRetB (b : Bool) : Str → List Str → List D → M Fl := fun _ _ _ en => .ok (.rt (.bl b)) en
theorem hok_retB {b : Bool} {j : Nat} {p2 p3 : Pos} : HOk X pr o [.Return (some (.Constant (.bool b) j p2)) p3] (hRetB b) := by
  refine ⟨fun a dx C oe pn F R H σ en De c ns xs hz hf hC xd S hsl h => ?_⟩
  refine uSs.of (pss_one (ps_ret pe_bl)) ?_
  exact h _ σ H F (Le.refl F) (Keep.refl pr σ) (S.add (leaf_rep rfl))
end
end PI
set_option maxHeartbeats 3900000
namespace PI
open L2 PySem PyProof.Rows PySem.Spec
variable [Tb]
structure EqFact (K : PySem.W.Frag) (mg : Str → Option Value) (c : Str) (a : Addr) : Prop where
  ex : ∃ C, mg c = some (.ref C) ∧ PySem.W.findIn K (.ref C) "__eq__" = some (some (.ref a)) ∧ PySem.W.isFn K (.ref a) = true
structure NeFact (K : PySem.W.Frag) (mg : Str → Option Value) (c : Str) (a : Addr) : Prop where
  ex : ∃ C, mg c = some (.ref C) ∧ neB K C a = true
def ownEqB (K : PySem.W.Frag) (C a : Addr) : Bool := decide (PySem.W.findIn K (.ref C) "__eq__" = some (some (.ref a))) && PySem.W.isFn K (.ref a)
def methB (K : PySem.W.Frag) (C a : Addr) (m : Str) : Bool := clsB K C && (decide (PySem.W.findIn K (.ref C) m = some (some (.ref a))) && (PySem.W.isFn K (.ref a) && PySem.W.keepIn K (.ref a)))
theorem eqFact_of {K : PySem.W.Frag} {mg : Str → Option Value} {c : Str} {C a : Addr} (hm : mg c = some (.ref C)) (h : ownEqB K C a = true) : EqFact K mg c a := by
  obtain ⟨h1, h2⟩ := an2 h
  exact ⟨C, hm, of_decide_eq_true h1, h2⟩
theorem neFact_of {K : PySem.W.Frag} {mg : Str → Option Value} {c : Str} {C a : Addr} (hm : mg c = some (.ref C)) (h : neB K C a = true) : NeFact K mg c a := ⟨C, hm, h⟩
theorem methOk_of {K : PySem.W.Frag} {mg : Str → Option Value} {c m : Str} {C a : Addr} (hm : mg c = some (.ref C)) (h : methB K C a m = true) : MethOk K mg c m a := by
  obtain ⟨h1, h2⟩ := an2 h
  obtain ⟨h2, h3⟩ := an2 h2
  obtain ⟨h3, h4⟩ := an2 h3
  exact ⟨C, hm, clsB_ok h1, of_decide_eq_true h2, h3, h4⟩
section
variable {X : Cx} {k kc : Nat} {c : Str} {f : List D → OF} {cs : List (Str × (List D → OF))} {a : Addr}
theorem eqc_nil : ∀ c f, ([] : List (Str × (List D → OF))).lookup c = some f → EqC X kc c f := fun _ _ h => by cases h
theorem nec_nil : ∀ c f, ([] : List (Str × (List D → OF))).lookup c = some f → NeC X kc c f := fun _ _ h => by cases h
theorem eqc_cons (e : EqFact X.K X.mg c a) (G : Ga X.prog X.w X.K X.mg X.base a k 2 [false, false] f) (hk : k ≤ kc) (r : ∀ c f, cs.lookup c = some f → EqC X kc c f) : ∀ c' f', ((c, f) :: cs).lookup c' = some f' → EqC X kc c' f' := fun c' f' h => by
  rw [List.lookup_cons] at h
  split at h
  · rename_i z
    cases h
    rw [beq_iff_eq.mp z]
    obtain ⟨C, h1, h2, h3⟩ := e.ex
    exact ⟨C, a, h1, h2, h3, G.mono hk⟩
  · exact r c' f' h
theorem nec_cons (e : NeFact X.K X.mg c a) (G : Ga X.prog X.w X.K X.mg X.base a k 2 [false, false] f) (hk : k ≤ kc) (r : ∀ c f, cs.lookup c = some f → NeC X kc c f) : ∀ c' f', ((c, f) :: cs).lookup c' = some f' → NeC X kc c' f' := fun c' f' h => by
  rw [List.lookup_cons] at h
  split at h
  · rename_i z
    cases h
    rw [beq_iff_eq.mp z]
    obtain ⟨C, h1, h2⟩ := e.ex
    exact ⟨C, a, h1, h2, G.mono hk⟩
  · exact r c' f' h
end
end PI
set_option maxHeartbeats 3900000
namespace PI
open L2 PySem PyProof.Rows PySem.Spec
variable [Tb]
section
variable {X : Cx} {K : PySem.W.Frag} {mg : Str → Option Value} {F F' F1 H H' H1 : Hp} {R : Rv} {σ σ' σ1 : L2.St} {L : List (Option V × D)} {en en' : List D} {vs ws : List V} {v x y : V} {d : D} {W : WX} {Q : VK} {pos : Pos} {xs ys : List D}
/-- a op b, both frozen -/
def dCmpc (g : D → D → Option D) (fa fb : M Op) : M Op := bd fa fun a => bd fb fun b => fun en => ofO ((g (cool (escD en a)) (cool (escD (escE en a) b))).map .v) (escE (escE en a) b)
theorem cmpc_key {f : Value → Value → Sem Value} {g : D → D → Option D} {e1 e2 : Expr} {fa fb : M Op} (hg : Prim2 X f g) (h1 : DO X e1 fa) (h2 : DO X e2 fb) (tk : Takes X W) (S : SepE X F R H σ en []) (h : wpO (dCmpc g fa fb en) (PVo X F R σ Q) (PXc X W F R σ)) :
    uE X σ H e1 fun x H1 => uE X σ H1 e2 fun y H2 => ∃ rr, OpR X f rr ∧ rr x y H2 Q :=
  two h1 h2 tk S h (Q2 := fun x y H2 => ∃ rr, OpR X f rr ∧ rr x y H2 Q) fun x y a b en2 F2 H2 le S2 h => by
    obtain ⟨F3, le3, S3, rs⟩ := cools_ok (T := []) S2.1 (by rw [List.append_nil]; exact S2.2)
    have rs2 : Reps X.K X.mg F3 [x, y] [cool (escD en2 a), cool (escD (escE en2 a) b)] := rs
    have S4 := S3.sep.adds rs2
    cases e : g (cool (escD en2 a)) (cool (escD (escE en2 a) b)) with
    | none => simp only [e, Option.map_none, ofO_none] at h; exact h.elim
    | some r =>
      simp only [e, Option.map_some, ofO_some] at h
      refine hg F3 R H2 _ x y _ _ r Q S4 List.mem_cons_self (List.mem_cons_of_mem _ List.mem_cons_self) e fun v F' H' le' S' => ?_
      refine h v H' F' (le.trans (le3.trans le')) ⟨trivial, S3.len, ?_⟩
      have := S'.perm (L' := kids [x, y] [cool (escD en2 a), cool (escD (escE en2 a) b)] ++ ((some v, r) :: σ.zip (escE (escE en2 a) b))) List.perm_middle.symm
      exact this.drop
theorem do_cmpc {op : CmpOp} {g : D → D → Option D} {a b : Expr} {fa fb : M Op} (hg : Prim2 X (compareOp op) g) (h1 : DO X a fa) (h2 : DO X b fb) (hm : behindInMarks op b = false) : DO X (.Compare a [op] [b] pos) (dCmpc g fa fb) := by
  refine ⟨fun W F R H σ en Q tk S h => ?_⟩
  refine uE.of (pe_cmpR (r := fun x y H Q => ∃ rr, OpR X (compareOp op) rr ∧ rr x y H Q) (fun pins s σ H x y v u Q I rx ry q => ?_) (uE.pe X a) (uE.pe X b) hm) (cmpc_key hg h1 h2 tk S h)
  obtain ⟨rr, ho, q⟩ := q
  exact ho pins s σ H x y v u Q I rx ry q
theorem dt_cmpc {op : CmpOp} {g : D → D → Option D} {a b : Expr} {fa fb : M Op} (hg : Prim2 X (compareOp op) g) (h1 : DO X a fa) (h2 : DO X b fb) (hm : behindInMarks op b = false) : DT X (.Compare a [op] [b] pos) (dBl (dCmpc g fa fb)) := by
  refine ⟨fun W F R H σ en Q tk S h => ?_⟩
  unfold dBl at h
  rw [wpO_bd] at h
  have h' : wpO (dCmpc g fa fb en) (PVo X F R σ fun x H' => ∃ k, x = .bl k ∧ Q k H') (PXc X W F R σ) := wpO_mono h (fun o en' h v H' F' le S' => by
    have m := mem1 S'
    revert h m
    cases res en' o with
    | bl b => exact fun h m => ⟨b, S'.2.sep.bl m, h H' F' le S'.2.clear⟩
    | _ => exact fun h _ => h.elim) fun _ _ _ _ q => q
  refine uT.of (pt_cmpR (r := fun x y H Q => ∃ rr, OpR X (compareOp op) rr ∧ rr x y H Q) (fun pins s σ H x y v u Q I rx ry q => ?_) (uE.pe X a) (uE.pe X b) hm) (cmpc_key (Q := fun x H' => ∃ k, x = .bl k ∧ Q k H') hg h1 h2 tk S h')
  obtain ⟨rr, ho, q⟩ := q
  exact ho pins s σ H x y v u Q I rx ry q
def eqK (ls : List Key) (ys : List D) : List Key → List D → Option Bool
  | [], [] => some true
  | k :: ks, x :: xs => match look ls ys k with
    | some y => match eqK ls ys ks xs with
      | some b => some (PyData.eqv (toPy x) (toPy y) && b)
      | none => none
    | none => none
  | _, _ => none
def gKE : D → D → Option Bool
  | .nd (.dk false ks) xs, .nd (.dk false ls) ys => if plainL 60 xs && plainL 60 ys && decide (ks.length = ls.length) then eqK ls ys ks xs else none
  | _, _ => none
def DpS (K : PySem.W.Frag) (H : Hp) (v : V) (d : D) : Prop := Dp K H v (toPy d) ∧ SeqAt.shaped (toPy d) = true
theorem hits_of {A : Around} {s : Shared} {pins : List (Addr × Obj)} (I : Inv X pins σ H s) (hu : A.in1.units + 64 < cLine) {ls : List Key} {vb : List (Key × Value)} (rb : KV (ls.zip ws) vb) (hl1 : ls.length = ws.length) (hl2 : ws.length = ys.length)
    (hw : ∀ (i : Nat) w y, ws[i]? = some w → ys[i]? = some y → DpS X.K H w y) :
    ∀ {ks : List Key} {vs : List V} {xs : List D} {va : List (Key × Value)} {r : Bool}, KV (ks.zip vs) va → ks.length = vs.length → vs.length = xs.length → (∀ (i : Nat) v x, vs[i]? = some v → xs[i]? = some x → DpS X.K H v x) → eqK ls ys ks xs = some r → PySem.W.KeqHits A.in1 s vb va r
  | [], [], [], va, r, ra, _, _, _, e => by
    cases ra
    cases e
    exact .nil
  | k :: ks, v :: vs, x :: xs, va, r, ra, l1, l2, hv, e => by
    cases ra with
    | @cons _ q _ qs h t =>
      obtain ⟨k', u⟩ := q
      obtain ⟨ek, rv⟩ := h
      have ek : k = k' := ek
      subst ek
      unfold eqK at e
      cases ey : look ls ys k with
      | none => rw [ey] at e; cases e
      | some y =>
        rw [ey] at e
        cases er : eqK ls ys ks xs with
        | none => rw [er] at e; cases e
        | some b =>
          rw [er] at e
          cases e
          obtain ⟨i, w, hw1, hw2, hw3⟩ := look_val hl1 hl2 ey
          have rr : RelO (some w) (valueAt vb k) := by rw [← hw3]; exact rb.val k
          obtain ⟨u2, hu2, ru2⟩ := rr.some_of
          obtain ⟨d1, s1⟩ := hv 0 v x rfl rfl
          obtain ⟨d2, s2⟩ := hw i w y hw1 hw2
          obtain ⟨as, r1⟩ := Dp.reads I _ _ _ d1 rv
          obtain ⟨bs, r2⟩ := Dp.reads I _ _ _ d2 ru2
          exact .hit hu2 (PySem.W.keq_at r1 r2 s1 s2 hu) (hits_of I hu rb hl1 hl2 hw t (by simpa using l1) (by simpa using l2) (fun i v x h1 h2 => hv (i + 1) v x (by simpa using h1) (by simpa using h2)) er)
  | [], _ :: _, _, _, _, _, h, _, _, _ => (by cases h)
  | _ :: _, [], _, _, _, _, h, _, _, _ => (by cases h)
  | [], [], _ :: _, _, _, _, _, h, _, _ => (by cases h)
  | _ :: _, _ :: _, [], _, _, _, _, h, _, _ => (by cases h)
theorem dk_parts {ks : List Key} (S : Sep X.K X.mg F R H L) (m : (some x, .nd (.dk false ks) xs) ∈ L) (hp : plainL 60 xs = true) (hz : isFzL xs = true) : ∃ p vs, x = .ref p ∧ H p = some (.dK (ks.zip vs)) ∧ ks.length = vs.length ∧ vs.length = xs.length ∧ ∀ (i : Nat) v d, vs[i]? = some v → xs[i]? = some d → DpS X.K H v d := by
  obtain ⟨p, vs, e, hl, hc, rs⟩ := S.rds m hz
  have hc' : H p = some (.dK (ks.zip vs)) ∧ ks.length = vs.length := hc
  refine ⟨p, vs, e, hc'.1, hc'.2, hl, fun i v d h1 h2 => ?_⟩
  obtain ⟨v', h1', r⟩ := rs.get h2
  rw [h1] at h1'
  cases h1'
  exact (S.add r).dp List.mem_cons_self (plainL_mem hp _ (List.mem_of_getElem? h2))
theorem gKE_of {dx dy : D} {r : Bool} (h : gKE dx dy = some r) : ∃ ks ls xs ys, dx = .nd (.dk false ks) xs ∧ dy = .nd (.dk false ls) ys ∧ plainL 60 xs = true ∧ plainL 60 ys = true ∧ ks.length = ls.length ∧ eqK ls ys ks xs = some r := by
  unfold gKE at h
  split at h
  · split at h
    · rename_i hz
      simp only [Bool.and_eq_true, decide_eq_true_eq] at hz
      exact ⟨_, _, _, _, rfl, rfl, hz.1.1, hz.1.2, hz.2, h⟩
    · cases h
  · cases h
def gEqK (d e : D) : Option D := if isFz d && isFz e then (gKE d e).map .bl else none
def gNeK (d e : D) : Option D := if isFz d && isFz e then (gKE d e).map fun b => .bl (!b) else none
theorem fzL_of {k : Kd} {xs : List D} (h : isFz (.nd k xs) = true) : isFzL xs = true := by
  simp only [isFz, Bool.and_eq_true] at h
  exact h.2
theorem ok_eqK (hu : X.A.units + 65 < cLine) : Prim2 X (compareOp .Eq) gEqK := by
  intro F R H L x y dx dy r Q S m1 m2 e hQ
  unfold gEqK at e
  split at e
  · rename_i hz
    simp only [Bool.and_eq_true] at hz
    cases h : gKE dx dy with
    | none => rw [h] at e; cases e
    | some b =>
      rw [h] at e
      cases e
      obtain ⟨ks, ls, xs, ys, rfl, rfl, p1, p2, hl, he⟩ := gKE_of h
      obtain ⟨p, vs, rfl, c1, l1, l2, dv⟩ := dk_parts S m1 p1 (fzL_of hz.1)
      obtain ⟨q, ws, rfl, c2, l3, l4, dw⟩ := dk_parts S m2 p2 (fzL_of hz.2)
      refine ⟨fun x' y' H' Q' => x' = .ref p ∧ y' = .ref q ∧ H' = H ∧ Q' = Q, fun pins s σ H' x' y' v u Q' I rx ry hq => ?_, rfl, rfl, rfl, rfl⟩
      obtain ⟨rfl, rfl, rfl, rfl⟩ := hq
      cases rx
      cases ry
      obtain ⟨_, ya, va, ra, da⟩ := (show ObjOk X.prog X.w H' s.heap p (.dK (ks.zip vs)) from I.hok p _ c1)
      obtain ⟨_, yb, vb, rb, db⟩ := (show ObjOk X.prog X.w H' s.heap q (.dK (ls.zip ws)) from I.hok q _ c2)
      have hit := hits_of (A := X.A) I (by show X.A.units + 1 + 64 < cLine; omega) rb l3 l4 dw ra l1 l2 dv he
      refine PySem.W.keq_eq (knd := mixKind X.prog X.w) ya yb da db (by omega) (fun _ => hit) ?_
      have el : va.length = vb.length := by
        rw [← ra.length, ← rb.length, List.length_zip, List.length_zip]
        omega
      rw [show (va.length == vb.length && b) = b from by rw [el]; simp]
      exact ⟨.bl b, H', I, rfl, hQ _ F H' (Le.refl F) (S.add (leaf_rep rfl))⟩
  · cases e
theorem ok_neK (hu : X.A.units + 65 < cLine) : Prim2 X (compareOp .NotEq) gNeK := by
  intro F R H L x y dx dy r Q S m1 m2 e hQ
  unfold gNeK at e
  split at e
  · rename_i hz
    simp only [Bool.and_eq_true] at hz
    cases h : gKE dx dy with
    | none => rw [h] at e; cases e
    | some b =>
      rw [h] at e
      cases e
      obtain ⟨ks, ls, xs, ys, rfl, rfl, p1, p2, hl, he⟩ := gKE_of h
      obtain ⟨p, vs, rfl, c1, l1, l2, dv⟩ := dk_parts S m1 p1 (fzL_of hz.1)
      obtain ⟨q, ws, rfl, c2, l3, l4, dw⟩ := dk_parts S m2 p2 (fzL_of hz.2)
      refine ⟨fun x' y' H' Q' => x' = .ref p ∧ y' = .ref q ∧ H' = H ∧ Q' = Q, fun pins s σ H' x' y' v u Q' I rx ry hq => ?_, rfl, rfl, rfl, rfl⟩
      obtain ⟨rfl, rfl, rfl, rfl⟩ := hq
      cases rx
      cases ry
      obtain ⟨_, ya, va, ra, da⟩ := (show ObjOk X.prog X.w H' s.heap p (.dK (ks.zip vs)) from I.hok p _ c1)
      obtain ⟨_, yb, vb, rb, db⟩ := (show ObjOk X.prog X.w H' s.heap q (.dK (ls.zip ws)) from I.hok q _ c2)
      have hit := hits_of (A := X.A) I (by show X.A.units + 1 + 64 < cLine; omega) rb l3 l4 dw ra l1 l2 dv he
      refine PySem.W.keq_ne (knd := mixKind X.prog X.w) ya yb da db (by omega) (fun _ => hit) ?_
      have el : va.length = vb.length := by
        rw [← ra.length, ← rb.length, List.length_zip, List.length_zip]
        omega
      rw [show (va.length == vb.length && b) = b from by rw [el]; simp]
      exact ⟨.bl (!b), H', I, rfl, hQ _ F H' (Le.refl F) (S.add (leaf_rep rfl))⟩
  · cases e
end
end PI
set_option maxHeartbeats 3900000
namespace PI
open L2 PySem PyProof.Rows PySem.Spec
variable [Tb]
section
variable {X : Cx} {F F' H H' : Hp} {R : Rv} {σ : L2.St} {en en' : List D} {W : WX} {pins : List (Addr × Obj)} {s : Shared} {test : Expr} {els rest : List Stmt} {t : M Bool} {p1 p2 p3 : Pos}
/-- if not ..: return NotImplemented -/
theorem decl_body (I : Inv X pins σ H s) (hT : DT X test t) (tk : Takes X W) (S : SepE X F R H σ en []) (ht : t en = .ok true en') (hg : Gl X "NotImplemented") (hm : X.mg "NotImplemented" = none) :
    wpAny (model X.prog X.w) X.A (execs (.If test [.Return (some (.Name "NotImplemented" p1)) p2] els p3 :: rest) X.env) (fun fl s' => fl = .ret .notImplemented ∧ ∃ H' F', Inv X pins σ H' s' ∧ Le F F' ∧ SepE X F' R H' σ en' []) X.xe s := by
  have hw : wpO (t en) (PVt X F R σ fun b H' => b = true ∧ ∃ F', Le F F' ∧ SepE X F' R H' σ en' []) (PXc X W F R σ) := by
    rw [ht]
    exact fun H' F' le S' => ⟨rfl, F', le, S'⟩
  refine wpAny_execs_cons (wpAny_If (thn (hT.run W F R H σ en _ tk S hw pins s I) fun d s1 z => ?_))
  obtain ⟨H1, I1, rfl, F1, le, S1⟩ := z
  refine wpAny_execs_cons (wpAny_Return_some (ld_blt I1 hg hm rfl ?_))
  exact ⟨rfl, H1, F1, I1, le, S1⟩
end
section
variable {base : Heap} {K : PySem.W.Frag} {P : Program} {mg : Str → Option Value} {w : World}
/-- what such a def answers -/
structure DecF (P : Program) (w : World) (K : PySem.W.Frag) (mg : Str → Option Value) (base : Heap) (a : Addr) (k : Nat) (t : D → D → Prop) : Prop where
  run : ∀ (A : Around) (outer : List Env) (s : Shared) (H : Hp) (us : List Value) (x y : V) (dx dy : D) (F : Hp) (R : Rv) (Q : Hp → Prop), Room k A → Env0 P w K mg base A outer s H → Vals [x, y] us → Sep K mg F R H (kids [x, y] [dx, dy]) → t dx dy → (∀ F' H', Le F F' → Sep K mg F' R H' [] → Q H') →
    codeAny (model P w) A (.call (.ref a) ⟨us, []⟩) (fun r s' => match r with
      | .ok (.ret u) => u = .notImplemented ∧ CE outer P w H s (fun v H' => Q H') .none s'
      | _ => False) s
theorem decF_of {qual : Str} {params : Arguments} {scope : Scope} {a : Addr} {fd : FuncData} {N ps : List Str} {k : Nat} {test : Expr} {els rest : List Stmt} {t : M Bool} {p1 p2 p3 : Pos}
    (Fn : FunD K "__eq__" qual params (.If test [.Return (some (.Name "NotImplemented" p1)) p2] els p3 :: rest) scope [] [] a fd) (Sc : FnScope N ps scope) (hb : Binds K fd ps []) (hps : ps.length = 2) (hle : 2 ≤ N.length)
    (hT : ∀ (cdv : Value) (A : Around) (outer : List Env) (s : Shared) (H : Hp) (E : XK), Room k (A.deeper (envOfC qual scope s.heap.objs.size a cdv)) → DT (cxOf (L2.CX P w) P w K mg base N qual scope a cdv A outer s H E) test t)
    (hG : ∀ (cdv : Value) (A : Around) (outer : List Env) (s : Shared) (H : Hp) (E : XK), Gl (cxOf (L2.CX P w) P w K mg base N qual scope a cdv A outer s H E) "NotImplemented") (hm : mg "NotImplemented" = none) :
    DecF P w K mg base a (k + 1) (fun dx dy => ∃ en', t ([dx, dy] ++ List.replicate (N.length - 2) .un) = .ok true en') := by
  refine ⟨fun A outer s H us x y dx dy F R Q hr e0 r S ht hQ => ?_⟩
  obtain ⟨oc, od, dV, kV, doc, pm, an, cdv, ct, osl, rfl, lk, hcd, hD, hK⟩ := Fn.ex
  (have KX : K.In s.heap := e0.mod.kin.keeps fun b o e => (e0.bs b o e).1)
  (have lim : s.heap.NoLimit := e0.mod.nolimit.keeps fun b o e => (e0.bs b o e).1)
  have hl : us.length = ps.length := by rw [← r.length, hps]; rfl
  have hb2 := hb s us KX (by rw [List.append_nil]; exact hl)
  rw [List.append_nil] at hb2
  have hkind : (∀ y ∈ ps.zip us, scope.names.lookup y.1 = some .local ∨ (scope.names.lookup y.1 = some .cell ∧ ((cellsFrom (s.heap.objs.size + 1) scope.names []).lookup y.1).isSome = true)) := fun ⟨n, v⟩ hy => by
    rcases Sc.par n (List.of_mem_zip hy).1 with q | q
    · exact .inl q
    · (exact .inr ⟨q, PySem.W.cellsFrom_some _ _ _ (.inl q)⟩)
  refine codeAny_call_function hr.depth (KX _ _ lk) rfl Sc.co Sc.gen rfl (PySem.W.codeRec_of KX hcd) (hb2 _ _ _ _ ?_)
  refine wpAny_newFunctionEnv_cells Sc.kind hkind fun env he s1 z => ?_
  subst he
  refine ⟨lim.keeps z.toInCall.keep, codeAny_func ?_⟩
  have I : Inv (cxOf (L2.CX P w) P w K mg base N qual scope a cdv A outer s H (fun _ _ _ => False)) [] (L2.start N [x, y]) H s1 := inv_start Sc hr.hd e0 (by rw [hps]; rfl) r z
  have T0 := hT cdv A outer s H (fun _ _ _ => False) (hr.deeper _)
  have G0 := hG cdv A outer s H (fun _ _ _ => False)
  have xe0 : ∀ e s', (cxOf (L2.CX P w) P w K mg base N qual scope a cdv A outer s H (fun _ _ _ => False)).xe e s' → wpAny (model P w) (A.deeper (envOfC qual scope s.heap.objs.size a cdv)) (leaving (envOfC qual scope s.heap.objs.size a cdv) e) (fun _ s'' => False) (fun _ s'' => False) s' := fun e s' h => wpAny_mono h (fun _ _ k => (cx_false k).elim) fun _ _ k => (cx_false k).elim
  have tk : Takes (cxOf (L2.CX P w) P w K mg base N qual scope a cdv A outer s H (fun _ _ _ => False)) (fun cls d _ H => False) := takes_of (E := fun _ _ _ => False) rfl rfl rfl rfl
  have S0 : SepE (cxOf (L2.CX P w) P w K mg base N qual scope a cdv A outer s H (fun _ _ _ => False)) F R H (L2.start N [x, y]) ([dx, dy] ++ List.replicate (N.length - 2) .un) [] := by
    have e1 : L2.start N [x, y] = [x, y].map some ++ List.replicate (N.length - 2) none := rfl
    refine ⟨by rw [e1]; simp, ?_⟩
    show Sep K mg F R H _
    rw [e1, List.nil_append, List.zip_append (by simp)]
    obtain ⟨A', f, nn, q⟩ := S.fo
    exact ⟨S.fh, S.rh, S.rf, S.nf, S.nr, S.tb, A', by have := f.app (fo_un (K := K) (mg := mg) (F := F) (H := H) (List.replicate (N.length - 2) none) (N.length - 2)); rwa [List.append_nil] at this, nn, q⟩
  obtain ⟨en', ht⟩ := ht
  have key := decl_body (rest := rest) (els := els) (p1 := p1) (p2 := p2) (p3 := p3) I T0 tk S0 ht G0 hm
  refine wpAny_mono key (fun fl s' z => ?_) fun e s' z => ?_
  · obtain ⟨rfl, H', F', J, le, S'⟩ := z
    refine ⟨rfl, .non, H', J.os, J.bare, J.base, J.hok, rfl, ?_⟩
    exact hQ F' H' le (Sep.drop (L1 := [] ++ (L2.start N [x, y]).zip en') (by rw [List.append_nil]; exact S'.sep))
  · exact wpAny_mono (xe0 e s' z) (fun _ _ k => k.elim) fun _ _ k => k.elim
end
end PI
set_option maxHeartbeats 3900000
namespace PI
open L2 PySem PyProof.Rows PySem.Spec PySem.W
section
variable {prog : Program} {w : World} {A : Around} {E : Value → Shared → Prop} {s : Shared} {K : PySem.W.Frag} {x y C C' L f f' : Addr} {h₀ : Heap} {m : Str → Option Value} {ox oy : Obj} {od : Option Obj} {tb : Value}
theorem cmp_both {Q : Value → Shared → Prop} (hu : A.units < cLine) (F : Fr h₀ L s.heap m) (X₀ : K.In h₀) (I : InstAt s.heap x ox C od) (hb : Looks (model prog w) s.heap (typeOf (.ref y)) tb) (hn : notFirst K C tb = true) (hxy : x ≠ y)
    (hs : findIn K (.ref C) "__eq__" = some (some (.ref f))) (hf : isFn K (.ref f) = true)
    (h : wpAny (model prog w) A (call (.ref f) [.ref x, .ref y]) (fun v s1 => v = .notImplemented ∧ wpAny (model prog w) A (tryCompare (.ref y) "__eq__" (.ref x)) (fun r s2 => r = none ∧ (∃ ox oy, s2.heap.get? x = some ox ∧ s2.heap.get? y = some oy ∧ ox.cls ≠ .type "tuple") ∧ Q (.bool false) s2) E s1) E s) :
    wpAny (model prog w) A (richCompare .Eq (.ref x) (.ref y)) Q E s := by
  have X := X₀.keeps F.keep
  have one : wpAny (model prog w) A (tryCompare (.ref x) "__eq__" (.ref y)) (fun r s1 => r = none ∧ wpAny (model prog w) A (tryCompare (.ref y) "__eq__" (.ref x)) (fun r s2 => r = none ∧ (∃ ox oy, s2.heap.get? x = some ox ∧ s2.heap.get? y = some oy ∧ ox.cls ≠ .type "tuple") ∧ Q (.bool false) s2) E s1) E s := by
    unfold tryCompare
    (refine wpAny_bind (ifBound_K X I hs hf (wpAny_mono h (fun v s' hv => ?_) fun _ _ e => e)))
    obtain ⟨rfl, hv⟩ := hv
    exact wpAny_pure ⟨rfl, hv⟩
  have rest : ∀ s1, wpAny (model prog w) A (tryCompare (.ref y) "__eq__" (.ref x)) (fun r s2 => r = none ∧ (∃ ox oy, s2.heap.get? x = some ox ∧ s2.heap.get? y = some oy ∧ ox.cls ≠ .type "tuple") ∧ Q (.bool false) s2) E s1 →
      wpAny (model prog w) A (tryCompare (.ref y) "__eq__" (.ref x)) (fun r s2 => r = none ∧ wpAny (model prog w) A (isSame (.ref x) (.ref y)) (fun b s3 => Q (.bool b) s3) E s2) E s1 := fun s1 h1 => wpAny_mono h1 (fun r s2 z => by
    obtain ⟨rfl, ⟨ox, oy, h1, h2, h3⟩, q⟩ := z
    exact ⟨rfl, wpAny_isSame_ref_other hxy h1 h2 h3 q⟩) fun _ _ e => e
  have tail : ∀ s1, wpAny (model prog w) A (tryCompare (.ref y) "__eq__" (.ref x)) (fun r s2 => r = none ∧ (∃ ox oy, s2.heap.get? x = some ox ∧ s2.heap.get? y = some oy ∧ ox.cls ≠ .type "tuple") ∧ Q (.bool false) s2) E s1 →
      wpAny (model prog w) A (tryCompare (.ref y) "__eq__" (.ref x)) (fun r s2 => r = none ∧ wpAny (model prog w) A (isSame (.ref x) (.ref y)) (fun b s3 => Q (.bool b) s3) E s2) E s1 := rest
  unfold richCompare
  simp only [oneThing_ref]
  (refine wpAny_holding (wpAny_bind (wpAny_cRoomFor hu ?_)))
  (refine wpAny_bind (I.type.here (wpAny_bind (hb.here ?_))))
  split
  · rename_i q
    have e : (subIn K tb (.ref C) = some false) := by
      (rcases Bool.or_eq_true_iff.mp hn with e | e)
      · (rw [beq_iff_eq.mp e] at q; simp at q)
      · exact beq_iff_eq.mp e
    (refine wpAny_bind ((looks_subIn X e).here ?_))
    (simp only [Bool.false_eq_true, if_false])
    refine wpAny_bind (wpAny_mono one (fun r s1 z => ?_) fun _ _ e => e)
    obtain ⟨rfl, z⟩ := z
    (simp only [Bool.not_false, if_true])
    refine wpAny_bind (wpAny_mono (tail s1 z) (fun r s2 z => ?_) fun _ _ e => e)
    obtain ⟨rfl, z⟩ := z
    exact wpAny_bind (wpAny_rule (wpAny_bind (wpAny_mono z (fun b s3 q => wpAny_pure q) fun _ _ e => e)))
  · (refine wpAny_bind (wpAny_pure ?_))
    (simp only [Bool.false_eq_true, if_false])
    refine wpAny_bind (wpAny_mono one (fun r s1 z => ?_) fun _ _ e => e)
    obtain ⟨rfl, z⟩ := z
    (simp only [Bool.not_false, if_true])
    refine wpAny_bind (wpAny_mono (tail s1 z) (fun r s2 z => ?_) fun _ _ e => e)
    obtain ⟨rfl, z⟩ := z
    exact wpAny_bind (wpAny_rule (wpAny_bind (wpAny_mono z (fun b s3 q => wpAny_pure q) fun _ _ e => e)))
/-- a dict, asked whether it is equal to an instance -/
theorem try_dict {Q : Option Value → Shared → Prop} (X : K.In s.heap) (I : InstAt s.heap x ox C od) (dT : s.TypeIs (.ref y) "dict") (hn : subIn K (.ref C) (.type "dict") = some false) (h : Q none s) : wpAny (model prog w) A (tryCompare (.ref y) "__eq__" (.ref x)) Q E s := by
  refine wpAny_tryCompare_declines dT PySem.F.slot_dict_eq (wpAny_call_entry PySem.F.slot_dict_eq dT PySem.F.entry_dict_eq ?_ (PySem.F.args_dict_eq_2 _ _))
  show wpAny _ _ (Builtin.Dict.dictSlotArgs "__eq__" ⟨[.ref y, .ref x], []⟩ >>= _) _ _ s
  refine wpAny_bind ?_
  (unfold Builtin.Dict.dictSlotArgs)
  refine wpAny_bind (wpAny_notOrdered_dict dT ?_)
  show wpAny _ _ (pure (Value.ref y, Value.ref x)) _ _ s
  refine wpAny_pure ?_
  unfold isInstance
  refine wpAny_bind (wpAny_bind (I.type.here ((looks_subIn X hn).here ?_)))
  (simp only [Bool.not_false, if_true])
  (refine wpAny_bind (wpAny_rule ?_))
  (refine wpAny_bind (wpAny_pure ?_))
  exact wpAny_pure ⟨_, rfl, rfl, h⟩
theorem try_own {Q : Option Value → Shared → Prop} (X : K.In s.heap) (I : InstAt s.heap y oy C' od) (hs : findIn K (.ref C') "__eq__" = some (some (.ref f'))) (hf : isFn K (.ref f') = true)
    (h : wpAny (model prog w) A (call (.ref f') [.ref y, .ref x]) (fun v s' => v = .notImplemented ∧ Q none s') E s) : wpAny (model prog w) A (tryCompare (.ref y) "__eq__" (.ref x)) Q E s := by
  unfold tryCompare
  (refine wpAny_bind (ifBound_K X I hs hf (wpAny_mono h (fun v s' hv => ?_) fun _ _ e => e)))
  obtain ⟨rfl, hv⟩ := hv
  exact wpAny_pure hv
end
end PI
set_option maxHeartbeats 3900000
namespace PI
open L2 PySem PyProof.Rows PySem.Spec
variable [Tb]
def isF : Option D → Bool
  | some (.bl false) => true
  | _ => false
structure DecC (X : Cx) (k : Nat) (isA : D → D → Option D) (dc : List Str) (c : Str) : Prop where
  ex : ∃ C a, X.mg c = some (.ref C) ∧ PySem.W.findIn X.K (.ref C) "__eq__" = some (some (.ref a)) ∧ PySem.W.isFn X.K (.ref a) = true ∧ DecF X.prog X.w X.K X.mg X.base a k (fun dx dy => isUn dy = false ∧ isF (isA dy (.fn c)) = true) ∧
    PySem.W.notFirst X.K C (.type "dict") = true ∧ PySem.W.subIn X.K (.ref C) (.type "dict") = some false ∧ ∀ c' ∈ dc, c' ≠ c → ∀ C', X.mg c' = some (.ref C') → PySem.W.notFirst X.K C (.ref C') = true ∧ C' ≠ C
section
variable {X : Cx} {F F' H H' : Hp} {R : Rv} {σ : L2.St} {L : List (Option V × D)} {k : Nat} {isA : D → D → Option D} {dc : List Str} {pins : List (Addr × Obj)}
theorem call_dec {A : Around} (sb : Sub X k A) {s : Shared} {a p q : Addr} {t : D → D → Prop} {d e : D} (G : DecF X.prog X.w X.K X.mg X.base a k t) (I : Inv X pins σ H s) (S : Sep X.K X.mg F R H L) (rd : Rep X.K X.mg F (.ref p) d) (re : Rep X.K X.mg F (.ref q) e) (ht : t d e) :
    wpAny (model X.prog X.w) A (call (.ref a) [.ref p, .ref q]) (fun z s' => z = .notImplemented ∧ Aft X pins σ F R L s') X.xe s := by
  obtain ⟨R', S2, back⟩ := Sep.lend (L1 := kids [V.ref p, V.ref q] [d, e]) (L2 := L) (S.adds (Reps.cons rd (Reps.cons re Reps.nil)))
  have e0 : (Env0 X.prog X.w X.K X.mg X.base A X.stack s H) := by
    have z := I.env0
    exact ⟨(by rw [sb.fr]; exact z.frames), z.mod, z.bs, z.bsz, z.funs, z.frf, z.hok, z.bare⟩
  refine wpAny_call (codeAny_mono (G.run A X.stack s H [.ref p, .ref q] (.ref p) (.ref q) d e F R' (fun H' => ∃ F', Le F F' ∧ Sep X.K X.mg F' R H' L) sb.room e0 (.cons rfl (.cons rfl .nil)) S2 ht fun F' H' le S3 => ⟨F', le, back F' H' [] le S3⟩) fun r s' hq => ?_)
  cases r with
  | error e => exact hq.elim
  | ok fl =>
    cases fl with
    | ret w =>
      obtain ⟨rfl, hq⟩ := hq
      obtain ⟨z, H', I', rz, F', le, S'⟩ := I.after hq
      exact ⟨rfl, F', H', I', le, S'⟩
    | next => exact False.elim hq
    | brk => exact False.elim hq
    | cont => exact False.elim hq
theorem rc_decD {c : Str} (ec : DecC X k isA dc c) {A : Around} (sb : Sub X k A) {s : Shared} {p q : Addr} {ns : List Str} {ks : List Key} {xs ys : List D} (I : Inv X pins σ H s) (S : Sep X.K X.mg F R H L) (rd : Rep X.K X.mg F (.ref p) (.nd (.ob false c ns) xs)) (re : Rep X.K X.mg F (.ref q) (.nd (.dk false ks) ys))
    (hi : isF (isA (.nd (.dk false ks) ys) (.fn c)) = true) : wpAny (model X.prog X.w) A (richCompare .Eq (.ref p) (.ref q)) (fun z s' => z = .bool false ∧ Aft X pins σ F R L s') X.xe s := by
  obtain ⟨C, a, hC, hs, hfn, G, hn, hd, _⟩ := ec.ex
  obtain ⟨p', vs, z, ⟨C1, d1, m1, c1, _⟩, _⟩ := rd.node
  cases z
  obtain ⟨q', ws, z, ⟨c2, _⟩, _⟩ := re.node
  cases z
  rw [hC] at m1
  cases m1
  have hpq : p ≠ q := fun z => by
    subst z
    have c1' : F p = some (.ins C d1 _) := c1
    have c2' : F p = some (.dK _) := c2
    rw [c1'] at c2'
    cases c2'
  have at2 : ∀ {s : Shared} {σ : L2.St} {H F : Hp} {R : Rv} {L}, Inv X pins σ H s → Sep X.K X.mg F R H L → F q = some (.dK (ks.zip ws)) → s.TypeIs (.ref q) "dict" := fun {s σ H F R L} I S h => by
    obtain ⟨_, _, _, _, da⟩ := (show ObjOk X.prog X.w H s.heap q (.dK (ks.zip ws)) from I.hok q _ (S.fh q _ h))
    exact da.typeIs
  obtain ⟨mA, J, _⟩ := ins_get I.hok (S.fh p _ c1)
  obtain ⟨od, J, _⟩ := J.look
  obtain ⟨m, hF⟩ := I.fr
  obtain ⟨oq, hoq, hcq⟩ := at2 I S c2
  have lk : PySem.W.Looks (model X.prog X.w) s.heap (typeOf (.ref q)) (.type "dict") := hcq ▸ (PySem.W.Looks.ld hoq).andThen .now
  refine cmp_both sb.room.units0 hF I.ok.mod.kin J lk hn hpq hs hfn ?_
  refine wpAny_mono (call_dec sb G I S rd re ⟨rfl, hi⟩) (fun z s1 h => ?_) fun _ _ z => z
  obtain ⟨rfl, F1, H1, I1, le, S1⟩ := h
  obtain ⟨mA1, J1, _⟩ := ins_get I1.hok (S1.fh p _ (le _ _ c1))
  obtain ⟨od1, J1, _⟩ := J1.look
  have T1 := at2 I1 S1 (le _ _ c2)
  refine ⟨rfl, try_dict I1.kIn J1 T1 hd ⟨rfl, ?_, rfl, F1, H1, I1, le, S1⟩⟩
  obtain ⟨oq1, hoq1, _⟩ := T1
  exact ⟨_, oq1, J1.at_, hoq1, fun z => by rw [J1.cls] at z; cases z⟩
theorem rc_decO {c c' : Str} (ec : DecC X k isA dc c) (ec' : DecC X k isA dc c') (hc' : c' ∈ dc) (hne : c' ≠ c) {A : Around} (sb : Sub X k A) {s : Shared} {p q : Addr} {ns ms : List Str} {xs ys : List D} (I : Inv X pins σ H s) (S : Sep X.K X.mg F R H L) (rd : Rep X.K X.mg F (.ref p) (.nd (.ob false c ns) xs)) (re : Rep X.K X.mg F (.ref q) (.nd (.ob false c' ms) ys))
    (hi : isF (isA (.nd (.ob false c' ms) ys) (.fn c)) = true) (hi' : isF (isA (.nd (.ob false c ns) xs) (.fn c')) = true) : wpAny (model X.prog X.w) A (richCompare .Eq (.ref p) (.ref q)) (fun z s' => z = .bool false ∧ Aft X pins σ F R L s') X.xe s := by
  obtain ⟨C, a, hC, hs, hfn, G, _, _, hn⟩ := ec.ex
  obtain ⟨C', a', hC', hs', hfn', G', _, _, _⟩ := ec'.ex
  obtain ⟨n1, n2⟩ := hn c' hc' hne C' hC'
  obtain ⟨p', vs, z, ⟨C1, d1, m1, c1, _⟩, _⟩ := rd.node
  cases z
  obtain ⟨q', ws, z, ⟨C2, d2, m2, c2, _⟩, _⟩ := re.node
  cases z
  rw [hC] at m1
  cases m1
  rw [hC'] at m2
  cases m2
  have hpq : p ≠ q := fun z => by
    subst z
    have c1' : F p = some (.ins C d1 _) := c1
    have c2' : F p = some (.ins C' d2 _) := c2
    have z := c1'.symm.trans c2'
    injection z with z
    injection z with z1 z2 z3
    exact n2 z1.symm
  obtain ⟨mA, J, _⟩ := ins_get I.hok (S.fh p _ c1)
  obtain ⟨mB, J', _⟩ := ins_get I.hok (S.fh q _ c2)
  obtain ⟨od, J, _⟩ := J.look
  have ⟨od', J', _⟩ := J'.look
  obtain ⟨m, hF⟩ := I.fr
  refine cmp_both sb.room.units0 hF I.ok.mod.kin J J'.type n1 hpq hs hfn ?_
  refine wpAny_mono (call_dec sb G I S rd re ⟨rfl, hi⟩) (fun z s1 h => ?_) fun _ _ z => z
  obtain ⟨rfl, F1, H1, I1, le, S1⟩ := h
  obtain ⟨mB1, K1, _⟩ := ins_get I1.hok (S1.fh q _ (le _ _ c2))
  obtain ⟨odB, K1, _⟩ := K1.look
  refine ⟨rfl, try_own I1.kIn K1 hs' hfn' ?_⟩
  refine wpAny_mono (call_dec sb G' I1 S1 (re.le le) (rd.le le) ⟨rfl, hi'⟩) (fun z s2 h => ?_) fun _ _ z => z
  obtain ⟨rfl, F2, H2, I2, le2, S2⟩ := h
  obtain ⟨mA2, J2, _⟩ := ins_get I2.hok (S2.fh p _ (le2 _ _ (le _ _ c1)))
  obtain ⟨odA, J2, _⟩ := J2.look
  obtain ⟨mB2, K2, _⟩ := ins_get I2.hok (S2.fh q _ (le2 _ _ (le _ _ c2)))
  obtain ⟨odB2, K2, _⟩ := K2.look
  exact ⟨rfl, rfl, ⟨_, _, J2.at_, K2.at_, fun z => by rw [J2.cls] at z; cases z⟩, rfl, F2, H2, I2, le.trans le2, S2⟩
def gDec (isA : D → D → Option D) (dc : List Str) (d e : D) : Option D := match d, e with
  | .nd (.ob false c ns) xs, .nd (.dk false ks) ys => if isFz d && isFz e && dc.contains c && isF (isA (.nd (.dk false ks) ys) (.fn c)) then some (.bl false) else none
  | .nd (.ob false c ns) xs, .nd (.ob false c' ms) ys => if isFz d && isFz e && dc.contains c && dc.contains c' && decide (c' ≠ c) && isF (isA (.nd (.ob false c' ms) ys) (.fn c)) && isF (isA (.nd (.ob false c ns) xs) (.fn c')) then some (.bl false) else none
  | _, _ => none
theorem ok_dec (hc : ∀ c ∈ dc, DecC X k isA dc c) (hr : Room k X.A) : Prim2 X (compareOp .Eq) (gDec isA dc) := by
  intro F R H L x y dx dy r Q S m1 m2 e hQ
  have sb : Sub X k X.A := ⟨hr, rfl⟩
  have go : ∀ (p q : Addr), x = .ref p → y = .ref q → r = .bl false → (∀ pins s σ, Inv X pins σ H s → wpAny (model X.prog X.w) X.A (richCompare .Eq (.ref p) (.ref q)) (fun z s' => z = .bool false ∧ Aft X pins σ F R L s') X.xe s) → ∃ rr, OpR X (compareOp .Eq) rr ∧ rr x y H Q := fun p q ex ey er h => by
    subst ex ey er
    refine ⟨fun x' y' H' Q' => x' = .ref p ∧ y' = .ref q ∧ H' = H ∧ Q' = Q, fun pins s σ H' x' y' v u Q' I rx ry hq => ?_, rfl, rfl, rfl, rfl⟩
    obtain ⟨rfl, rfl, rfl, rfl⟩ := hq
    cases rx
    cases ry
    refine wpAny_mono (h pins s σ I) (fun z s' k => ?_) fun _ _ z => z
    obtain ⟨rfl, F2, H2, I2, le, S2⟩ := k
    exact ⟨.bl false, H2, I2, rfl, hQ _ F2 H2 le (S2.add (leaf_rep rfl))⟩
  unfold gDec at e
  split at e
  · rename_i c ns xs ks ys
    split at e
    · rename_i hz
      simp only [Bool.and_eq_true, List.contains_iff_mem] at hz
      obtain ⟨⟨⟨z1, z2⟩, z3⟩, z4⟩ := hz
      cases e
      have rd := S.rep_mem m1 z1
      have re := S.rep_mem m2 z2
      obtain ⟨p, vs, rfl, _, _⟩ := rd.node
      obtain ⟨q, ws, rfl, _, _⟩ := re.node
      exact go p q rfl rfl rfl fun pins s σ I => rc_decD (hc c z3) sb I S rd re z4
    · cases e
  · rename_i c ns xs c' ms ys
    split at e
    · rename_i hz
      simp only [Bool.and_eq_true, List.contains_iff_mem, decide_eq_true_eq] at hz
      obtain ⟨⟨⟨⟨⟨⟨z1, z2⟩, z3⟩, z4⟩, z5⟩, z6⟩, z7⟩ := hz
      cases e
      have rd := S.rep_mem m1 z1
      have re := S.rep_mem m2 z2
      obtain ⟨p, vs, rfl, _, _⟩ := rd.node
      obtain ⟨q, ws, rfl, _, _⟩ := re.node
      exact go p q rfl rfl rfl fun pins s σ I => rc_decO (hc c z3) (hc c' z4) z4 z5 sb I S rd re z6 z7
    · cases e
  · cases e
/-- one operator of several -/
theorem prim_or {f : Value → Value → Sem Value} {g h : D → D → Option D} (h1 : Prim2 X f g) (h2 : Prim2 X f h) : Prim2 X f (fun d e => (g d e).or (h d e)) := by
  intro F R H L x y dx dy r Q S m1 m2 e hQ
  replace e : (g dx dy).or (h dx dy) = some r := e
  cases eg : g dx dy with
  | some r1 =>
    rw [eg] at e
    cases e
    exact h1 F R H L x y dx dy r Q S m1 m2 eg hQ
  | none =>
    rw [eg] at e
    exact h2 F R H L x y dx dy r Q S m1 m2 e hQ
end
/-- the test of such a def -/
theorem dec_test {g : D → D → Option D} {c : Str} {dx dy : D} {n : Nat} (hu : isUn dy = false) (h : isF (g dy (.fn c)) = true) : ∃ en', (dNot (dTru (dPrim (g2 g) (dCons (dName 1) (dCons (dC (.fn c)) dNil))))) ([dx, dy] ++ List.replicate n .un) = .ok true en' := by
  have e : g dy (.fn c) = some (.bl false) := by
    cases hg : g dy (.fn c) with
    | none => rw [hg] at h; cases h
    | some r =>
      rw [hg] at h
      cases r with
      | bl b => cases b <;> first | rfl | cases h
      | _ => cases h
  refine ⟨[dx, dy] ++ List.replicate n .un, ?_⟩
  have e1 : dName 1 ([dx, dy] ++ List.replicate n .un) = .ok (.s 1) ([dx, dy] ++ List.replicate n .un) := by
    unfold dName
    show (match dy with | .un => _ | _ => _) = _
    cases dy <;> first | rfl | cases hu
  have e2 : ([dx, dy] ++ List.replicate n D.un).getD 1 D.un = dy := rfl
  simp only [dNot, dTru, dPrim, dCons, dC, dNil, rt, O.bd, bd, e1, List.map_cons, List.map_nil, res, g2, e2, e, Option.map_some, ofO, gTru, Bool.not_false]
end PI
set_option maxHeartbeats 3900000
namespace PI
open L2 PySem PyProof.Rows PySem.Spec
variable [Tb]
def gEqX (isA : D → D → Option D) (cs : List (Str × (List D → OF))) (dc : List Str) (d e : D) : Option D := (gEqQ cs d e).or ((gEqK d e).or (gDec isA dc d e))
def gNeX (cs : List (Str × (List D → OF))) (d e : D) : Option D := (gNeQ cs d e).or (gNeK d e)
section
variable {X : Cx} {isA : D → D → Option D} {cs : List (Str × (List D → OF))} {dc : List Str} {kc k : Nat}
theorem ok_eqX (hu : X.A.units + 65 < cLine) (hc : ∀ c f, cs.lookup c = some f → EqC X kc c f) (hr : Room (21 + kc) X.A) (hd : ∀ c ∈ dc, DecC X 2 isA dc c) : Prim2 X (compareOp .Eq) (gEqX isA cs dc) :=
  prim_or (ok_eqQ (by omega) hc hr) (prim_or (ok_eqK hu) (ok_dec hd (hr.mono (by omega))))
theorem ok_neX (hu : X.A.units + 65 < cLine) (hc : ∀ c f, cs.lookup c = some f → EqC X kc c f) (hn : ∀ c f, cs.lookup c = some f → NeC X kc c f) (hr : Room (21 + kc) X.A) : Prim2 X (compareOp .NotEq) (gNeX cs) :=
  prim_or (ok_neQ (by omega) hc hn hr) (ok_neK hu)
end
def dcB (K : PySem.W.Frag) (c : Str) (cs : List Str) : Bool := PySem.W.notFirst K (gA K c) (.type "dict") && (decide (PySem.W.subIn K (.ref (gA K c)) (.type "dict") = some false) && cs.all fun c' => decide (c' = c) || (PySem.W.notFirst K (gA K c) (.ref (gA K c')) && decide (gA K c' ≠ gA K c)))
structure DcFact (K : PySem.W.Frag) (mg : Str → Option Value) (dc : List Str) (c : Str) : Prop where
  ex : ∃ C, mg c = some (.ref C) ∧ PySem.W.notFirst K C (.type "dict") = true ∧ PySem.W.subIn K (.ref C) (.type "dict") = some false ∧ ∀ c' ∈ dc, c' ≠ c → ∀ C', mg c' = some (.ref C') → PySem.W.notFirst K C (.ref C') = true ∧ C' ≠ C
theorem dcFact_of {K : PySem.W.Frag} {mg : Str → Option Value} {dc : List Str} {c : Str} (hm : mg c = some (.ref (gA K c))) (h : dcB K c dc = true) (hall : ∀ c' ∈ dc, mg c' = some (.ref (gA K c'))) : DcFact K mg dc c := by
  obtain ⟨h1, h2⟩ := an2 h
  obtain ⟨h2, h3⟩ := an2 h2
  refine ⟨_, hm, h1, of_decide_eq_true h2, fun c' hc hne C' hC => ?_⟩
  rw [hall c' hc] at hC
  cases hC
  have z := List.all_eq_true.mp h3 c' hc
  rw [Bool.or_eq_true] at z
  rcases z with z | z
  · exact (hne (of_decide_eq_true z)).elim
  · obtain ⟨z1, z2⟩ := an2 z
    exact ⟨z1, of_decide_eq_true z2⟩
theorem decC_mk {X : Cx} {isA : D → D → Option D} {dc : List Str} {c : Str} {a : Addr} {k : Nat} (e : EqFact X.K X.mg c a) (d : DcFact X.K X.mg dc c) (G : DecF X.prog X.w X.K X.mg X.base a k (fun dx dy => isUn dy = false ∧ isF (isA dy (.fn c)) = true)) : DecC X k isA dc c := by
  obtain ⟨C, h1, h2, h3⟩ := e.ex
  obtain ⟨C', g1, g2, g3, g4⟩ := d.ex
  rw [h1] at g1
  cases g1
  exact ⟨C, a, h1, h2, h3, G, g2, g3, g4⟩
theorem decs_nil {X : Cx} {k : Nat} {isA : D → D → Option D} {dc : List Str} : ∀ c ∈ ([] : List Str), DecC X k isA dc c := fun _ h => nomatch h
theorem decs_cons {X : Cx} {k : Nat} {isA : D → D → Option D} {dc : List Str} {c : Str} {cs : List Str} (h : DecC X k isA dc c) (r : ∀ c ∈ cs, DecC X k isA dc c) : ∀ c' ∈ c :: cs, DecC X k isA dc c' := fun c' hc => by
  (rcases List.mem_cons.mp hc with rfl | hc)
  · exact h
  · exact r c' hc
end PI
set_option maxHeartbeats 3900000
namespace PI
open L2 PySem PyProof.Rows PySem.Spec
variable [Tb]
section
variable {X : Cx} {pos : Pos}
theorem do_opc {op : Operator} {g : D → D → Option D} {a b : Expr} {fa fb : M Op} (hg : Prim2 X (binaryOp op) g) (h1 : DO X a fa) (h2 : DO X b fb) : DO X (.BinOp a op b pos) (dCmpc g fa fb) := by
  refine ⟨fun W F R H σ en Q tk S h => ?_⟩
  have key := cmpc_key hg h1 h2 tk S h
  intro pins s I
  exact wpAny_BinOp (bin (uE.pe X a) (uE.pe X b) I key fun v u s2 x y H2 I2 rx ry q => by
    obtain ⟨rr, ho, q⟩ := q
    exact ho pins s2 σ H2 x y v u Q I2 rx ry q)
/-- a name is given a value -/
theorem ug_name {i : Nat} {x : Str} {σ : L2.St} {H : Hp} {v : V} {Q : L2.St → Hp → Prop} (hN : X.N.Nodup) (hi : X.N[i]? = some x) (hx : Loc X.env.scope x) (hf : X.fn x = true ∨ X.env.scope.names.lookup x = some .local) (h : Q (σ.set i (some v)) H) : uG X σ H (.Name x pos) v Q := by
  intro pins s u I r
  (exact wpAny_assign_Name (store_ok I hN hi hx r (fun s' I' => ⟨_, H, I', h⟩) hf))
/-- a, b = e, f by a tuple; what is made may be owned -/
theorem ds_parC {i j : Nat} {pr : List Nat} {nx ny : Str} {a b : Expr} {fa : M (List Op)} {px py pt : Pos} {kt k2 : Nat} {pt2 : Pos} (ha : DOs X [a, b] fa) (hp : i ∉ pr ∧ j ∉ pr := by decide) (hc : X.calm = true := by rfl) (hN : X.N.Nodup := by exact FnScope.nd (by assumption)) (hi : X.N[i]? = some nx := by rfl) (hj : X.N[j]? = some ny := by rfl)
    (hx : Loc X.env.scope nx := by first | exact Or.inl rfl | exact Or.inr rfl) (hy : Loc X.env.scope ny := by first | exact Or.inl rfl | exact Or.inr rfl)
    (hfx : X.fn nx = true ∨ X.env.scope.names.lookup nx = some .local := by first | exact .inl rfl | exact .inr rfl | assumption) (hfy : X.fn ny = true ∨ X.env.scope.names.lookup ny = some .local := by first | exact .inl rfl | exact .inr rfl | assumption)
    (hw : swappedStores [.Tuple [.Name nx px, .Name ny py] kt pt] (.Tuple [a, b] k2 pt2) X.env = pure none := by rfl)
    (hs : swapsWithSole [.Tuple [.Name nx px, .Name ny py] kt pt] (.Tuple [a, b] k2 pt2) pos.line X.env = pure false := by rfl)
    (hz : (assignEach [.Tuple [.Name nx px, .Name ny py] kt pt] X.env).map (·.2) = [assign (.Tuple [.Name nx px, .Name ny py] kt pt) X.env] := by rfl)
    (hn : (assignEach [.Name nx px, .Name ny py] X.env).length = 2 := by rfl) (hst : (assignEach [.Name nx px, .Name ny py] X.env).findIdx? (·.1) = none := by rfl)
    (h1 : (assignEach [.Name nx px, .Name ny py] X.env).map (·.2) = assign (.Name nx px) X.env :: (assignEach [.Name ny py] X.env).map (·.2) := by rfl) (h2 : (assignEach [.Name ny py] X.env).map (·.2) = assign (.Name ny py) X.env :: (assignEach [] X.env).map (·.2) := by rfl) :
    DS X pr (.Assign [.Tuple [.Name nx px, .Name ny py] kt pt] (.Tuple [a, b] k2 pt2) pos) (sPar [i, j] fa) := by
  refine ⟨fun W F R H σ en De tk S h => uS.of (ps_asg (uE.pe X (.Tuple [a, b] k2 pt2)) (uG.pg X (.Tuple [.Name nx px, .Name ny py] kt pt)) hs hw hz) ?_⟩
  refine uE.of (pe_tup (uA.pa X [a, b])) ?_
  unfold sPar at h
  refine manyS ha tk S h fun vs os en2 F2 H2 hl le S2 h => ?_
  obtain ⟨F3, le3, S3, hl3⟩ := escs_ok (T := []) S2.1 (by rw [List.append_nil]; exact S2.2)
  have hlv : vs.length = 2 := by rw [S2.1.len, hl]; rfl
  refine ⟨by rw [hlv]; decide, fun p hp0 => ?_⟩
  revert h S3 hl3
  generalize (escs os en2).1 = ds
  generalize (escs os en2).2 = en3
  intro h S3 hl3
  match vs, hlv, ds, hl3, S3, h with
  | [v, w], _, [d, e], _, S3, h =>
    intro pins s u I r
    have li : i < σ.length := by rw [I.len]; exact (List.getElem?_eq_some_iff.mp hi).1
    have lj : j < σ.length := by rw [I.len]; exact (List.getElem?_eq_some_iff.mp hj).1
    have S4 : SepE X F3 R (upd H2 p (.tup [v, w])) σ en3 [(some v, d), (some w, e)] := ⟨S3.len, S3.sep.junk hp0⟩
    refine (L2.pg_tup hc (uGs.pgs X [.Name nx px, .Name ny py]) hn hst).run pins s σ _ _ u _ I r ⟨p, [v, w], rfl, SqT.of upd_same, rfl, ?_⟩
    intro pins s us I rv
    refine (pgs_cons (uG.pg X (.Name nx px)) (uGs.pgs X [.Name ny py]) h1).run pins s σ _ [v, w] us _ I rv ⟨v, [w], rfl, ug_name hN hi hx hfx ?_⟩
    intro pins s us I rv
    refine (pgs_cons (uG.pg X (.Name ny py)) (uGs.pgs X []) h2).run pins s _ _ [w] us _ I rv ⟨w, [], rfl, ug_name hN hj hy hfy ?_⟩
    intro pins s us I rv
    refine pgs_nil.run pins s _ _ [] us _ I rv ⟨rfl, ?_⟩
    refine h _ (upd H2 p (.tup [v, w])) F3 (le.trans le3) ((Keep.set hp.1).trans (Keep.set hp.2)) ?_
    exact SepE.bind (SepE.bind (T := [(some w, e)]) S4 li) (by rw [List.length_set]; exact lj)
end
end PI
set_option maxHeartbeats 3900000
namespace PI
open L2 PySem PyProof.Rows PySem.Spec
variable [Tb]
section
variable {K : PySem.W.Frag} {mg : Str → Option Value} {F F' H H' : Hp} {R : Rv} {L L1 L2 : List (Option V × D)}
theorem Sep.lendR (S : Sep K mg F R H (L1 ++ L2)) : ∃ R', Le R.hp R'.hp ∧ Sep K mg F R' H L1 ∧ ∀ F' H' L1', Le F F' → Sep K mg F' R' H' L1' → Sep K mg F' R H' (L1' ++ L2) := by
  obtain ⟨A, f, n, q⟩ := S.fo
  obtain ⟨A1, A2, rfl, f1, f2⟩ := f.split L1 L2 rfl
  obtain ⟨n1, n2, n3⟩ := List.nodup_append.mp n
  have rr : ∀ a o, R a = some o → (if a ∈ A2 then H a else R a) = some o := fun a o e => by
    rw [if_neg fun z => by have := (q a (List.mem_append_right _ z)).2; rw [e] at this; cases this]
    exact e
  refine ⟨⟨fun a => if a ∈ A2 then H a else R a, R.T⟩, rr, ⟨S.fh, fun a o e => ?_, fun a o e => ?_, S.nf, fun a o e => ?_, S.tb, A1, f1, n1, fun a ha => ⟨(q a (List.mem_append_left _ ha)).1, ?_⟩⟩, fun F' H' L1' le S' => ?_⟩
  · try dsimp only at e
    split at e
    · exact e
    · exact S.rh a o e
  · try dsimp only at e
    split at e
    · exact (q a (List.mem_append_right _ (by assumption))).1
    · exact S.rf a o e
  · try dsimp only at e
    split at e
    · exact (f2.tame a (by assumption) o e).1
    · exact S.nr a o e
  · try dsimp only
    rw [if_neg fun z => n3 a ha a z rfl]
    exact (q a (List.mem_append_left _ ha)).2
  · obtain ⟨A1', f1', n1', q'⟩ := S'.fo
    have keep : ∀ a ∈ A2, H' a = H a := fun a ha => by
      obtain ⟨o, ho⟩ := f2.there a ha
      exact (S'.rh a o (show (if a ∈ A2 then H a else R a) = some o by rw [if_pos ha]; exact ho)).trans ho.symm
    have apart : ∀ a ∈ A1', a ∉ A2 := fun a ha z => by
      have := (q' a ha).2
      try dsimp only at this
      rw [if_pos z] at this
      obtain ⟨o, ho⟩ := f2.there a z
      rw [ho] at this; cases this
    refine ⟨S'.fh, fun a o e => S'.rh a o (rr a o e), fun a o e => S'.rf a o (rr a o e), S'.nf, S.nr, S'.tb, A1' ++ A2, f1'.app ((f2.le le).frame keep), List.nodup_append.mpr ⟨n1', n2, fun a ha b hb z => apart a ha (z ▸ hb)⟩, fun a ha => ?_⟩
    obtain ha | ha := List.mem_append.mp ha
    · have := (q' a ha).2
      try dsimp only at this
      rw [if_neg (apart a ha)] at this
      exact ⟨(q' a ha).1, this⟩
    · obtain ⟨o, ho⟩ := f2.there a ha
      exact ⟨S'.rf a o (show (if a ∈ A2 then H a else R a) = some o by rw [if_pos ha]; exact ho), (q a (List.mem_append_right _ ha)).2⟩
theorem freezeKids : ∀ {vs : List V} {xs : List D} {F : Hp} {L : List (Option V × D)}, Sep K mg F R H (kids vs xs ++ L) → ∃ F', Le F F' ∧ Sep K mg F' R H (kids vs (frzL xs) ++ L)
  | [], xs, F, L, S => ⟨F, Le.refl F, S⟩
  | v :: vs, [], F, L, S => ⟨F, Le.refl F, S⟩
  | v :: vs, x :: xs, F, L, S => by
    obtain ⟨F1, le1, S1⟩ := Sep.freeze (L := kids vs xs ++ L) S
    obtain ⟨F2, le2, S2⟩ := freezeKids (vs := vs) (xs := xs) (L := (some v, frz x) :: L) (S1.perm List.perm_middle.symm)
    exact ⟨F2, le1.trans le2, S2.perm List.perm_middle⟩
end
section
variable {X : Cx} {F F' F1 H H' H1 : Hp} {R R1 : Rv} {σ σ' σ1 : L2.St} {en en' en1 : List D} {T T' : List (Option V × D)} {vs : List V} {xs ds : List D} {v x y : V} {W : WX} {Q : VK} {pos : Pos} {p : Addr} {i0 : Nat}
theorem SepE.lendR (S : SepE X F R H σ en T) : ∃ R', Le R.hp R'.hp ∧ SepE X F R' H σ en [] ∧ ∀ F' H' σ' en' T', Le F F' → SepE X F' R' H' σ' en' T' → SepE X F' R H' σ' en' (T ++ T') := by
  obtain ⟨R', lr, S', k⟩ := (S.sep.perm List.perm_append_comm).lendR
  refine ⟨R', lr, ⟨S.len, S'⟩, fun F' H' σ' en' T' le S2 => ⟨S2.len, ?_⟩⟩
  refine (k F' H' _ le S2.sep).perm ?_
  rw [List.append_assoc T T' _]
  exact List.perm_append_comm
/-- J walks ds as long as what is reserved stays -/
def WalksR (K : PySem.W.Frag) (mg : Str → Option Value) (J : It) (F : Hp) (R : Rv) (ds : List D) : Prop := ∀ F1 R1 H L, Le F F1 → Le R.hp R1.hp → Sep K mg F1 R1 H L →
  (∀ (i : Nat) d, ds[i]? = some d → J.go i H ∧ ∀ x H', J.yld i H x H' → ∃ F2, Le F1 F2 ∧ Sep K mg F2 R1 H' ((some x, d) :: L)) ∧ ∀ i, ds.length ≤ i → J.stop i H
theorem walk_atR {K : PySem.W.Frag} {mg : Str → Option Value} {a : Addr} (hs : R.hp a = some (.lst vs)) (r : Reps K mg F vs ds) : WalksR K mg (Itl K a) F R ds := by
  intro F1 R1 H L le lr S
  have hH : SqL K H a vs := SqL.of (S.rh a _ (lr a _ hs))
  refine ⟨fun i d hd => ?_, fun i hi => ⟨vs, hH, Nat.le_trans (Nat.le_of_eq r.1) hi⟩⟩
  obtain ⟨y, hy, rp⟩ := r.get hd
  refine ⟨⟨vs, y, hH, hy⟩, fun x H' ⟨e, q⟩ => ?_⟩
  cases e
  have q1 := q vs hH
  rw [hy] at q1
  cases q1
  exact ⟨F1, Le.refl F1, S.add (rp.le le)⟩
theorem uI_own {i : Nat} {x : Str} {ipos : Pos} {tg : Expr} {Rr : It → Hp → Prop} (hN : X.N[i]? = some x) (hv : Vis X.env.scope x) (hd : (x == ("__debug__" : Str)) = false) (hcd : (x == ("__classdict__" : Str)) = false)
    (hs : σ[i]? = some (some (.ref p))) (hc : H p = some (.lst vs)) (q : Rr (Itl X.K p) H) : uI X σ H tg (.Name x ipos) Rr := by
  intro pins s I
  have key := (pe_var (X := X) (pos := ipos) hN hv hd hcd).run pins s σ H (fun v G => v = .ref p ∧ G = H) I ⟨_, hs, rfl, rfl⟩
  refine thn key fun v s1 ⟨y, G1, J1, r1, q1⟩ => ?_
  obtain ⟨rfl, rfl⟩ := q1
  cases r1
  obtain ⟨elems, rv, pp, hz⟩ := J1.list (SqL.of hc)
  refine (wpAny_pyIter_list (pp.isList) ?_)
  refine ⟨s1.heap.objs.size, [s1.heap.objs.size], _, _, G1, rfl, J1.kept (t' := s1.toks) fun b o e => Heap.get?_push_of_some _ e, turn_list p _, ⟨_, Heap.get?_push_size _ rfl, rfl, rfl⟩, fun b hb => ?_, q⟩
  have eb : b = s1.heap.objs.size := (by simpa using hb)
  subst eb
  exact J1.fpOk (Nat.le_refl _) (J1.hok.fresh (Nat.le_refl _))
theorem lcO_loop {elt tg iter : Expr} {ifs : List Expr} {scope : Scope} {own : List (Str × Nat)} {g : D → M Unit} {t : M Bool} {fe : M Op} {J : It}
    (h2 : ∀ s H C cl fp, DG (blkOf X s H scope C cl fp) (others X.N.length (own.map (·.2))) tg g)
    (h3 : ∀ s H C cl fp, DTs (blkOf X s H scope C cl fp) ifs t) (h4 : ∀ s H C cl fp, DO (blkOf X s H scope C cl fp) elt fe)
    (hn : σ.length = X.N.length) (le1 : Le F F1) (wk : WalksR X.K X.mg J F1 R1 ds) (S1 : SepE X F1 R1 H1 σ en1 [])
    (fin : ∀ F2 H2 en2 T', Le F1 F2 → SepE X F2 R1 H2 σ en2 T' → SepE X F2 R H2 σ (en2.set i0 (.nd (.lst true) ds)) T')
    (h : wpO ((noX (loopC (own.map (·.2)) g t fe ds [] (wipeD en1 (own.map (·.2))))).bd fun acc en2 => .ok (.v (.nd (.lst true) acc)) ((restore en1 (own.map (·.2)) en2).set i0 (.nd (.lst true) ds))) (PVo X F R σ Q) (PXc X W F R σ)) :
    tLc (fun _ G Rr => G = H1 ∧ Rr J H1) (fun x σ H Q => ∀ s H₀ C cl fp, uG (blkOf X s H₀ scope C cl fp) σ H tg x Q)
      (fun σ H Q => ∀ s H₀ C cl fp, ∃ tt, PTs (blkOf X s H₀ scope C cl fp) ifs tt ∧ tt σ H Q) (fun σ H Q => ∀ s H₀ C cl fp, uE (blkOf X s H₀ scope C cl fp) σ H elt Q) (own.map (·.2)) σ H1 Q := by
  refine ⟨rfl, ?_⟩
  intro D hD
  obtain ⟨saved, S2, back⟩ := S1.hide (own.map (·.2))
  rw [List.append_nil] at S2
  obtain ⟨R', leR, S3, back2⟩ := S2.lendR
  have h' : wpO (noX (loopC (own.map (·.2)) g t fe ds [] (wipeD en1 (own.map (·.2))))) (fun acc en2 => PVo X F R σ Q (.v (.nd (.lst true) acc)) ((restore en1 (own.map (·.2)) en2).set i0 (.nd (.lst true) ds))) (fun _ _ _ _ => False) := by
    revert h
    cases loopC (own.map (·.2)) g t fe ds [] (wipeD en1 (own.map (·.2))) <;> exact fun z => z
  have h' := wpO_noX h'
  have S4 : SepE X F1 R' (upd H1 D (.lst [])) (wipe σ (own.map (·.2))) (wipeD en1 (own.map (·.2))) [(some (.ref D), .nd (.lst true) [])] := ⟨S3.len, Sep.lst S3.sep .nil hD⟩
  refine ⟨fun i m H' => m = ds.length - i ∧ ∃ F2 acc en2, Le F1 F2 ∧ SepE X F2 R' H' (wipe σ (own.map (·.2))) en2 [(some (.ref D), .nd (.lst true) acc)] ∧
    wpO (loopC (own.map (·.2)) g t fe (ds.drop i) acc en2) (fun acc en2 => PVo X F R σ Q (.v (.nd (.lst true) acc)) ((restore en1 (own.map (·.2)) en2).set i0 (.nd (.lst true) ds))) (fun _ _ _ _ => False),
    ⟨ds.length, by omega, F1, [], _, Le.refl F1, S4, h'⟩, ?_⟩
  rintro i m H2 ⟨rfl, F2, acc, en2, le2, S5, h⟩
  obtain ⟨w1, w2⟩ := wk F2 R' H2 _ le2 leR S5.sep
  by_cases hlt : i < ds.length
  · obtain ⟨g1, g2⟩ := w1 i ds[i] (List.getElem?_eq_getElem hlt)
    rw [List.drop_eq_getElem_cons hlt] at h
    refine .inr ⟨g1, fun H' => ∃ F2 acc en2, Le F1 F2 ∧ SepE X F2 R' H' (wipe σ (own.map (·.2))) en2 [(some (.ref D), .nd (.lst true) acc)] ∧
      wpO (loopC (own.map (·.2)) g t fe (ds.drop (i + 1)) acc en2) (fun acc en2 => PVo X F R σ Q (.v (.nd (.lst true) acc)) ((restore en1 (own.map (·.2)) en2).set i0 (.nd (.lst true) ds))) (fun _ _ _ _ => False),
      fun H' ⟨F2, acc, en2, a1, a2, a3⟩ => ⟨ds.length - (i + 1), by omega, rfl, F2, acc, en2, a1, a2, a3⟩, fun x H3 hy => ?_⟩
    obtain ⟨F3, le3, S6⟩ := g2 x H3 hy
    intro s₀ H₀ C cl fp
    unfold loopC at h
    rw [wpO_bd] at h
    -- the new list is lent
    have S6' : SepE X F3 R' H3 (wipe σ (own.map (·.2))) en2 ([(some (.ref D), .nd (.lst true) acc)] ++ [(some x, ds[i])]) := ⟨S5.len, S6.perm (by simpa using List.Perm.swap _ _ _)⟩
    obtain ⟨R2, S7, back3⟩ : ∃ R2, SepE X F3 R2 H3 (wipe σ (own.map (·.2))) en2 [(some x, ds[i])] ∧ ∀ F' H' σ' en' T', Le F3 F' → SepE X F' R2 H' σ' en' T' → SepE X F' R' H' σ' en' ([(some (.ref D), .nd (.lst true) acc)] ++ T') := by
      obtain ⟨R2, S', k⟩ := Sep.lend (L1 := [(some x, ds[i])] ++ (wipe σ (own.map (·.2))).zip en2) (L2 := [(some (.ref D), .nd (.lst true) acc)]) (S6'.sep.perm (by rw [List.append_assoc]; exact List.perm_append_comm))
      refine ⟨R2, ⟨S5.len, S'⟩, fun F' H' σ' en' T' le S2 => ⟨S2.len, ?_⟩⟩
      refine (k F' H' _ le S2.sep).perm (List.perm_append_comm.trans ?_)
      rw [List.append_assoc]
    refine (h2 s₀ H₀ C cl fp).run F3 R2 H3 _ en2 x ds[i] _ S7 ?_
    cases eg : g ds[i] en2 with
    | st => rw [eg] at h; exact h.elim
    | ex c ns xs e' => exact ((h2 s₀ H₀ C cl fp).noex eg).elim
    | ok u en3 =>
      rw [eg] at h
      intro σ4 H4 F4 le4 k4 S8
      have ew0 : wipe σ4 (own.map (·.2)) = wipe (wipe σ (own.map (·.2))) (own.map (·.2)) := wipe_keep (n := X.N.length) (by rw [wipe_length]; exact hn) k4
      have ew : wipe σ4 (own.map (·.2)) = wipe σ (own.map (·.2)) := ew0.trans (wipe_wipe _)
      refine ⟨ew, ?_⟩
      intro s₁ H₁ C1 cl1 fp1
      have h : wpO (bd t (fun c => if c then bd fe fun o => fun en => if acc.length < sizeLine then loopC (own.map (·.2)) g t fe (ds.drop (i + 1)) (acc ++ [escD en o]) (wipeD (escE en o) (own.map (·.2))) else .st
        else fun en => loopC (own.map (·.2)) g t fe (ds.drop (i + 1)) acc (wipeD en (own.map (·.2)))) en3) _ _ := h
      rw [wpO_bd] at h
      refine (h3 s₁ H₁ C1 cl1 fp1).run (fun _ _ _ _ => False) F4 R2 H4 σ4 en3 _ takes0 S8 (wpO_mono h (fun c en4 h H5 F5 le5 S9 => ?_) fun _ _ _ _ q => q.elim)
      cases c with
      | true =>
        refine iteT ?_
        try dsimp only at h
        rw [if_pos rfl, wpO_bd] at h
        intro s₂ H₂ C2 cl2 fp2
        refine (h4 s₂ H₂ C2 cl2 fp2).run (fun _ _ _ _ => False) F5 R2 H5 σ4 en4 _ takes0 S9 (wpO_mono h (fun o en6 h y H6 F6 le6 S10 => ?_) fun _ _ _ _ q => q.elim)
        split at h
        · rename_i hz
          obtain ⟨F7, le7, S11⟩ := SepE.esc' (X := blkOf X s₂ H₂ scope C2 cl2 fp2) S10.2 S10
          have S12 := back3 F7 H6 σ4 (escE en6 o) [(some y, escD en6 o)] (le4.trans (le5.trans (le6.trans le7))) ⟨S11.len, S11.sep⟩
          obtain ⟨p, vs, ep, hl, hc, S13, ho, _⟩ := Sep.node S12.sep
          cases ep
          obtain ⟨hc, hf, hr⟩ := ho rfl
          refine ⟨vs, hc, by rw [hl]; exact hz, F7, acc ++ [escD en6 o], _, le2.trans (le3.trans (le4.trans (le5.trans (le6.trans le7)))), ?_, h⟩
          have S14 : Sep X.K X.mg F7 (hold R' H6 D) H6 (kids (vs ++ [y]) (acc ++ [escD en6 o]) ++ σ4.zip (escE en6 o)) := by
            refine S13.perm ?_
            show ((vs.map some).zip acc ++ _).Perm (((vs ++ [y]).map some).zip (acc ++ [escD en6 o]) ++ _)
            rw [List.map_append, List.zip_append (by simp [hl])]
            simp
          have S15 := Sep.close (o := .lst (vs ++ [y])) (k := .lst true) rfl hf hr S14 (by simp [hl]) (fun u e => Cont.tame (k := .lst true) rfl hc e) upd_same
          have S16 : SepE X F7 R' (upd H6 D (.lst (vs ++ [y]))) σ4 (escE en6 o) [(some (.ref D), .nd (.lst true) (acc ++ [escD en6 o]))] := ⟨S11.len, S15⟩
          have := S16.wipeAll (own.map (·.2))
          rwa [ew] at this
        · exact h.elim
      | false =>
        refine iteF ?_
        try dsimp only at h
        rw [if_neg (Bool.false_ne_true)] at h
        have S12 := back3 F5 H5 σ4 en4 [] (le4.trans le5) ⟨S9.len, S9.sep⟩
        rw [List.append_nil] at S12
        refine ⟨F5, acc, _, le2.trans (le3.trans (le4.trans le5)), ?_, h⟩
        have := S12.wipeAll (own.map (·.2))
        rwa [ew] at this
  · refine .inl ⟨w2 i (by omega), ?_⟩
    rw [List.drop_eq_nil_of_le (by omega)] at h
    have h : PVo X F R σ Q (.v (.nd (.lst true) acc)) ((restore en1 (own.map (·.2)) en2).set i0 (.nd (.lst true) ds)) := h
    refine h _ H2 F2 (le1.trans le2) ⟨trivial, ?_⟩
    exact fin F2 H2 _ _ le2 (back F2 H2 en2 _ (back2 F2 H2 _ en2 _ le2 S5))
def dLcO (own : List Nat) (i : Nat) (g : D → M Unit) (t : M Bool) (fe : M Op) : M Op := fun en => match en.getD i .un with
  | .nd (.lst true) xs => (noX (loopC own g t fe (frzL xs) [] (wipeD (en.set i .un) own))).bd fun acc en2 => .ok (.v (.nd (.lst true) acc)) ((restore (en.set i .un) own en2).set i (.nd (.lst true) (frzL xs)))
  | _ => dLc own (iSeq (dName i)) g t fe en
/-- [.. for .. in v]: v may be owned, and is so again behind it -/
theorem do_lcO {i : Nat} {x : Str} {ipos : Pos} {elt tg : Expr} {ifs : List Expr} {scope : Scope} {own : List (Str × Nat)} {g : D → M Unit} {t : M Bool} {fe : M Op} (h1 : DO X (.Name x ipos) (dName i)) (h2 : ∀ s H C cl fp, DG (blkOf X s H scope C cl fp) (others X.N.length (own.map (·.2))) tg g)
    (h3 : ∀ s H C cl fp, DTs (blkOf X s H scope C cl fp) ifs t) (h4 : ∀ s H C cl fp, DO (blkOf X s H scope C cl fp) elt fe) (ok : BlkOk X.N X.env.scope scope own) (hi : X.N[i]? = some x := by rfl) (hv : Vis X.env.scope x := by first | exact Or.inl rfl | exact Or.inr (Or.inl rfl) | exact Or.inr (Or.inr rfl))
    (hd : (x == ("__debug__" : Str)) = false := by decide) (hcd : (x == ("__classdict__" : Str)) = false := by decide) (hN : X.N.Nodup := by exact FnScope.nd (by assumption)) (hc : X.calm = true := by rfl)
    (hs : ∀ y, foldedSetIterable (.Name x ipos) X.env y = pure y := by intro _; rfl) : DO X (.ListComp elt [⟨tg, .Name x ipos, ifs, 0⟩] scope pos) (dLcO (own.map (·.2)) i g t fe) := by
  refine ⟨fun W F R H σ en Q tk S h pins s I => ?_⟩
  unfold dLcO at h
  split at h
  · rename_i xs e
    refine (lc_pe hc hN ok hs).run pins s σ H Q I ?_
    obtain ⟨y, hsl⟩ := slot_some S (by rw [e]; nofun)
    have S0 := S.take hsl
    rw [e] at S0
    obtain ⟨p, vs, rfl, hl, _, S1, ho, _⟩ := Sep.node S0.sep
    obtain ⟨hc, hf, hr⟩ := ho rfl
    have S1 : Sep X.K X.mg F (hold R H p) H (kids vs xs ++ ([] ++ σ.zip (en.set i .un))) := S1
    obtain ⟨F1, le1, S2⟩ := freezeKids S1
    have hl' : vs.length = (frzL xs).length := by rw [frzL_length]; exact hl
    have rs : Reps X.K X.mg F1 vs (frzL xs) := reps_of S2 hl' (isFzL_frz xs)
    have S3 : SepE X F1 (hold R H p) H σ (en.set i .un) [] := ⟨by rw [List.length_set]; exact S.len, S2.drop⟩
    have hh : (hold R H p).hp p = some (.lst vs) := (if_pos rfl).trans hc
    have fin : ∀ F2 H2 en2 T', Le F1 F2 → SepE X F2 (hold R H p) H2 σ en2 T' → SepE X F2 R H2 σ (en2.set i (.nd (.lst true) (frzL xs))) T' := by
      intro F2 H2 en2 T' le2 S4
      have e2 : H2 p = some (.lst vs) := S4.sep.rh p _ hh
      have eh : hold R H2 p = hold R H p := by unfold hold; congr 1; funext a; split <;> first | (rename_i z; exact e2.trans (Eq.symm hc)) | rfl
      have S5 : Sep X.K X.mg F2 (hold R H2 p) H2 (kids vs (frzL xs) ++ (T' ++ σ.zip en2)) := by rw [eh]; exact S4.sep.adds (rs.le le2)
      have eu : upd H2 p (.lst vs) = H2 := by
        funext a
        by_cases z : a = p
        · rw [z, e2]; exact upd_same
        · exact upd_ne z
      have S6 := Sep.close (o := .lst vs) (k := .lst true) rfl (S4.sep.rf p _ hh) hr S5 hl' (fun u z => Cont.tame (k := .lst true) rfl (show Cont X.K X.mg H2 (.lst true) p vs from e2) z) upd_same
      rw [eu] at S6
      exact SepE.put (X := X) ⟨S4.len, S6⟩ hsl
    have lp := lcO_loop (iter := .Name x ipos) h2 h3 h4 I.len le1 (walk_atR (K := X.K) (mg := X.mg) hh rs) S3 fin h
    exact uI_own hi hv hd hcd hsl hc lp.2
  · exact (do_lc (di_seq h1) h2 h3 h4 ok hN hc hs).run W F R H σ en Q tk S h pins s I
end
end PI
set_option maxHeartbeats 3900000
namespace Lw
open PI L2 PySem PyProof.Rows PySem.Spec
variable [Tb]
def top (i : Nat) : Stmt := PySem.Challenge.pw_anylead_k04_books_made_and_refused.main.body.getD i (.Pass ⟨0, 0, 0, 0⟩)
def mem (i j : Nat) : Stmt := (match top i with
  | .ClassDef _ _ _ b _ _ _ _ _ _ _ => b
  | _ => []).getD j (.Pass ⟨0, 0, 0, 0⟩)
abbrev s_law_pen : Stmt := top 19
abbrev s_law_draw : Stmt := top 20
abbrev s_law_pick : Stmt := top 21
abbrev s_law_taking_book : Stmt := top 25
abbrev s_law_some_condition : Stmt := top 22
abbrev s_law_some_conditions : Stmt := top 23
abbrev s_law_some_book : Stmt := top 24
abbrev s_law_drawn_book : Stmt := top 26
abbrev s_is_row : Stmt := top 5
abbrev s_BadBook_init : Stmt := mem 2 0
abbrev s_as_tuples : Stmt := top 6
abbrev s_Move_init : Stmt := mem 9 0
abbrev s_is_int : Stmt := top 4
abbrev s_is_place_of : Stmt := top 13
abbrev s_is_condition : Stmt := top 11
abbrev s_are_conditions : Stmt := top 12
abbrev s_is_move_of : Stmt := top 14
abbrev s_Goal_init : Stmt := mem 10 0
abbrev s_is_goal_of : Stmt := top 15
abbrev s_check_items : Stmt := top 16
abbrev s_Book_init : Stmt := mem 17 0
abbrev s_law_listed : Stmt := top 27
abbrev s_law_made_move : Stmt := top 28
abbrev s_law_made_goal : Stmt := top 29
abbrev s_law_made_book : Stmt := top 30
abbrev s_law_fault : Stmt := top 32
abbrev s_law_bad_conditions : Stmt := top 33
abbrev s_law_bad_moves : Stmt := top 34
abbrev s_law_bad_goals : Stmt := top 35
abbrev s_law_faults_right : Stmt := top 36
abbrev s_law_told_book : Stmt := top 31
abbrev s_Move___eq__ : Stmt := mem 9 1
abbrev s_Goal___eq__ : Stmt := mem 10 1
abbrev s_Book___eq__ : Stmt := mem 17 1
abbrev s_law : Stmt := top 37
def dcs : List Str := ["Move", "Goal", "Book"]
def csI : List Str := ["Move", "Goal", "Book"]
def tbL : List ((Tag × Tag) × Bool) := [(((.inl "NoneType"), (.inl "bool")), false), (((.inl "NoneType"), (.inl "int")), false), (((.inl "NoneType"), (.inl "str")), false), (((.inl "NoneType"), (.inl "tuple")), false), (((.inl "NoneType"), (.inl "list")), false), (((.inl "NoneType"), (.inl "dict")), false), (((.inl "NoneType"), (.inr "Move")), false), (((.inl "NoneType"), (.inr "Goal")), false), (((.inl "NoneType"), (.inr "Book")), false), (((.inl "bool"), (.inl "bool")), true), (((.inl "bool"), (.inl "int")), true), (((.inl "bool"), (.inl "str")), false), (((.inl "bool"), (.inl "tuple")), false), (((.inl "bool"), (.inl "list")), false), (((.inl "bool"), (.inl "dict")), false), (((.inl "bool"), (.inr "Move")), false), (((.inl "bool"), (.inr "Goal")), false), (((.inl "bool"), (.inr "Book")), false), (((.inl "int"), (.inl "bool")), false), (((.inl "int"), (.inl "int")), true), (((.inl "int"), (.inl "str")), false), (((.inl "int"), (.inl "tuple")), false), (((.inl "int"), (.inl "list")), false), (((.inl "int"), (.inl "dict")), false), (((.inl "int"), (.inr "Move")), false), (((.inl "int"), (.inr "Goal")), false), (((.inl "int"), (.inr "Book")), false), (((.inl "str"), (.inl "bool")), false), (((.inl "str"), (.inl "int")), false), (((.inl "str"), (.inl "str")), true), (((.inl "str"), (.inl "tuple")), false), (((.inl "str"), (.inl "list")), false), (((.inl "str"), (.inl "dict")), false), (((.inl "str"), (.inr "Move")), false), (((.inl "str"), (.inr "Goal")), false), (((.inl "str"), (.inr "Book")), false), (((.inl "tuple"), (.inl "bool")), false), (((.inl "tuple"), (.inl "int")), false), (((.inl "tuple"), (.inl "str")), false), (((.inl "tuple"), (.inl "tuple")), true), (((.inl "tuple"), (.inl "list")), false), (((.inl "tuple"), (.inl "dict")), false), (((.inl "tuple"), (.inr "Move")), false), (((.inl "tuple"), (.inr "Goal")), false), (((.inl "tuple"), (.inr "Book")), false), (((.inl "list"), (.inl "bool")), false), (((.inl "list"), (.inl "int")), false), (((.inl "list"), (.inl "str")), false), (((.inl "list"), (.inl "tuple")), false), (((.inl "list"), (.inl "list")), true), (((.inl "list"), (.inl "dict")), false), (((.inl "list"), (.inr "Move")), false), (((.inl "list"), (.inr "Goal")), false), (((.inl "list"), (.inr "Book")), false), (((.inl "dict"), (.inl "bool")), false), (((.inl "dict"), (.inl "int")), false), (((.inl "dict"), (.inl "str")), false), (((.inl "dict"), (.inl "tuple")), false), (((.inl "dict"), (.inl "list")), false), (((.inl "dict"), (.inl "dict")), true), (((.inl "dict"), (.inr "Move")), false), (((.inl "dict"), (.inr "Goal")), false), (((.inl "dict"), (.inr "Book")), false), (((.inr "Move"), (.inl "bool")), false), (((.inr "Move"), (.inl "int")), false), (((.inr "Move"), (.inl "str")), false), (((.inr "Move"), (.inl "tuple")), false), (((.inr "Move"), (.inl "list")), false), (((.inr "Move"), (.inl "dict")), false), (((.inr "Move"), (.inr "Move")), true), (((.inr "Move"), (.inr "Goal")), false), (((.inr "Move"), (.inr "Book")), false), (((.inr "Goal"), (.inl "bool")), false), (((.inr "Goal"), (.inl "int")), false), (((.inr "Goal"), (.inl "str")), false), (((.inr "Goal"), (.inl "tuple")), false), (((.inr "Goal"), (.inl "list")), false), (((.inr "Goal"), (.inl "dict")), false), (((.inr "Goal"), (.inr "Move")), false), (((.inr "Goal"), (.inr "Goal")), true), (((.inr "Goal"), (.inr "Book")), false), (((.inr "Book"), (.inl "bool")), false), (((.inr "Book"), (.inl "int")), false), (((.inr "Book"), (.inl "str")), false), (((.inr "Book"), (.inl "tuple")), false), (((.inr "Book"), (.inl "list")), false), (((.inr "Book"), (.inl "dict")), false), (((.inr "Book"), (.inr "Move")), false), (((.inr "Book"), (.inr "Goal")), false), (((.inr "Book"), (.inr "Book")), true)]
def tbI (t u : Tag) : Option Bool := ask2 tbL t u
def tbK : List (Str × List Str) := [("OTHER_WORDS", ["least", "most", "is", "not"])]
def tEL : List ((Str × Str) × Bool) := [((("LeadError" : Str), ("LeadError" : Str)), true), ((("BadBook" : Str), ("LeadError" : Str)), false), ((("LeadError" : Str), ("BadBook" : Str)), true), ((("BadBook" : Str), ("BadBook" : Str)), true)]
/-- does the clause for the class y take an exception of the class x? -/
def tE (y x : Str) : Option Bool := ask2 tEL y x
structure Fx (w : World) (K : PySem.W.Frag) (mg : Str → Option Value) (base : Heap) : Prop where
  b_LeadError : BInit K (He.fAd K ("LeadError", none))
  dc_Book : DcFact K mg dcs "Book"
  dc_Goal : DcFact K mg dcs "Goal"
  dc_Move : DcFact K mg dcs "Move"
  eq_Book : EqFact K mg "Book" (He.fAd K ("Book", some "__eq__"))
  eq_Goal : EqFact K mg "Goal" (He.fAd K ("Goal", some "__eq__"))
  eq_Move : EqFact K mg "Move" (He.fAd K ("Move", some "__eq__"))
  f_BadBook : mg "BadBook" = some (.ref (He.fAd K ("BadBook", none)))
  f_Book : mg "Book" = some (.ref (He.fAd K ("Book", none)))
  f_Goal : mg "Goal" = some (.ref (He.fAd K ("Goal", none)))
  f_LeadError : mg "LeadError" = some (.ref (He.fAd K ("LeadError", none)))
  f_Move : mg "Move" = some (.ref (He.fAd K ("Move", none)))
  f_OTHER_WORDS : mg "OTHER_WORDS" = some (.ref (He.fAd K ("OTHER_WORDS", none)))
  f_law_bad_conditions : mg "_law_bad_conditions" = some (.ref (He.fAd K ("_law_bad_conditions", none)))
  f_law_bad_goals : mg "_law_bad_goals" = some (.ref (He.fAd K ("_law_bad_goals", none)))
  f_law_bad_moves : mg "_law_bad_moves" = some (.ref (He.fAd K ("_law_bad_moves", none)))
  f_law_draw : mg "_law_draw" = some (.ref (He.fAd K ("_law_draw", none)))
  f_law_drawn_book : mg "_law_drawn_book" = some (.ref (He.fAd K ("_law_drawn_book", none)))
  f_law_fault : mg "_law_fault" = some (.ref (He.fAd K ("_law_fault", none)))
  f_law_faults_right : mg "_law_faults_right" = some (.ref (He.fAd K ("_law_faults_right", none)))
  f_law_listed : mg "_law_listed" = some (.ref (He.fAd K ("_law_listed", none)))
  f_law_made_book : mg "_law_made_book" = some (.ref (He.fAd K ("_law_made_book", none)))
  f_law_made_goal : mg "_law_made_goal" = some (.ref (He.fAd K ("_law_made_goal", none)))
  f_law_made_move : mg "_law_made_move" = some (.ref (He.fAd K ("_law_made_move", none)))
  f_law_pen : mg "_law_pen" = some (.ref (He.fAd K ("_law_pen", none)))
  f_law_pick : mg "_law_pick" = some (.ref (He.fAd K ("_law_pick", none)))
  f_law_some_book : mg "_law_some_book" = some (.ref (He.fAd K ("_law_some_book", none)))
  f_law_some_condition : mg "_law_some_condition" = some (.ref (He.fAd K ("_law_some_condition", none)))
  f_law_some_conditions : mg "_law_some_conditions" = some (.ref (He.fAd K ("_law_some_conditions", none)))
  f_law_taking_book : mg "_law_taking_book" = some (.ref (He.fAd K ("_law_taking_book", none)))
  f_law_told_book : mg "_law_told_book" = some (.ref (He.fAd K ("_law_told_book", none)))
  f_are_conditions : mg "are_conditions" = some (.ref (He.fAd K ("are_conditions", none)))
  f_as_tuples : mg "as_tuples" = some (.ref (He.fAd K ("as_tuples", none)))
  f_check_items : mg "check_items" = some (.ref (He.fAd K ("check_items", none)))
  f_is_condition : mg "is_condition" = some (.ref (He.fAd K ("is_condition", none)))
  f_is_goal_of : mg "is_goal_of" = some (.ref (He.fAd K ("is_goal_of", none)))
  f_is_int : mg "is_int" = some (.ref (He.fAd K ("is_int", none)))
  f_is_move_of : mg "is_move_of" = some (.ref (He.fAd K ("is_move_of", none)))
  f_is_place_of : mg "is_place_of" = some (.ref (He.fAd K ("is_place_of", none)))
  f_is_row : mg "is_row" = some (.ref (He.fAd K ("is_row", none)))
  f_law : mg "law" = some (.ref (He.fAd K ("law", none)))
  a_Book_goals : ∀ C, mg "Book" = some (.ref C) → Cls K C ∧ NoAttr K C "goals"
  a_Book_moves : ∀ C, mg "Book" = some (.ref C) → Cls K C ∧ NoAttr K C "moves"
  a_Book_places : ∀ C, mg "Book" = some (.ref C) → Cls K C ∧ NoAttr K C "places"
  a_Book_sides : ∀ C, mg "Book" = some (.ref C) → Cls K C ∧ NoAttr K C "sides"
  a_Goal_conditions : ∀ C, mg "Goal" = some (.ref C) → Cls K C ∧ NoAttr K C "conditions"
  a_Goal_place : ∀ C, mg "Goal" = some (.ref C) → Cls K C ∧ NoAttr K C "place"
  a_Move_conditions : ∀ C, mg "Move" = some (.ref C) → Cls K C ∧ NoAttr K C "conditions"
  a_Move_place : ∀ C, mg "Move" = some (.ref C) → Cls K C ∧ NoAttr K C "place"
  a_Move_shift : ∀ C, mg "Move" = some (.ref C) → Cls K C ∧ NoAttr K C "shift"
  a_Move_target : ∀ C, mg "Move" = some (.ref C) → Cls K C ∧ NoAttr K C "target"
  m_NotImplemented : mg "NotImplemented" = none
  m_all : mg "all" = none
  m_bool : mg "bool" = none
  m_enumerate : mg "enumerate" = none
  m_int : mg "int" = none
  m_isinstance : mg "isinstance" = none
  m_len : mg "len" = none
  m_list : mg "list" = none
  m_range : mg "range" = none
  m_str : mg "str" = none
  m_tuple : mg "tuple" = none
  mk_Book : MkOk K mg "Book" (He.fAd K ("Book", some "__init__"))
  mk_Goal : MkOk K mg "Goal" (He.fAd K ("Goal", some "__init__"))
  mk_Move : MkOk K mg "Move" (He.fAd K ("Move", some "__init__"))
  ne_Book : NeFact K mg "Book" (He.fAd K ("Book", some "__eq__"))
  ne_Goal : NeFact K mg "Goal" (He.fAd K ("Goal", some "__eq__"))
  ne_Move : NeFact K mg "Move" (He.fAd K ("Move", some "__eq__"))
  x_BadBook : OexC K (He.fAd K ("BadBook", none)) ∧ PySem.W.typeIn K (.ref (He.fAd K ("BadBook", some "__init__"))) = some (.type "function") ∧ PySem.W.findIn K (.ref (He.fAd K ("BadBook", none))) "__init__" = some (some (.ref (He.fAd K ("BadBook", some "__init__")))) ∧ PySem.W.findIn K (.ref (He.fAd K ("BadBook", none))) "what" = some none ∧ PySem.W.findIn K (.ref (He.fAd K ("BadBook", none))) "index" = some none
  d_law_pen : ∃ fd, FunD K "_law_pen" "_law_pen" (defArgs s_law_pen) (defBody s_law_pen) (defScope s_law_pen) [] [] (He.fAd K ("_law_pen", none)) fd
  d_law_draw : ∃ fd, FunD K "_law_draw" "_law_draw" (defArgs s_law_draw) (defBody s_law_draw) (defScope s_law_draw) [] [] (He.fAd K ("_law_draw", none)) fd
  d_law_pick : ∃ fd, FunD K "_law_pick" "_law_pick" (defArgs s_law_pick) (defBody s_law_pick) (defScope s_law_pick) [] [] (He.fAd K ("_law_pick", none)) fd
  d_law_taking_book : ∃ fd, FunD K "_law_taking_book" "_law_taking_book" (defArgs s_law_taking_book) (defBody s_law_taking_book) (defScope s_law_taking_book) [] [] (He.fAd K ("_law_taking_book", none)) fd
  d_law_some_condition : ∃ fd, FunD K "_law_some_condition" "_law_some_condition" (defArgs s_law_some_condition) (defBody s_law_some_condition) (defScope s_law_some_condition) [] [] (He.fAd K ("_law_some_condition", none)) fd
  d_law_some_conditions : ∃ fd, FunD K "_law_some_conditions" "_law_some_conditions" (defArgs s_law_some_conditions) (defBody s_law_some_conditions) (defScope s_law_some_conditions) [] [] (He.fAd K ("_law_some_conditions", none)) fd
  d_law_some_book : ∃ fd, FunD K "_law_some_book" "_law_some_book" (defArgs s_law_some_book) (defBody s_law_some_book) (defScope s_law_some_book) [] [] (He.fAd K ("_law_some_book", none)) fd
  d_law_drawn_book : ∃ fd, FunD K "_law_drawn_book" "_law_drawn_book" (defArgs s_law_drawn_book) (defBody s_law_drawn_book) (defScope s_law_drawn_book) [] [] (He.fAd K ("_law_drawn_book", none)) fd
  d_is_row : ∃ fd, FunD K "is_row" "is_row" (defArgs s_is_row) (defBody s_is_row) (defScope s_is_row) [] [] (He.fAd K ("is_row", none)) fd
  d_BadBook_init : ∃ fd, FunD K "__init__" "BadBook.__init__" (defArgs s_BadBook_init) (defBody s_BadBook_init) (defScope s_BadBook_init) [] [] (He.fAd K ("BadBook", some "__init__")) fd
  d_as_tuples : ∃ fd, FunD K "as_tuples" "as_tuples" (defArgs s_as_tuples) (defBody s_as_tuples) (defScope s_as_tuples) [] [] (He.fAd K ("as_tuples", none)) fd
  d_Move_init : ∃ fd, FunD K "__init__" "Move.__init__" (defArgs s_Move_init) (defBody s_Move_init) (defScope s_Move_init) [] [] (He.fAd K ("Move", some "__init__")) fd
  d_is_int : ∃ fd, FunD K "is_int" "is_int" (defArgs s_is_int) (defBody s_is_int) (defScope s_is_int) [] [] (He.fAd K ("is_int", none)) fd
  d_is_place_of : ∃ fd, FunD K "is_place_of" "is_place_of" (defArgs s_is_place_of) (defBody s_is_place_of) (defScope s_is_place_of) [] [] (He.fAd K ("is_place_of", none)) fd
  d_is_condition : ∃ fd, FunD K "is_condition" "is_condition" (defArgs s_is_condition) (defBody s_is_condition) (defScope s_is_condition) [] [] (He.fAd K ("is_condition", none)) fd
  d_are_conditions : ∃ fd, FunD K "are_conditions" "are_conditions" (defArgs s_are_conditions) (defBody s_are_conditions) (defScope s_are_conditions) [] [] (He.fAd K ("are_conditions", none)) fd
  d_is_move_of : ∃ fd, FunD K "is_move_of" "is_move_of" (defArgs s_is_move_of) (defBody s_is_move_of) (defScope s_is_move_of) [] [] (He.fAd K ("is_move_of", none)) fd
  d_Goal_init : ∃ fd, FunD K "__init__" "Goal.__init__" (defArgs s_Goal_init) (defBody s_Goal_init) (defScope s_Goal_init) [] [] (He.fAd K ("Goal", some "__init__")) fd
  d_is_goal_of : ∃ fd, FunD K "is_goal_of" "is_goal_of" (defArgs s_is_goal_of) (defBody s_is_goal_of) (defScope s_is_goal_of) [] [] (He.fAd K ("is_goal_of", none)) fd
  d_check_items : ∃ fd, FunD K "check_items" "check_items" (defArgs s_check_items) (defBody s_check_items) (defScope s_check_items) [] [] (He.fAd K ("check_items", none)) fd
  d_Book_init : ∃ fd, FunD K "__init__" "Book.__init__" (defArgs s_Book_init) (defBody s_Book_init) (defScope s_Book_init) [] [] (He.fAd K ("Book", some "__init__")) fd
  d_law_listed : ∃ fd, FunD K "_law_listed" "_law_listed" (defArgs s_law_listed) (defBody s_law_listed) (defScope s_law_listed) [] [] (He.fAd K ("_law_listed", none)) fd
  d_law_made_move : ∃ fd, FunD K "_law_made_move" "_law_made_move" (defArgs s_law_made_move) (defBody s_law_made_move) (defScope s_law_made_move) [] [] (He.fAd K ("_law_made_move", none)) fd
  d_law_made_goal : ∃ fd, FunD K "_law_made_goal" "_law_made_goal" (defArgs s_law_made_goal) (defBody s_law_made_goal) (defScope s_law_made_goal) [] [] (He.fAd K ("_law_made_goal", none)) fd
  d_law_made_book : ∃ fd, FunD K "_law_made_book" "_law_made_book" (defArgs s_law_made_book) (defBody s_law_made_book) (defScope s_law_made_book) [] [] (He.fAd K ("_law_made_book", none)) fd
  d_law_fault : ∃ fd, FunD K "_law_fault" "_law_fault" (defArgs s_law_fault) (defBody s_law_fault) (defScope s_law_fault) [] [] (He.fAd K ("_law_fault", none)) fd
  d_law_bad_conditions : ∃ fd, FunD K "_law_bad_conditions" "_law_bad_conditions" (defArgs s_law_bad_conditions) (defBody s_law_bad_conditions) (defScope s_law_bad_conditions) [] [] (He.fAd K ("_law_bad_conditions", none)) fd
  d_law_bad_moves : ∃ fd, FunD K "_law_bad_moves" "_law_bad_moves" (defArgs s_law_bad_moves) (defBody s_law_bad_moves) (defScope s_law_bad_moves) [] [] (He.fAd K ("_law_bad_moves", none)) fd
  d_law_bad_goals : ∃ fd, FunD K "_law_bad_goals" "_law_bad_goals" (defArgs s_law_bad_goals) (defBody s_law_bad_goals) (defScope s_law_bad_goals) [] [] (He.fAd K ("_law_bad_goals", none)) fd
  d_law_faults_right : ∃ fd, FunD K "_law_faults_right" "_law_faults_right" (defArgs s_law_faults_right) (defBody s_law_faults_right) (defScope s_law_faults_right) [] [] (He.fAd K ("_law_faults_right", none)) fd
  d_law_told_book : ∃ fd, FunD K "_law_told_book" "_law_told_book" (defArgs s_law_told_book) (defBody s_law_told_book) (defScope s_law_told_book) [] [] (He.fAd K ("_law_told_book", none)) fd
  d_Move___eq__ : ∃ fd, FunD K "__eq__" "Move.__eq__" (defArgs s_Move___eq__) (defBody s_Move___eq__) (defScope s_Move___eq__) [] [] (He.fAd K ("Move", some "__eq__")) fd
  d_Goal___eq__ : ∃ fd, FunD K "__eq__" "Goal.__eq__" (defArgs s_Goal___eq__) (defBody s_Goal___eq__) (defScope s_Goal___eq__) [] [] (He.fAd K ("Goal", some "__eq__")) fd
  d_Book___eq__ : ∃ fd, FunD K "__eq__" "Book.__eq__" (defArgs s_Book___eq__) (defBody s_Book___eq__) (defScope s_Book___eq__) [] [] (He.fAd K ("Book", some "__eq__")) fd
  d_law : ∃ fd, FunD K "law" "law" (defArgs s_law) (defBody s_law) (defScope s_law) [] [] (He.fAd K ("law", none)) fd
  l_law_faults_right : ∃ cl Pt, (∀ fd, FunD K "_law_faults_right" "_law_faults_right" (defArgs s_law_faults_right) (defBody s_law_faults_right) (defScope s_law_faults_right) [] [] (He.fAd K ("_law_faults_right", none)) fd → fd.code = .ref cl) ∧ LamX.TabB base mg cl Pt ∧ (Pt, ("_law_faults_right" : Str) ++ ".<locals>." ++ "<lambda>") ∈ Tb.T ∧ ∀ p ∈ Tb.T, p.1 = Pt → p.2 = ("_law_faults_right" : Str) ++ ".<locals>." ++ "<lambda>"
  xf_BadBook_index : ∀ C, mg "BadBook" = some (.ref C) → XfC K C ∧ PySem.W.findIn K (.ref C) "index" = some none
  xf_BadBook_what : ∀ C, mg "BadBook" = some (.ref C) → XfC K C ∧ PySem.W.findIn K (.ref C) "what" = some none
  exm : ∀ y x b, tE y x = some b → ∀ C D, mg x = some (.ref C) → mg y = some (.ref D) → PySem.W.exmOne K (.ref C) (.ref D) = some b
  isi : ∀ t u b, tbI t u = some b → ∀ tv uv, TagM mg t tv → TagM mg u uv → PySem.W.kitOne K tv uv = some b
  seen : ∀ c ∈ csI, ∀ C, mg c = some (.ref C) → SeenCls K C
  kd : ∀ x ks, tbK.lookup x = some ks → ∃ (d : Addr) (es : Array DictEntry) (n : Nat), mg x = some (.ref d) ∧ KDict K w d es n ∧ ∀ z, ∃ r, PySem.W.nsIn K d z = some r ∧ r.isSome = ks.contains z
variable {base : Heap} {K : PySem.W.Frag} {P : Program} {mg : Str → Option Value} {w : World}
theorem tE_ok {X : Cx} (fx : Fx X.w X.K X.mg X.base) (y : Str) {D : Addr} (hy : X.mg y = some (.ref D)) : TestOk X (tE y) (.ref D) := fun x b h C hC => fx.exm y x b h C D hC hy
theorem isi_of {X : Cx} (fx : Fx X.w X.K X.mg X.base) : IsiOk X tbI := fun t u b h tv uv h1 h2 => fx.isi t u b h tv uv (by cases t <;> exact h1) (by cases u <;> exact h2)
theorem kd_of {X : Cx} (fx : Fx X.w X.K X.mg X.base) : ∀ x ks, tbK.lookup x = some ks → KdOk X x ks := fun x ks h => ⟨fx.kd x ks h⟩
def b_law_pen : M Fl := (sSeq (sSet 1 (dC (.int 0)))
    (sSeq (sFor (iSeq (dName 0)) (gSet 2) (sSeq (sSet 1 (dOp2 gMod (dPrim (g1 gInt) (dCons (dOp2 gAdd (dOp2 gMul (dName 1) (dC (.int 43))) (dName 2)) dNil)) (dC (.int 1000000007))))
    dNx))
    (sSeq (sRet (posOf 0 [false]) (dDict [(.inr "cells"), (.inr "at"), (.inr "digits"), (.inr "count"), (.inr "fold")] (dCons (dPrim (g1 gList) (dCons (dName 0) dNil)) (dCons (dC (.int 0)) (dCons (dC (.int 0)) (dCons (dC (.int 0)) (dCons (dName 1) dNil)))))))
    dNx)))
def d_law_pen : List D → OF := fden b_law_pen 3 [false]
theorem sc_law_pen : FnScope ["_law_script", "_law_fold", "_law_cell"] ["_law_script"] (defScope s_law_pen) := ⟨rfl, rfl, rfl, by decide +kernel, rfl, by decide +kernel, by decide +kernel⟩
theorem a_law_pen (fx : Fx w K mg base) : Ga P w K mg base (He.fAd K ("_law_pen", none)) 1 1 [false] d_law_pen := by
  obtain ⟨fd, Fn⟩ := fx.d_law_pen
  have Sc := sc_law_pen
  refine ga_d (k := 0) (ms := [false]) (g := b_law_pen) Fn Sc (Fn.bindsN fun _ _ _ _ _ _ us hl => match us, hl with | [_], _ => rfl) (by decide) fun cdv A outer s H E hcd hr => ?_
  exact (dss_cons (ds_set (i := 1) do_int)
    (dss_cons (ds_for (passes_of rfl) (di_seq (do_name 0)) (dg_name (i := 2)) (dss_cons (ds_set (i := 1) (do_op ok_mod (do_ty ok_int rfl fx.m_int (by decide +kernel) (dos_cons (do_op ok_add (do_op ok_mul (do_name 1) do_int) (do_name 2)) dos_nil)) do_int))
    dss_nil))
    (dss_cons (ds_ret (do_dict (dps_cons (k := (.inr "cells")) pe_str (do_ty ok_list rfl fx.m_list (by decide +kernel) (dos_cons (do_name 0) dos_nil)) (dps_cons (k := (.inr "at")) pe_str do_int (dps_cons (k := (.inr "digits")) pe_str do_int (dps_cons (k := (.inr "count")) pe_str do_int (dps_cons (k := (.inr "fold")) pe_str (do_name 1) dps_nil)))))))
    dss_nil)))
theorem g_law_pen (fx : Fx w K mg base) : Gf P w K mg base "_law_pen" 1 1 [false] d_law_pen := by
  obtain ⟨fd, Fn⟩ := fx.d_law_pen
  exact (a_law_pen fx).gf fx.f_law_pen Fn.kp
def b_law_draw : M Fl := (sSeq (sSub 0 (dOp2 gAdd (dOp2 gIx (dName 0) (dC (.str "count"))) (dC (.int 1))) (dC (.str "count")))
    (sSeq (sIf (dAnd (dBl (dOp2 gEq (dOp2 gIx (dName 0) (dC (.str "digits"))) (dC (.int 0)))) (dBl (dOp2 gLt (dOp2 gIx (dName 0) (dC (.str "at"))) (dPrim (g1 gLen) (dCons (dOp2 gIx (dName 0) (dC (.str "cells"))) dNil))))) (sSeq (sSet 2 (dOp2 gIx (dOp2 gIx (dName 0) (dC (.str "cells"))) (dOp2 gIx (dName 0) (dC (.str "at")))))
    (sSeq (sSub 0 (dOp2 gAdd (dOp2 gIx (dName 0) (dC (.str "at"))) (dC (.int 1))) (dC (.str "at")))
    (sSeq (sIf (dBl (dOp2 gGe (dName 2) (dOp2 gPow (dC (.int 10)) (dC (.int 18))))) (sSeq (sSub 0 (dOp2 gSub (dName 2) (dOp2 gPow (dC (.int 10)) (dC (.int 18)))) (dC (.str "digits")))
    dNx) (sSeq (sSub 0 (dOp2 gMod (dPrim (g1 gInt) (dCons (dOp2 gAdd (dOp2 gMul (dOp2 gIx (dName 0) (dC (.str "fold"))) (dC (.int 1664525))) (dName 2)) dNil)) (dC (.int 2147483587))) (dC (.str "fold")))
    dNx))
    dNx))) dNx)
    (sSeq (sIf (dBl (dOp2 gGt (dOp2 gIx (dName 0) (dC (.str "digits"))) (dC (.int 0)))) (sSeq (sSet 3 (dOp2 gMod (dPrim (g1 gInt) (dCons (dOp2 gIx (dName 0) (dC (.str "digits"))) dNil)) (dName 1)))
    (sSeq (sSub 0 (dOp2 gDiv (dOp2 gIx (dName 0) (dC (.str "digits"))) (dName 1)) (dC (.str "digits")))
    (sSeq (sRet (posOf 0 [true, false]) (dName 3))
    dNx))) dNx)
    (sSeq (sSet 4 (dOp2 gAdd (dOp2 gAdd (dOp2 gIx (dName 0) (dC (.str "fold"))) (dOp2 gMul (dOp2 gIx (dName 0) (dC (.str "count"))) (dC (.int 7919)))) (dC (.int 41))))
    (sSeq (sRet (posOf 0 [true, false]) (dOp2 gMod (dOp2 gDiv (dPrim (g1 gInt) (dCons (dOp2 gMod (dOp2 gPow (dName 4) (dC (.int 17))) (dC (.int 2305843009213693951))) dNil)) (dC (.int 128))) (dName 1)))
    dNx)))))
def d_law_draw : List D → OF := fden b_law_draw 5 [true, false]
theorem sc_law_draw : FnScope ["_law_pen_here", "_law_many", "_law_cell", "_law_digit", "_law_mixed"] ["_law_pen_here", "_law_many"] (defScope s_law_draw) := ⟨rfl, rfl, rfl, by decide +kernel, rfl, by decide +kernel, by decide +kernel⟩
theorem a_law_draw (fx : Fx w K mg base) : Ga P w K mg base (He.fAd K ("_law_draw", none)) 1 2 [true, false] d_law_draw := by
  obtain ⟨fd, Fn⟩ := fx.d_law_draw
  have Sc := sc_law_draw
  refine ga_d (k := 0) (ms := [true, false]) (g := b_law_draw) Fn Sc (Fn.bindsN fun _ _ _ _ _ _ us hl => match us, hl with | [_, _], _ => rfl) (by decide) fun cdv A outer s H E hcd hr => ?_
  exact (dss_cons (ds_sub (j := 0) (hu1 hr) (do_op ok_add (do_ix (ok_ix (hu1 hr)) (do_name 0) do_str) do_int) do_str)
    (dss_cons (ds_if (dt_w (dw_and (dt_cmp (ok_eq (hu64 hr)) (do_ix (ok_ix (hu1 hr)) (do_name 0) do_str) do_int (by rfl)) (dw_and1 (dt_cmp ok_lt (do_ix (ok_ix (hu1 hr)) (do_name 0) do_str) (do_bi ok_len rfl fx.m_len (by decide +kernel) (dos_cons (do_ix (ok_ix (hu1 hr)) (do_name 0) do_str) dos_nil)) (by rfl))))) (dss_cons (ds_set (i := 2) (do_ix (ok_ix (hu1 hr)) (do_ix (ok_ix (hu1 hr)) (do_name 0) do_str) (do_ix (ok_ix (hu1 hr)) (do_name 0) do_str)))
    (dss_cons (ds_sub (j := 0) (hu1 hr) (do_op ok_add (do_ix (ok_ix (hu1 hr)) (do_name 0) do_str) do_int) do_str)
    (dss_cons (ds_if (dt_cmp ok_ge (do_name 2) (do_op ok_pow do_int do_int) (by rfl)) (dss_cons (ds_sub (j := 0) (hu1 hr) (do_op ok_sub (do_name 2) (do_op ok_pow do_int do_int)) do_str)
    dss_nil) (dss_cons (ds_sub (j := 0) (hu1 hr) (do_op ok_mod (do_ty ok_int rfl fx.m_int (by decide +kernel) (dos_cons (do_op ok_add (do_op ok_mul (do_ix (ok_ix (hu1 hr)) (do_name 0) do_str) do_int) (do_name 2)) dos_nil)) do_int) do_str)
    dss_nil))
    dss_nil))) dss_nil)
    (dss_cons (ds_if (dt_cmp ok_gt (do_ix (ok_ix (hu1 hr)) (do_name 0) do_str) do_int (by rfl)) (dss_cons (ds_set (i := 3) (do_op ok_mod (do_ty ok_int rfl fx.m_int (by decide +kernel) (dos_cons (do_ix (ok_ix (hu1 hr)) (do_name 0) do_str) dos_nil)) (do_name 1)))
    (dss_cons (ds_sub (j := 0) (hu1 hr) (do_op ok_div (do_ix (ok_ix (hu1 hr)) (do_name 0) do_str) (do_name 1)) do_str)
    (dss_cons (ds_ret (do_name 3))
    dss_nil))) dss_nil)
    (dss_cons (ds_set (i := 4) (do_op ok_add (do_op ok_add (do_ix (ok_ix (hu1 hr)) (do_name 0) do_str) (do_op ok_mul (do_ix (ok_ix (hu1 hr)) (do_name 0) do_str) do_int)) do_int))
    (dss_cons (ds_ret (do_op ok_mod (do_op ok_div (do_ty ok_int rfl fx.m_int (by decide +kernel) (dos_cons (do_op ok_mod (do_op ok_pow (do_name 4) do_int) do_int) dos_nil)) do_int) (do_name 1)))
    dss_nil)))))
theorem g_law_draw (fx : Fx w K mg base) : Gf P w K mg base "_law_draw" 1 2 [true, false] d_law_draw := by
  obtain ⟨fd, Fn⟩ := fx.d_law_draw
  exact (a_law_draw fx).gf fx.f_law_draw Fn.kp
def b_law_pick : M Fl := (sSeq (sRet (posOf 0 [true, false]) (dOp2 gIx (dName 1) (dCall [true, false] d_law_draw (dCons (dName 0) (dCons (dPrim (g1 gLen) (dCons (dName 1) dNil)) dNil)))))
    dNx)
def d_law_pick : List D → OF := fden b_law_pick 2 [true, false]
theorem sc_law_pick : FnScope ["_law_pen_here", "_law_some"] ["_law_pen_here", "_law_some"] (defScope s_law_pick) := ⟨rfl, rfl, rfl, by decide +kernel, rfl, by decide +kernel, by decide +kernel⟩
theorem a_law_pick (fx : Fx w K mg base) : Ga P w K mg base (He.fAd K ("_law_pick", none)) 2 2 [true, false] d_law_pick := by
  obtain ⟨fd, Fn⟩ := fx.d_law_pick
  have Sc := sc_law_pick
  refine ga_d (k := 1) (ms := [true, false]) (g := b_law_pick) Fn Sc (Fn.bindsN fun _ _ _ _ _ _ us hl => match us, hl with | [_, _], _ => rfl) (by decide) fun cdv A outer s H E hcd hr => ?_
  exact (dss_cons (ds_ret (do_ix (ok_ix (hu1 hr)) (do_name 1) (do_call (g_law_draw fx) (hr.mono (by omega)) rfl (dos_cons (do_name 0) (dos_cons (do_bi ok_len rfl fx.m_len (by decide +kernel) (dos_cons (do_name 1) dos_nil)) dos_nil)))))
    dss_nil)
theorem g_law_pick (fx : Fx w K mg base) : Gf P w K mg base "_law_pick" 2 2 [true, false] d_law_pick := by
  obtain ⟨fd, Fn⟩ := fx.d_law_pick
  exact (a_law_pick fx).gf fx.f_law_pick Fn.kp
def b_law_taking_book : M Fl := (sSeq (sSet 1 (dOp2 gAdd (dLc ([("_law_take", 3)].map (·.2)) (iSeq (dLst (dCons (dC (.int 1)) (dCons (dC (.int 2)) (dCons (dC (.int 3)) dNil))))) (gSet 3) (dBl (dOp2 gEq (dCall [true, false] d_law_draw (dCons (dName 0) (dCons (dC (.int 2)) dNil))) (dC (.int 0)))) (dName 3)) (dLst (dCons (dCall [true, false] d_law_pick (dCons (dName 0) (dCons (dLst (dCons (dC (.int 1)) (dCons (dC (.int 2)) dNil))) dNil))) dNil))))
    (sSeq (sSet 2 (dLst dNil))
    (sSeq (sFor (iSeq (dName 1)) (gSet 3) (sSeq (sFor (iRg (dCons (dC (.int 2)) dNil)) (gSet 4) (sSeq (sApp 2 (dTup (dCons (dName 4) (dCons (dTup (dCons (dTup (dCons (dC (.str "least")) (dCons (dName 3) dNil))) dNil)) (dCons (dOp1 gNeg (dName 3)) (dCons (dOp2 gSub (dC (.int 1)) (dName 4)) dNil))))))
    dNx))
    dNx))
    (sSeq (sIf (dBl (dOp2 gEq (dCall [true, false] d_law_draw (dCons (dName 0) (dCons (dC (.int 2)) dNil))) (dC (.int 0)))) (sSeq (sApp 2 (dTup (dCons (dCall [true, false] d_law_draw (dCons (dName 0) (dCons (dC (.int 2)) dNil))) (dCons (dCall [true, false] d_law_pick (dCons (dName 0) (dCons (dLst (dCons (dTup dNil) (dCons (dTup (dCons (dTup (dCons (dC (.str "rest")) (dCons (dC (.int 2)) (dCons (dC (.int 1)) dNil)))) dNil)) dNil))) dNil))) (dCons (dC (.int 1)) (dCons (dCall [true, false] d_law_draw (dCons (dName 0) (dCons (dC (.int 2)) dNil))) dNil))))))
    dNx) dNx)
    (sSeq (sRet (posOf 0 [true]) (dDict [(.inr "sides"), (.inr "moves"), (.inr "goals")] (dCons (dLst (dCons (dC (.int 0)) (dCons (dC (.int 1)) dNil))) (dCons (dName 2) (dCons (dLst dNil) dNil)))))
    dNx)))))
def d_law_taking_book : List D → OF := fden b_law_taking_book 5 [true]
theorem sc_law_taking_book : FnScope ["_law_pen_here", "_law_takes", "_law_moves", "_law_take", "_law_place"] ["_law_pen_here"] (defScope s_law_taking_book) := ⟨rfl, rfl, rfl, by decide +kernel, rfl, by decide +kernel, by decide +kernel⟩
theorem a_law_taking_book (fx : Fx w K mg base) : Ga P w K mg base (He.fAd K ("_law_taking_book", none)) 3 1 [true] d_law_taking_book := by
  obtain ⟨fd, Fn⟩ := fx.d_law_taking_book
  have Sc := sc_law_taking_book
  refine ga_d (k := 2) (ms := [true]) (g := b_law_taking_book) Fn Sc (Fn.bindsN fun _ _ _ _ _ _ us hl => match us, hl with | [_], _ => rfl) (by decide) fun cdv A outer s H E hcd hr => ?_
  exact (dss_cons (ds_set (i := 1) (do_op ok_add (do_lc (own := [("_law_take", 3)]) (di_seq (do_lst (dos_cons do_int (dos_cons do_int (dos_cons do_int dos_nil))))) (fun s H C cl fp => (dg_name (i := 3) (show (3 : Nat) ∉ others 5 [3] from by decide))) (fun s H C cl fp => (dts_one (dt_cmp (ok_eq (hu64 hr)) (do_call (g_law_draw fx) (hr.mono (by omega)) rfl (dos_cons (do_name 0) (dos_cons do_int dos_nil))) do_int (by rfl)))) (fun s H C cl fp => (do_name 3)) (blkOk_by (show blkC ["_law_pen_here", "_law_takes", "_law_moves", "_law_take", "_law_place"] (defScope s_law_taking_book) _ [("_law_take", 3)] = true from by decide +kernel))) (do_lst (dos_cons (do_call (g_law_pick fx) (hr.mono (by omega)) rfl (dos_cons (do_name 0) (dos_cons (do_lst (dos_cons do_int (dos_cons do_int dos_nil))) dos_nil))) dos_nil))))
    (dss_cons (ds_set (i := 2) (do_lst dos_nil))
    (dss_cons (ds_for (passes_of rfl) (di_seq (do_name 1)) (dg_name (i := 3)) (dss_cons (ds_for (passes_of rfl) (di_rg1 (dos_cons do_int dos_nil) rfl fx.m_range) (dg_name (i := 4)) (dss_cons (ds_app (j := 2) (do_tup (dos_cons (do_name 4) (dos_cons (do_tup (dos_cons (do_tup (dos_cons do_str (dos_cons (do_name 3) dos_nil))) dos_nil)) (dos_cons (do_un ok_neg (do_name 3)) (dos_cons (do_op ok_sub do_int (do_name 4)) dos_nil))))))
    dss_nil))
    dss_nil))
    (dss_cons (ds_if (dt_cmp (ok_eq (hu64 hr)) (do_call (g_law_draw fx) (hr.mono (by omega)) rfl (dos_cons (do_name 0) (dos_cons do_int dos_nil))) do_int (by rfl)) (dss_cons (ds_app (j := 2) (do_tup (dos_cons (do_call (g_law_draw fx) (hr.mono (by omega)) rfl (dos_cons (do_name 0) (dos_cons do_int dos_nil))) (dos_cons (do_call (g_law_pick fx) (hr.mono (by omega)) rfl (dos_cons (do_name 0) (dos_cons (do_lst (dos_cons (do_tup dos_nil) (dos_cons (do_tup (dos_cons (do_tup (dos_cons do_str (dos_cons do_int (dos_cons do_int dos_nil)))) dos_nil)) dos_nil))) dos_nil))) (dos_cons do_int (dos_cons (do_call (g_law_draw fx) (hr.mono (by omega)) rfl (dos_cons (do_name 0) (dos_cons do_int dos_nil))) dos_nil))))))
    dss_nil) dss_nil)
    (dss_cons (ds_ret (do_dict (dps_cons (k := (.inr "sides")) pe_str (do_lst (dos_cons do_int (dos_cons do_int dos_nil))) (dps_cons (k := (.inr "moves")) pe_str (do_name 2) (dps_cons (k := (.inr "goals")) pe_str (do_lst dos_nil) dps_nil)))))
    dss_nil)))))
theorem g_law_taking_book (fx : Fx w K mg base) : Gf P w K mg base "_law_taking_book" 3 1 [true] d_law_taking_book := by
  obtain ⟨fd, Fn⟩ := fx.d_law_taking_book
  exact (a_law_taking_book fx).gf fx.f_law_taking_book Fn.kp
def b_law_some_condition : M Fl := (sSeq (sSet 3 (dCall [true, false] d_law_pick (dCons (dName 0) (dCons (dLst (dCons (dC (.str "least")) (dCons (dC (.str "most")) (dCons (dC (.str "is")) (dCons (dC (.str "not")) (dCons (dC (.str "rest")) (dCons (dC (.str "least")) (dCons (dC (.str "most")) dNil)))))))) dNil))))
    (sSeq (sIf (dAnd (dBl (dOp2 gEq (dName 3) (dC (.str "rest")))) (dBl (dOp2 gGt (dName 2) (dC (.int 1))))) (sSeq (sRet (posOf 0 [true, false, false]) (dTup (dCons (dC (.str "rest")) (dCons (dName 2) (dCons (dCall [true, false] d_law_draw (dCons (dName 0) (dCons (dName 2) dNil))) dNil)))))
    dNx) dNx)
    (sSeq (sRet (posOf 0 [true, false, false]) (dTup (dCons (dIf (dBl (dOp2 gNe (dName 3) (dC (.str "rest")))) (dName 3) (dC (.str "least"))) (dCons (dOp2 gSub (dCall [true, false] d_law_draw (dCons (dName 0) (dCons (dOp2 gAdd (dOp2 gMul (dC (.int 2)) (dName 1)) (dC (.int 1))) dNil))) (dName 1)) dNil))))
    dNx)))
def d_law_some_condition : List D → OF := fden b_law_some_condition 4 [true, false, false]
theorem sc_law_some_condition : FnScope ["_law_pen_here", "_law_wide", "_law_modulus", "_law_word"] ["_law_pen_here", "_law_wide", "_law_modulus"] (defScope s_law_some_condition) := ⟨rfl, rfl, rfl, by decide +kernel, rfl, by decide +kernel, by decide +kernel⟩
theorem a_law_some_condition (fx : Fx w K mg base) : Ga P w K mg base (He.fAd K ("_law_some_condition", none)) 3 3 [true, false, false] d_law_some_condition := by
  obtain ⟨fd, Fn⟩ := fx.d_law_some_condition
  have Sc := sc_law_some_condition
  refine ga_d (k := 2) (ms := [true, false, false]) (g := b_law_some_condition) Fn Sc (Fn.bindsN fun _ _ _ _ _ _ us hl => match us, hl with | [_, _, _], _ => rfl) (by decide) fun cdv A outer s H E hcd hr => ?_
  exact (dss_cons (ds_set (i := 3) (do_call (g_law_pick fx) (hr.mono (by omega)) rfl (dos_cons (do_name 0) (dos_cons (do_lst (dos_cons do_str (dos_cons do_str (dos_cons do_str (dos_cons do_str (dos_cons do_str (dos_cons do_str (dos_cons do_str dos_nil)))))))) dos_nil))))
    (dss_cons (ds_if (dt_w (dw_and (dt_cmp (ok_eq (hu64 hr)) (do_name 3) do_str (by rfl)) (dw_and1 (dt_cmp ok_gt (do_name 2) do_int (by rfl))))) (dss_cons (ds_ret (do_tup (dos_cons do_str (dos_cons (do_name 2) (dos_cons (do_call (g_law_draw fx) (hr.mono (by omega)) rfl (dos_cons (do_name 0) (dos_cons (do_name 2) dos_nil))) dos_nil)))))
    dss_nil) dss_nil)
    (dss_cons (ds_ret (do_tup (dos_cons (do_if (dt_cmp (ok_ne (hu64 hr)) (do_name 3) do_str (by rfl)) (do_name 3) do_str) (dos_cons (do_op ok_sub (do_call (g_law_draw fx) (hr.mono (by omega)) rfl (dos_cons (do_name 0) (dos_cons (do_op ok_add (do_op ok_mul do_int (do_name 1)) do_int) dos_nil))) (do_name 1)) dos_nil))))
    dss_nil)))
theorem g_law_some_condition (fx : Fx w K mg base) : Gf P w K mg base "_law_some_condition" 3 3 [true, false, false] d_law_some_condition := by
  obtain ⟨fd, Fn⟩ := fx.d_law_some_condition
  exact (a_law_some_condition fx).gf fx.f_law_some_condition Fn.kp
def b_law_some_conditions : M Fl := (sSeq (sSet 3 (dCall [true, false] d_law_pick (dCons (dName 0) (dCons (dLst (dCons (dC (.int 0)) (dCons (dC (.int 0)) (dCons (dC (.int 0)) (dCons (dC (.int 1)) (dCons (dC (.int 1)) (dCons (dC (.int 2)) dNil))))))) dNil))))
    (sSeq (sRet (posOf 0 [true, false, false]) (dPrim (g1 gTuple) (dCons (dLc ([("_law_k", 4)].map (·.2)) (iRg (dCons (dName 3) dNil)) (gSet 4) tYesD (dCall [true, false, false] d_law_some_condition (dCons (dName 0) (dCons (dName 1) (dCons (dName 2) dNil))))) dNil)))
    dNx))
def d_law_some_conditions : List D → OF := fden b_law_some_conditions 5 [true, false, false]
theorem sc_law_some_conditions : FnScope ["_law_pen_here", "_law_wide", "_law_modulus", "_law_many", "_law_k"] ["_law_pen_here", "_law_wide", "_law_modulus"] (defScope s_law_some_conditions) := ⟨rfl, rfl, rfl, by decide +kernel, rfl, by decide +kernel, by decide +kernel⟩
theorem a_law_some_conditions (fx : Fx w K mg base) : Ga P w K mg base (He.fAd K ("_law_some_conditions", none)) 4 3 [true, false, false] d_law_some_conditions := by
  obtain ⟨fd, Fn⟩ := fx.d_law_some_conditions
  have Sc := sc_law_some_conditions
  refine ga_d (k := 3) (ms := [true, false, false]) (g := b_law_some_conditions) Fn Sc (Fn.bindsN fun _ _ _ _ _ _ us hl => match us, hl with | [_, _, _], _ => rfl) (by decide) fun cdv A outer s H E hcd hr => ?_
  exact (dss_cons (ds_set (i := 3) (do_call (g_law_pick fx) (hr.mono (by omega)) rfl (dos_cons (do_name 0) (dos_cons (do_lst (dos_cons do_int (dos_cons do_int (dos_cons do_int (dos_cons do_int (dos_cons do_int (dos_cons do_int dos_nil))))))) dos_nil))))
    (dss_cons (ds_ret (do_ty ok_tuple rfl fx.m_tuple (by decide +kernel) (dos_cons (do_lc (own := [("_law_k", 4)]) (di_rg1 (dos_cons (do_name 3) dos_nil) rfl fx.m_range) (fun s H C cl fp => (dg_name (i := 4) (show (4 : Nat) ∉ others 5 [4] from by decide))) (fun s H C cl fp => dts_nil) (fun s H C cl fp => (do_call (g_law_some_condition fx) (hr.mono (by omega)) rfl (dos_cons (do_name 0) (dos_cons (do_name 1) (dos_cons (do_name 2) dos_nil))))) (blkOk_by (show blkC ["_law_pen_here", "_law_wide", "_law_modulus", "_law_many", "_law_k"] (defScope s_law_some_conditions) _ [("_law_k", 4)] = true from by decide +kernel))) dos_nil)))
    dss_nil))
theorem g_law_some_conditions (fx : Fx w K mg base) : Gf P w K mg base "_law_some_conditions" 4 3 [true, false, false] d_law_some_conditions := by
  obtain ⟨fd, Fn⟩ := fx.d_law_some_conditions
  exact (a_law_some_conditions fx).gf fx.f_law_some_conditions Fn.kp
def b_law_some_book : M Fl := (sSeq (sPar [1, 2] (dCons (dOp2 gAdd (dC (.int 1)) (dCall [true, false] d_law_draw (dCons (dName 0) (dCons (dC (.int 4)) dNil)))) (dCons (dCall [true, false] d_law_draw (dCons (dName 0) (dCons (dC (.int 4)) dNil))) dNil)))
    (sSeq (sSet 3 (dCall [true, false] d_law_pick (dCons (dName 0) (dCons (dLst (dCons (dC (.int 1)) (dCons (dC (.int 1)) (dCons (dC (.int 1)) (dCons (dC (.int 2)) (dCons (dIf (dBl (dOp2 gLt (dName 1) (dC (.int 4)))) (dC (.int 3)) (dC (.int 2))) dNil)))))) dNil))))
    (sSeq (sSet 4 (dCall [true, false] d_law_pick (dCons (dName 0) (dCons (dLst (dCons (dLst (dCons (dOp1 gNeg (dC (.int 1))) (dCons (dC (.int 0)) (dCons (dC (.int 1)) dNil)))) (dCons (dLst (dCons (dOp1 gNeg (dC (.int 1))) (dCons (dC (.int 1)) (dCons (dOp1 gNeg (dC (.int 1))) dNil)))) (dCons (dLst (dCons (dOp1 gNeg (dC (.int 1))) (dCons (dC (.int 1)) (dCons (dC (.int 0)) (dCons (dOp1 gNeg (dC (.int 1))) dNil))))) (dCons (dIf (dBl (dOp2 gLt (dName 1) (dC (.int 3)))) (dLst (dCons (dOp1 gNeg (dC (.int 2))) (dCons (dC (.int 1)) (dCons (dOp1 gNeg (dC (.int 1))) dNil)))) (dLst (dCons (dOp1 gNeg (dC (.int 1))) (dCons (dC (.int 1)) dNil)))) dNil))))) dNil))))
    (sSeq (sSet 5 (dLc ([("_law_place", 9)].map (·.2)) (iRg (dCons (dName 1) dNil)) (gSet 9) tYesD (dCall [true, false] d_law_draw (dCons (dName 0) (dCons (dC (.int 2)) dNil)))))
    (sSeq (sPar [6, 7] (dCons (dLst dNil) (dCons (dLst dNil) dNil)))
    (sSeq (sFor (iRg (dCons (dOp2 gAdd (dName 1) (dCall [true, false] d_law_draw (dCons (dName 0) (dCons (dOp2 gAdd (dOp2 gMul (dC (.int 2)) (dName 1)) (dC (.int 2))) dNil)))) dNil)) (gSet 8) (sSeq (sSet 9 (dIf (dBl (dOp2 gLt (dName 8) (dName 1))) (dName 8) (dCall [true, false] d_law_draw (dCons (dName 0) (dCons (dName 1) dNil)))))
    (sSeq (sSet 10 (dIf (dBl (dOp2 gEq (dCall [true, false] d_law_draw (dCons (dName 0) (dCons (dC (.int 2)) dNil))) (dC (.int 0)))) (dCall [true, false, false] d_law_some_conditions (dCons (dName 0) (dCons (dName 2) (dCons (dName 3) dNil)))) (dTup dNil)))
    (sSeq (sApp 6 (dTup (dCons (dName 9) (dCons (dName 10) (dCons (dCall [true, false] d_law_pick (dCons (dName 0) (dCons (dName 4) dNil))) (dCons (dCall [true, false] d_law_draw (dCons (dName 0) (dCons (dName 1) dNil))) dNil))))))
    dNx))))
    (sSeq (sFor (iRg (dCons (dCall [true, false] d_law_pick (dCons (dName 0) (dCons (dLst (dCons (dC (.int 0)) (dCons (dC (.int 1)) (dCons (dC (.int 1)) (dCons (dC (.int 2)) dNil))))) dNil))) dNil)) (gSet 8) (sSeq (sSet 9 (dCall [true, false] d_law_draw (dCons (dName 0) (dCons (dName 1) dNil))))
    (sSeq (sApp 7 (dTup (dCons (dName 9) (dCons (dOp2 gAdd (dCall [true, false, false] d_law_some_conditions (dCons (dName 0) (dCons (dName 2) (dCons (dName 3) dNil)))) (dCall [true, false] d_law_pick (dCons (dName 0) (dCons (dLst (dCons (dTup dNil) (dCons (dTup (dCons (dTup (dCons (dC (.str "is")) (dCons (dC (.int 0)) dNil))) dNil)) dNil))) dNil)))) dNil))))
    dNx)))
    (sSeq (sRet (posOf 0 [true]) (dDict [(.inr "sides"), (.inr "moves"), (.inr "goals")] (dCons (dName 5) (dCons (dName 6) (dCons (dName 7) dNil)))))
    dNx))))))))
def d_law_some_book : List D → OF := fden b_law_some_book 11 [true]
theorem sc_law_some_book : FnScope ["_law_pen_here", "_law_places", "_law_wide", "_law_modulus", "_law_shifts", "_law_sides", "_law_moves", "_law_goals", "_law_lap", "_law_place", "_law_conditions"] ["_law_pen_here"] (defScope s_law_some_book) := ⟨rfl, rfl, rfl, by decide +kernel, rfl, by decide +kernel, by decide +kernel⟩
theorem a_law_some_book (fx : Fx w K mg base) : Ga P w K mg base (He.fAd K ("_law_some_book", none)) 5 1 [true] d_law_some_book := by
  obtain ⟨fd, Fn⟩ := fx.d_law_some_book
  have Sc := sc_law_some_book
  refine ga_d (k := 4) (ms := [true]) (g := b_law_some_book) Fn Sc (Fn.bindsN fun _ _ _ _ _ _ us hl => match us, hl with | [_], _ => rfl) (by decide) fun cdv A outer s H E hcd hr => ?_
  exact (dss_cons (ds_par (i := 1) (j := 2) (dos_cons (do_op ok_add do_int (do_call (g_law_draw fx) (hr.mono (by omega)) rfl (dos_cons (do_name 0) (dos_cons do_int dos_nil)))) (dos_cons (do_call (g_law_draw fx) (hr.mono (by omega)) rfl (dos_cons (do_name 0) (dos_cons do_int dos_nil))) dos_nil)))
    (dss_cons (ds_set (i := 3) (do_call (g_law_pick fx) (hr.mono (by omega)) rfl (dos_cons (do_name 0) (dos_cons (do_lst (dos_cons do_int (dos_cons do_int (dos_cons do_int (dos_cons do_int (dos_cons (do_if (dt_cmp ok_lt (do_name 1) do_int (by rfl)) do_int do_int) dos_nil)))))) dos_nil))))
    (dss_cons (ds_set (i := 4) (do_call (g_law_pick fx) (hr.mono (by omega)) rfl (dos_cons (do_name 0) (dos_cons (do_lst (dos_cons (do_lst (dos_cons (do_un ok_neg do_int) (dos_cons do_int (dos_cons do_int dos_nil)))) (dos_cons (do_lst (dos_cons (do_un ok_neg do_int) (dos_cons do_int (dos_cons (do_un ok_neg do_int) dos_nil)))) (dos_cons (do_lst (dos_cons (do_un ok_neg do_int) (dos_cons do_int (dos_cons do_int (dos_cons (do_un ok_neg do_int) dos_nil))))) (dos_cons (do_if (dt_cmp ok_lt (do_name 1) do_int (by rfl)) (do_lst (dos_cons (do_un ok_neg do_int) (dos_cons do_int (dos_cons (do_un ok_neg do_int) dos_nil)))) (do_lst (dos_cons (do_un ok_neg do_int) (dos_cons do_int dos_nil)))) dos_nil))))) dos_nil))))
    (dss_cons (ds_setLc (own := [("_law_place", 9)]) (di_rg1 (dos_cons (do_name 1) dos_nil) rfl fx.m_range) (fun s H C cl fp => (dg_name (i := 9) (show (9 : Nat) ∉ others 11 [9] from by decide))) (fun s H C cl fp => dts_nil) (fun s H C cl fp => (do_call (g_law_draw fx) (hr.mono (by omega)) rfl (dos_cons (do_name 0) (dos_cons do_int dos_nil)))) (blkOk_by (show blkC ["_law_pen_here", "_law_places", "_law_wide", "_law_modulus", "_law_shifts", "_law_sides", "_law_moves", "_law_goals", "_law_lap", "_law_place", "_law_conditions"] (defScope s_law_some_book) _ [("_law_place", 9)] = true from by decide +kernel)))
    (dss_cons (ds_par (i := 6) (j := 7) (dos_cons (do_lst dos_nil) (dos_cons (do_lst dos_nil) dos_nil)))
    (dss_cons (ds_for (passes_of rfl) (di_rg1 (dos_cons (do_op ok_add (do_name 1) (do_call (g_law_draw fx) (hr.mono (by omega)) rfl (dos_cons (do_name 0) (dos_cons (do_op ok_add (do_op ok_mul do_int (do_name 1)) do_int) dos_nil)))) dos_nil) rfl fx.m_range) (dg_name (i := 8)) (dss_cons (ds_set (i := 9) (do_if (dt_cmp ok_lt (do_name 8) (do_name 1) (by rfl)) (do_name 8) (do_call (g_law_draw fx) (hr.mono (by omega)) rfl (dos_cons (do_name 0) (dos_cons (do_name 1) dos_nil)))))
    (dss_cons (ds_set (i := 10) (do_if (dt_cmp (ok_eq (hu64 hr)) (do_call (g_law_draw fx) (hr.mono (by omega)) rfl (dos_cons (do_name 0) (dos_cons do_int dos_nil))) do_int (by rfl)) (do_call (g_law_some_conditions fx) (hr.mono (by omega)) rfl (dos_cons (do_name 0) (dos_cons (do_name 2) (dos_cons (do_name 3) dos_nil)))) (do_tup dos_nil)))
    (dss_cons (ds_app (j := 6) (do_tup (dos_cons (do_name 9) (dos_cons (do_name 10) (dos_cons (do_call (g_law_pick fx) (hr.mono (by omega)) rfl (dos_cons (do_name 0) (dos_cons (do_name 4) dos_nil))) (dos_cons (do_call (g_law_draw fx) (hr.mono (by omega)) rfl (dos_cons (do_name 0) (dos_cons (do_name 1) dos_nil))) dos_nil))))))
    dss_nil))))
    (dss_cons (ds_for (passes_of rfl) (di_rg1 (dos_cons (do_call (g_law_pick fx) (hr.mono (by omega)) rfl (dos_cons (do_name 0) (dos_cons (do_lst (dos_cons do_int (dos_cons do_int (dos_cons do_int (dos_cons do_int dos_nil))))) dos_nil))) dos_nil) rfl fx.m_range) (dg_name (i := 8)) (dss_cons (ds_set (i := 9) (do_call (g_law_draw fx) (hr.mono (by omega)) rfl (dos_cons (do_name 0) (dos_cons (do_name 1) dos_nil))))
    (dss_cons (ds_app (j := 7) (do_tup (dos_cons (do_name 9) (dos_cons (do_op ok_add (do_call (g_law_some_conditions fx) (hr.mono (by omega)) rfl (dos_cons (do_name 0) (dos_cons (do_name 2) (dos_cons (do_name 3) dos_nil)))) (do_call (g_law_pick fx) (hr.mono (by omega)) rfl (dos_cons (do_name 0) (dos_cons (do_lst (dos_cons (do_tup dos_nil) (dos_cons (do_tup (dos_cons (do_tup (dos_cons do_str (dos_cons do_int dos_nil))) dos_nil)) dos_nil))) dos_nil)))) dos_nil))))
    dss_nil)))
    (dss_cons (ds_ret (do_dict (dps_cons (k := (.inr "sides")) pe_str (do_name 5) (dps_cons (k := (.inr "moves")) pe_str (do_name 6) (dps_cons (k := (.inr "goals")) pe_str (do_name 7) dps_nil)))))
    dss_nil))))))))
theorem g_law_some_book (fx : Fx w K mg base) : Gf P w K mg base "_law_some_book" 5 1 [true] d_law_some_book := by
  obtain ⟨fd, Fn⟩ := fx.d_law_some_book
  exact (a_law_some_book fx).gf fx.f_law_some_book Fn.kp
def b_law_drawn_book : M Fl := (sSeq (sRet (posOf 0 [true]) (dIf (dBl (dOp2 gLt (dCall [true, false] d_law_draw (dCons (dName 0) (dCons (dC (.int 5)) dNil))) (dC (.int 2)))) (dCall [true] d_law_taking_book (dCons (dName 0) dNil)) (dCall [true] d_law_some_book (dCons (dName 0) dNil))))
    dNx)
def d_law_drawn_book : List D → OF := fden b_law_drawn_book 1 [true]
theorem sc_law_drawn_book : FnScope ["_law_pen_here"] ["_law_pen_here"] (defScope s_law_drawn_book) := ⟨rfl, rfl, rfl, by decide +kernel, rfl, by decide +kernel, by decide +kernel⟩
theorem a_law_drawn_book (fx : Fx w K mg base) : Ga P w K mg base (He.fAd K ("_law_drawn_book", none)) 6 1 [true] d_law_drawn_book := by
  obtain ⟨fd, Fn⟩ := fx.d_law_drawn_book
  have Sc := sc_law_drawn_book
  refine ga_d (k := 5) (ms := [true]) (g := b_law_drawn_book) Fn Sc (Fn.bindsN fun _ _ _ _ _ _ us hl => match us, hl with | [_], _ => rfl) (by decide) fun cdv A outer s H E hcd hr => ?_
  exact (dss_cons (ds_ret (do_if (dt_cmp ok_lt (do_call (g_law_draw fx) (hr.mono (by omega)) rfl (dos_cons (do_name 0) (dos_cons do_int dos_nil))) do_int (by rfl)) (do_call (g_law_taking_book fx) (hr.mono (by omega)) rfl (dos_cons (do_name 0) dos_nil)) (do_call (g_law_some_book fx) (hr.mono (by omega)) rfl (dos_cons (do_name 0) dos_nil))))
    dss_nil)
theorem g_law_drawn_book (fx : Fx w K mg base) : Gf P w K mg base "_law_drawn_book" 6 1 [true] d_law_drawn_book := by
  obtain ⟨fd, Fn⟩ := fx.d_law_drawn_book
  exact (a_law_drawn_book fx).gf fx.f_law_drawn_book Fn.kp
def b_is_row : M Fl := (sSeq (sRet (posOf 0 [true]) (dPrim (g2 (gIsA csI tbI)) (dCons (dName 0) (dCons (dTup (dCons (dC (.ty "tuple")) (dCons (dC (.ty "list")) dNil))) dNil))))
    dNx)
def d_is_row : List D → OF := fden b_is_row 1 [true]
theorem sc_is_row : FnScope ["value"] ["value"] (defScope s_is_row) := ⟨rfl, rfl, rfl, by decide +kernel, rfl, by decide +kernel, by decide +kernel⟩
theorem a_is_row (fx : Fx w K mg base) : Ga P w K mg base (He.fAd K ("is_row", none)) 1 1 [true] d_is_row := by
  obtain ⟨fd, Fn⟩ := fx.d_is_row
  have Sc := sc_is_row
  refine ga_d (k := 0) (ms := [true]) (g := b_is_row) Fn Sc (Fn.bindsN fun _ _ _ _ _ _ us hl => match us, hl with | [_], _ => rfl) (by decide) fun cdv A outer s H E hcd hr => ?_
  exact (dss_cons (ds_ret (do_bi (ok_isA (isi_of fx) fx.seen) rfl fx.m_isinstance (by decide +kernel) (dos_cons (do_name 0) (dos_cons (do_tup (dos_cons (do_tyN rfl fx.m_tuple (by decide +kernel)) (dos_cons (do_tyN rfl fx.m_list (by decide +kernel)) dos_nil))) dos_nil))))
    dss_nil)
theorem g_is_row (fx : Fx w K mg base) : Gf P w K mg base "is_row" 1 1 [true] d_is_row := by
  obtain ⟨fd, Fn⟩ := fx.d_is_row
  exact (a_is_row fx).gf fx.f_is_row Fn.kp
theorem sc_BadBook_init : FnScope ["self", "what", "index"] ["self", "what", "index"] (defScope s_BadBook_init) := ⟨rfl, rfl, rfl, by decide +kernel, rfl, by decide +kernel, by decide +kernel⟩
theorem gx_BadBook (fx : Fx w K mg base) : GfX P w K mg base "BadBook" 1 ["what", "index"] := by
  obtain ⟨fd, Fn⟩ := fx.d_BadBook_init
  obtain ⟨T, tI, iC, n0, n1⟩ := fx.x_BadBook
  exact gfx_2 (k := 0) fx.f_BadBook T iC tI fx.f_LeadError fx.b_LeadError (fun_ofD Fn) sc_BadBook_init (Fn.bindsN fun _ _ _ _ _ _ us hl => match us, hl with | [_, _, _], _ => rfl) n0 n1 rfl (fun _ => rfl) rfl (Or.inl rfl) (Or.inl rfl) (Or.inl rfl)
def b_as_tuples (rec : List D → OF) : M Fl := (sSeq (sIf (dTru (dCall [true] d_is_row (dCons (dName 0) dNil))) (sSeq (sRet (posOf 0 [true]) (dPrim (g1 gTuple) (dCons (dLcO ([("item", 1)].map (·.2)) 0 (gSet 1) tYesD (dCall [true] rec (dCons (dName 1) dNil))) dNil)))
    dNx) dNx)
    (sSeq (sRet (posOf 0 [true]) (dName 0))
    dNx))
def r_as_tuples : Nat → List D → OF
  | 0 => fun _ => .st
  | n + 1 => fden (b_as_tuples (r_as_tuples n)) 2 [true]
def d_as_tuples : List D → OF := r_as_tuples 8
theorem sc_as_tuples : FnScope ["value", "item"] ["value"] (defScope s_as_tuples) := ⟨rfl, rfl, rfl, by decide +kernel, rfl, by decide +kernel, by decide +kernel⟩
theorem h_as_tuples (fx : Fx w K mg base) : ∀ n : Nat, Gf P w K mg base "as_tuples" (n + 2) 1 [true] (r_as_tuples n)
  | 0 => by
    obtain ⟨fd, Fn⟩ := fx.d_as_tuples
    exact (ga_st (ps := ["value"]) Fn (Fn.bindsN fun _ _ _ _ _ _ us hl => match us, hl with | [_], _ => rfl)).gf fx.f_as_tuples Fn.kp
  | n + 1 => by
    obtain ⟨fd, Fn⟩ := fx.d_as_tuples
    have Sc := sc_as_tuples
    have ih := h_as_tuples fx n
    refine Ga.gf (Ga.mono (j := (n + 2) + 1) (ga_d (k := n + 2) (ms := [true]) (g := b_as_tuples (r_as_tuples n)) Fn Sc (Fn.bindsN fun _ _ _ _ _ _ us hl => match us, hl with | [_], _ => rfl) (by decide) fun cdv A outer s H E hcd hr => ?_) (by omega)) fx.f_as_tuples Fn.kp
    exact (dss_cons (ds_if (dt_tru (do_call (g_is_row fx) (hr.mono (by omega)) rfl (dos_cons (do_name 0) dos_nil))) (dss_cons (ds_ret (do_ty ok_tuple rfl fx.m_tuple (by decide +kernel) (dos_cons (do_lcO (own := [("item", 1)]) (i := 0) (do_name 0) (fun s H C cl fp => (dg_name (i := 1) (show (1 : Nat) ∉ others 2 [1] from by decide))) (fun s H C cl fp => dts_nil) (fun s H C cl fp => (do_call ih (hr.mono (by omega)) rfl (dos_cons (do_name 1) dos_nil))) (blkOk_by (show blkC ["value", "item"] (defScope s_as_tuples) _ [("item", 1)] = true from by decide +kernel))) dos_nil)))
    dss_nil) dss_nil)
    (dss_cons (ds_ret (do_name 0))
    dss_nil))
theorem g_as_tuples (fx : Fx w K mg base) : Gf P w K mg base "as_tuples" 10 1 [true] d_as_tuples := h_as_tuples fx 8
def b_Move_init : M Fl := (sSeq (sFldS ["Move"] 0 "place" (dName 1))
    (sSeq (sFldS ["Move"] 0 "conditions" (dCall [true] d_as_tuples (dCons (dName 2) dNil)))
    (sSeq (sFldS ["Move"] 0 "shift" (dName 3))
    (sSeq (sFldS ["Move"] 0 "target" (dName 4))
    dNx))))
def d_Move_init : List D → OF := fden b_Move_init 5 [true, false, true, false, false]
theorem sc_Move_init : FnScope ["self", "place", "conditions", "shift", "target"] ["self", "place", "conditions", "shift", "target"] (defScope s_Move_init) := ⟨rfl, rfl, rfl, by decide +kernel, rfl, by decide +kernel, by decide +kernel⟩
theorem a_Move_init (fx : Fx w K mg base) : Ga P w K mg base (He.fAd K ("Move", some "__init__")) 11 5 [true, false, true, false, false] d_Move_init := by
  obtain ⟨fd, Fn⟩ := fx.d_Move_init
  have Sc := sc_Move_init
  refine ga_d (k := 10) (ms := [true, false, true, false, false]) (g := b_Move_init) Fn Sc (Fn.bindsN fun _ _ _ _ _ _ us hl => match us, hl with | [_, _, _, _, _], _ => rfl) (by decide) fun cdv A outer s H E hcd hr => ?_
  exact (dss_cons (ds_fld (cs := ["Move"]) (j := 0) (fld_cons fx.a_Move_place fld_nil) (do_name 1))
    (dss_cons (ds_fld (cs := ["Move"]) (j := 0) (fld_cons fx.a_Move_conditions fld_nil) (do_call (g_as_tuples fx) (hr.mono (by omega)) rfl (dos_cons (do_name 2) dos_nil)))
    (dss_cons (ds_fld (cs := ["Move"]) (j := 0) (fld_cons fx.a_Move_shift fld_nil) (do_name 3))
    (dss_cons (ds_fld (cs := ["Move"]) (j := 0) (fld_cons fx.a_Move_target fld_nil) (do_name 4))
    dss_nil))))
abbrev g_Move_init {P : Program} {w : World} {K : PySem.W.Frag} {mg : Str → Option Value} {base : Heap} (fx : Fx w K mg base) := a_Move_init (P := P) fx
def b_is_int : M Fl := (sSeq (sRet (posOf 0 [false]) (dAndV (dPrim (g2 (gIsA csI tbI)) (dCons (dName 0) (dCons (dC (.ty "int")) dNil))) (dNotV (dPrim (g2 (gIsA csI tbI)) (dCons (dName 0) (dCons (dC (.ty "bool")) dNil))))))
    dNx)
def d_is_int : List D → OF := fden b_is_int 1 [false]
theorem sc_is_int : FnScope ["value"] ["value"] (defScope s_is_int) := ⟨rfl, rfl, rfl, by decide +kernel, rfl, by decide +kernel, by decide +kernel⟩
theorem a_is_int (fx : Fx w K mg base) : Ga P w K mg base (He.fAd K ("is_int", none)) 1 1 [false] d_is_int := by
  obtain ⟨fd, Fn⟩ := fx.d_is_int
  have Sc := sc_is_int
  refine ga_d (k := 0) (ms := [false]) (g := b_is_int) Fn Sc (Fn.bindsN fun _ _ _ _ _ _ us hl => match us, hl with | [_], _ => rfl) (by decide) fun cdv A outer s H E hcd hr => ?_
  exact (dss_cons (ds_ret (do_and (do_bi (ok_isA (isi_of fx) fx.seen) rfl fx.m_isinstance (by decide +kernel) (dos_cons (do_name 0) (dos_cons (do_tyN rfl fx.m_int (by decide +kernel)) dos_nil))) (do_one (do_not (do_bi (ok_isA (isi_of fx) fx.seen) rfl fx.m_isinstance (by decide +kernel) (dos_cons (do_name 0) (dos_cons (do_tyN rfl fx.m_bool (by decide +kernel)) dos_nil)))))))
    dss_nil)
theorem g_is_int (fx : Fx w K mg base) : Gf P w K mg base "is_int" 1 1 [false] d_is_int := by
  obtain ⟨fd, Fn⟩ := fx.d_is_int
  exact (a_is_int fx).gf fx.f_is_int Fn.kp
def b_is_place_of : M Fl := (sSeq (sRet (posOf 0 [false, false]) (dAndV (dCall [false] d_is_int (dCons (dName 0) dNil)) (dChain gLe gLt (dC (.int 0)) (dName 0) (dName 1))))
    dNx)
def d_is_place_of : List D → OF := fden b_is_place_of 2 [false, false]
theorem sc_is_place_of : FnScope ["value", "places"] ["value", "places"] (defScope s_is_place_of) := ⟨rfl, rfl, rfl, by decide +kernel, rfl, by decide +kernel, by decide +kernel⟩
theorem a_is_place_of (fx : Fx w K mg base) : Ga P w K mg base (He.fAd K ("is_place_of", none)) 2 2 [false, false] d_is_place_of := by
  obtain ⟨fd, Fn⟩ := fx.d_is_place_of
  have Sc := sc_is_place_of
  refine ga_d (k := 1) (ms := [false, false]) (g := b_is_place_of) Fn Sc (Fn.bindsN fun _ _ _ _ _ _ us hl => match us, hl with | [_, _], _ => rfl) (by decide) fun cdv A outer s H E hcd hr => ?_
  exact (dss_cons (ds_ret (do_and (do_call (g_is_int fx) (hr.mono (by omega)) rfl (dos_cons (do_name 0) dos_nil)) (do_one (do_chain ok_le ok_lt do_int (do_name 0) (do_name 1)))))
    dss_nil)
theorem g_is_place_of (fx : Fx w K mg base) : Gf P w K mg base "is_place_of" 2 2 [false, false] d_is_place_of := by
  obtain ⟨fd, Fn⟩ := fx.d_is_place_of
  exact (a_is_place_of fx).gf fx.f_is_place_of Fn.kp
def b_is_condition : M Fl := (sSeq (sIf (dOr (dNot (dTru (dCall [true] d_is_row (dCons (dName 0) dNil)))) (dOr (dBl (dOp2 gNotIn (dPrim (g1 gLen) (dCons (dName 0) dNil)) (dLst (dCons (dC (.int 2)) (dCons (dC (.int 3)) dNil))))) (dNot (dTru (dPrim (g2 (gIsA csI tbI)) (dCons (dOp2 gIx (dName 0) (dC (.int 0))) (dCons (dC (.ty "str")) dNil))))))) (sSeq (sRet (posOf 0 [false]) (dC (.bl false)))
    dNx) dNx)
    (sSeq (sIf (dBl (dOp2 gEq (dPrim (g1 gLen) (dCons (dName 0) dNil)) (dC (.int 2)))) (sSeq (sRet (posOf 0 [false]) (dAndV (dOp2 (gInK tbK) (dOp2 gIx (dName 0) (dC (.int 0))) (dC (.fn "OTHER_WORDS"))) (dCall [false] d_is_int (dCons (dOp2 gIx (dName 0) (dC (.int 1))) dNil))))
    dNx) dNx)
    (sSeq (sRet (posOf 0 [false]) (dAndV (dOp2 gEq (dOp2 gIx (dName 0) (dC (.int 0))) (dC (.str "rest"))) (dAndV (dCall [false] d_is_int (dCons (dOp2 gIx (dName 0) (dC (.int 1))) dNil)) (dAndV (dCall [false] d_is_int (dCons (dOp2 gIx (dName 0) (dC (.int 2))) dNil)) (dChain gLe gLt (dC (.int 0)) (dOp2 gIx (dName 0) (dC (.int 2))) (dOp2 gIx (dName 0) (dC (.int 1))))))))
    dNx)))
def d_is_condition : List D → OF := fden b_is_condition 1 [false]
theorem sc_is_condition : FnScope ["value"] ["value"] (defScope s_is_condition) := ⟨rfl, rfl, rfl, by decide +kernel, rfl, by decide +kernel, by decide +kernel⟩
theorem a_is_condition (fx : Fx w K mg base) : Ga P w K mg base (He.fAd K ("is_condition", none)) 2 1 [false] d_is_condition := by
  obtain ⟨fd, Fn⟩ := fx.d_is_condition
  have Sc := sc_is_condition
  refine ga_d (k := 1) (ms := [false]) (g := b_is_condition) Fn Sc (Fn.bindsN fun _ _ _ _ _ _ us hl => match us, hl with | [_], _ => rfl) (by decide) fun cdv A outer s H E hcd hr => ?_
  exact (dss_cons (ds_if (dt_w (dw_or (dt_not (dt_tru (do_call (g_is_row fx) (hr.mono (by omega)) rfl (dos_cons (do_name 0) dos_nil)))) (dw_or (dt_cmp (ok_notIn (hu65 hr)) (do_bi ok_len rfl fx.m_len (by decide +kernel) (dos_cons (do_name 0) dos_nil)) (do_lst (dos_cons do_int (dos_cons do_int dos_nil))) (by rfl)) (dw_or1 (dt_not (dt_tru (do_bi (ok_isA (isi_of fx) fx.seen) rfl fx.m_isinstance (by decide +kernel) (dos_cons (do_ix (ok_ix (hu1 hr)) (do_name 0) do_int) (dos_cons (do_tyN rfl fx.m_str (by decide +kernel)) dos_nil))))))))) (dss_cons (ds_ret do_bl)
    dss_nil) dss_nil)
    (dss_cons (ds_if (dt_cmp (ok_eq (hu64 hr)) (do_bi ok_len rfl fx.m_len (by decide +kernel) (dos_cons (do_name 0) dos_nil)) do_int (by rfl)) (dss_cons (ds_ret (do_and (do_cmp (ok_inK (kd_of fx)) (do_ix (ok_ix (hu1 hr)) (do_name 0) do_int) (do_fn rfl fx.f_OTHER_WORDS) (by rfl)) (do_one (do_call (g_is_int fx) (hr.mono (by omega)) rfl (dos_cons (do_ix (ok_ix (hu1 hr)) (do_name 0) do_int) dos_nil)))))
    dss_nil) dss_nil)
    (dss_cons (ds_ret (do_and (do_cmp (ok_eq (hu64 hr)) (do_ix (ok_ix (hu1 hr)) (do_name 0) do_int) do_str (by rfl)) (do_and (do_call (g_is_int fx) (hr.mono (by omega)) rfl (dos_cons (do_ix (ok_ix (hu1 hr)) (do_name 0) do_int) dos_nil)) (do_and (do_call (g_is_int fx) (hr.mono (by omega)) rfl (dos_cons (do_ix (ok_ix (hu1 hr)) (do_name 0) do_int) dos_nil)) (do_one (do_chain ok_le ok_lt do_int (do_ix (ok_ix (hu1 hr)) (do_name 0) do_int) (do_ix (ok_ix (hu1 hr)) (do_name 0) do_int)))))))
    dss_nil)))
theorem g_is_condition (fx : Fx w K mg base) : Gf P w K mg base "is_condition" 2 1 [false] d_is_condition := by
  obtain ⟨fd, Fn⟩ := fx.d_is_condition
  exact (a_is_condition fx).gf fx.f_is_condition Fn.kp
def b_are_conditions : M Fl := (sSeq (sRet (posOf 0 [false]) (dAndV (dCall [true] d_is_row (dCons (dName 0) dNil)) (dPrim (g1 gAll) (dCons (dLc ([("item", 1)].map (·.2)) (iSeq (dName 0)) (gSet 1) tYesD (dCall [false] d_is_condition (dCons (dName 1) dNil))) dNil))))
    dNx)
def d_are_conditions : List D → OF := fden b_are_conditions 2 [false]
theorem sc_are_conditions : FnScope ["value", "item"] ["value"] (defScope s_are_conditions) := ⟨rfl, rfl, rfl, by decide +kernel, rfl, by decide +kernel, by decide +kernel⟩
theorem a_are_conditions (fx : Fx w K mg base) : Ga P w K mg base (He.fAd K ("are_conditions", none)) 3 1 [false] d_are_conditions := by
  obtain ⟨fd, Fn⟩ := fx.d_are_conditions
  have Sc := sc_are_conditions
  refine ga_d (k := 2) (ms := [false]) (g := b_are_conditions) Fn Sc (Fn.bindsN fun _ _ _ _ _ _ us hl => match us, hl with | [_], _ => rfl) (by decide) fun cdv A outer s H E hcd hr => ?_
  exact (dss_cons (ds_ret (do_and (do_call (g_is_row fx) (hr.mono (by omega)) rfl (dos_cons (do_name 0) dos_nil)) (do_one (do_bi (ok_all rfl) rfl fx.m_all (by decide +kernel) (dos_cons (do_lc (own := [("item", 1)]) (di_seq (do_name 0)) (fun s H C cl fp => (dg_name (i := 1) (show (1 : Nat) ∉ others 2 [1] from by decide))) (fun s H C cl fp => dts_nil) (fun s H C cl fp => (do_call (g_is_condition fx) (hr.mono (by omega)) rfl (dos_cons (do_name 1) dos_nil))) (blkOk_by (show blkC ["value", "item"] (defScope s_are_conditions) _ [("item", 1)] = true from by decide +kernel))) dos_nil)))))
    dss_nil)
theorem g_are_conditions (fx : Fx w K mg base) : Gf P w K mg base "are_conditions" 3 1 [false] d_are_conditions := by
  obtain ⟨fd, Fn⟩ := fx.d_are_conditions
  exact (a_are_conditions fx).gf fx.f_are_conditions Fn.kp
def b_is_move_of : M Fl := (sSeq (sRet (posOf 0 [false, false]) (dAndV (dPrim (g2 (gIsA csI tbI)) (dCons (dName 0) (dCons (dC (.fn "Move")) dNil))) (dAndV (dCall [false, false] d_is_place_of (dCons (dFld ["Move", "Goal"] "place" (dName 0)) (dCons (dName 1) dNil))) (dAndV (dCall [false] d_are_conditions (dCons (dFld ["Move", "Goal"] "conditions" (dName 0)) dNil)) (dAndV (dCall [false] d_is_int (dCons (dFld ["Move"] "shift" (dName 0)) dNil)) (dCall [false, false] d_is_place_of (dCons (dFld ["Move"] "target" (dName 0)) (dCons (dName 1) dNil))))))))
    dNx)
def d_is_move_of : List D → OF := fden b_is_move_of 2 [false, false]
theorem sc_is_move_of : FnScope ["value", "places"] ["value", "places"] (defScope s_is_move_of) := ⟨rfl, rfl, rfl, by decide +kernel, rfl, by decide +kernel, by decide +kernel⟩
theorem a_is_move_of (fx : Fx w K mg base) : Ga P w K mg base (He.fAd K ("is_move_of", none)) 13 2 [false, false] d_is_move_of := by
  obtain ⟨fd, Fn⟩ := fx.d_is_move_of
  have Sc := sc_is_move_of
  refine ga_d (k := 12) (ms := [false, false]) (g := b_is_move_of) Fn Sc (Fn.bindsN fun _ _ _ _ _ _ us hl => match us, hl with | [_, _], _ => rfl) (by decide) fun cdv A outer s H E hcd hr => ?_
  exact (dss_cons (ds_ret (do_and (do_bi (ok_isA (isi_of fx) fx.seen) rfl fx.m_isinstance (by decide +kernel) (dos_cons (do_name 0) (dos_cons (do_fn rfl fx.f_Move) dos_nil))) (do_and (do_call (g_is_place_of fx) (hr.mono (by omega)) rfl (dos_cons (do_fld (fld_cons fx.a_Move_place (fld_cons fx.a_Goal_place fld_nil)) (do_name 0)) (dos_cons (do_name 1) dos_nil))) (do_and (do_call (g_are_conditions fx) (hr.mono (by omega)) rfl (dos_cons (do_fld (fld_cons fx.a_Move_conditions (fld_cons fx.a_Goal_conditions fld_nil)) (do_name 0)) dos_nil)) (do_and (do_call (g_is_int fx) (hr.mono (by omega)) rfl (dos_cons (do_fld (fld_cons fx.a_Move_shift fld_nil) (do_name 0)) dos_nil)) (do_one (do_call (g_is_place_of fx) (hr.mono (by omega)) rfl (dos_cons (do_fld (fld_cons fx.a_Move_target fld_nil) (do_name 0)) (dos_cons (do_name 1) dos_nil)))))))))
    dss_nil)
theorem g_is_move_of (fx : Fx w K mg base) : Gf P w K mg base "is_move_of" 13 2 [false, false] d_is_move_of := by
  obtain ⟨fd, Fn⟩ := fx.d_is_move_of
  exact (a_is_move_of fx).gf fx.f_is_move_of Fn.kp
def b_Goal_init : M Fl := (sSeq (sFldS ["Goal"] 0 "place" (dName 1))
    (sSeq (sFldS ["Goal"] 0 "conditions" (dCall [true] d_as_tuples (dCons (dName 2) dNil)))
    dNx))
def d_Goal_init : List D → OF := fden b_Goal_init 3 [true, false, false]
theorem sc_Goal_init : FnScope ["self", "place", "conditions"] ["self", "place", "conditions"] (defScope s_Goal_init) := ⟨rfl, rfl, rfl, by decide +kernel, rfl, by decide +kernel, by decide +kernel⟩
theorem a_Goal_init (fx : Fx w K mg base) : Ga P w K mg base (He.fAd K ("Goal", some "__init__")) 11 3 [true, false, false] d_Goal_init := by
  obtain ⟨fd, Fn⟩ := fx.d_Goal_init
  have Sc := sc_Goal_init
  refine ga_d (k := 10) (ms := [true, false, false]) (g := b_Goal_init) Fn Sc (Fn.bindsN fun _ _ _ _ _ _ us hl => match us, hl with | [_, _, _], _ => rfl) (by decide) fun cdv A outer s H E hcd hr => ?_
  exact (dss_cons (ds_fld (cs := ["Goal"]) (j := 0) (fld_cons fx.a_Goal_place fld_nil) (do_name 1))
    (dss_cons (ds_fld (cs := ["Goal"]) (j := 0) (fld_cons fx.a_Goal_conditions fld_nil) (do_call (g_as_tuples fx) (hr.mono (by omega)) rfl (dos_cons (do_name 2) dos_nil)))
    dss_nil))
abbrev g_Goal_init {P : Program} {w : World} {K : PySem.W.Frag} {mg : Str → Option Value} {base : Heap} (fx : Fx w K mg base) := a_Goal_init (P := P) fx
def b_is_goal_of : M Fl := (sSeq (sRet (posOf 0 [false, false]) (dAndV (dPrim (g2 (gIsA csI tbI)) (dCons (dName 0) (dCons (dC (.fn "Goal")) dNil))) (dAndV (dCall [false, false] d_is_place_of (dCons (dFld ["Move", "Goal"] "place" (dName 0)) (dCons (dName 1) dNil))) (dCall [false] d_are_conditions (dCons (dFld ["Move", "Goal"] "conditions" (dName 0)) dNil)))))
    dNx)
def d_is_goal_of : List D → OF := fden b_is_goal_of 2 [false, false]
theorem sc_is_goal_of : FnScope ["value", "places"] ["value", "places"] (defScope s_is_goal_of) := ⟨rfl, rfl, rfl, by decide +kernel, rfl, by decide +kernel, by decide +kernel⟩
theorem a_is_goal_of (fx : Fx w K mg base) : Ga P w K mg base (He.fAd K ("is_goal_of", none)) 13 2 [false, false] d_is_goal_of := by
  obtain ⟨fd, Fn⟩ := fx.d_is_goal_of
  have Sc := sc_is_goal_of
  refine ga_d (k := 12) (ms := [false, false]) (g := b_is_goal_of) Fn Sc (Fn.bindsN fun _ _ _ _ _ _ us hl => match us, hl with | [_, _], _ => rfl) (by decide) fun cdv A outer s H E hcd hr => ?_
  exact (dss_cons (ds_ret (do_and (do_bi (ok_isA (isi_of fx) fx.seen) rfl fx.m_isinstance (by decide +kernel) (dos_cons (do_name 0) (dos_cons (do_fn rfl fx.f_Goal) dos_nil))) (do_and (do_call (g_is_place_of fx) (hr.mono (by omega)) rfl (dos_cons (do_fld (fld_cons fx.a_Move_place (fld_cons fx.a_Goal_place fld_nil)) (do_name 0)) (dos_cons (do_name 1) dos_nil))) (do_one (do_call (g_are_conditions fx) (hr.mono (by omega)) rfl (dos_cons (do_fld (fld_cons fx.a_Move_conditions (fld_cons fx.a_Goal_conditions fld_nil)) (do_name 0)) dos_nil))))))
    dss_nil)
theorem g_is_goal_of (fx : Fx w K mg base) : Gf P w K mg base "is_goal_of" 13 2 [false, false] d_is_goal_of := by
  obtain ⟨fd, Fn⟩ := fx.d_is_goal_of
  exact (a_is_goal_of fx).gf fx.f_is_goal_of Fn.kp
def b_check_items : M Fl := (sSeq (sIf (dNot (dTru (dCall [true] d_is_row (dCons (dName 1) dNil)))) (sSeq (sRaise "BadBook" ["what", "index"] (dCons (dName 0) (dCons (dC .non) dNil)))
    dNx) dNx)
    (sSeq (sFor (iEnumD (dName 1)) (gTup 2 (gsCons (gSet 4) (gsCons (gSet 5) gsNil))) (sSeq (sIf (dNot (dTru (dCallV 3 (("is_move_of", ([false, false], d_is_move_of)) :: (("is_goal_of", ([false, false], d_is_goal_of)) :: [])) (dCons (dName 5) (dCons (dName 2) dNil))))) (sSeq (sRaise "BadBook" ["what", "index"] (dCons (dName 0) (dCons (dName 4) dNil)))
    dNx) dNx)
    dNx))
    dNx))
def d_check_items : List D → OF := fden b_check_items 6 [false, false, false, false]
theorem sc_check_items : FnScope ["what", "items", "places", "is_good", "index", "item"] ["what", "items", "places", "is_good"] (defScope s_check_items) := ⟨rfl, rfl, rfl, by decide +kernel, rfl, by decide +kernel, by decide +kernel⟩
theorem a_check_items (fx : Fx w K mg base) : Ga P w K mg base (He.fAd K ("check_items", none)) 14 4 [false, false, false, false] d_check_items := by
  obtain ⟨fd, Fn⟩ := fx.d_check_items
  have Sc := sc_check_items
  refine ga_d (k := 13) (ms := [false, false, false, false]) (g := b_check_items) Fn Sc (Fn.bindsN fun _ _ _ _ _ _ us hl => match us, hl with | [_, _, _, _], _ => rfl) (by decide) fun cdv A outer s H E hcd hr => ?_
  exact (dss_cons (ds_if (dt_not (dt_tru (do_call (g_is_row fx) (hr.mono (by omega)) rfl (dos_cons (do_name 1) dos_nil)))) (dss_cons (ds_raise rfl (gx_BadBook fx) (hr.mono (by omega)) rfl (dos_cons (do_name 0) (dos_cons do_non dos_nil)))
    dss_nil) dss_nil)
    (dss_cons (ds_for (passes_of rfl) (di_enum (do_name 1) rfl fx.m_enumerate) (dg_tup (dgs_cons (dg_name (i := 4)) (dgs_cons (dg_name (i := 5)) dgs_nil))) (dss_cons (ds_if (dt_not (dt_tru (do_callV (tab_cons (g_is_move_of fx) (hr.mono (by omega)) (tab_cons (g_is_goal_of fx) (hr.mono (by omega)) tab_nil)).ok (dos_cons (do_name 5) (dos_cons (do_name 2) dos_nil))))) (dss_cons (ds_raise rfl (gx_BadBook fx) (hr.mono (by omega)) rfl (dos_cons (do_name 0) (dos_cons (do_name 4) dos_nil)))
    dss_nil) dss_nil)
    dss_nil))
    dss_nil))
theorem g_check_items (fx : Fx w K mg base) : Gf P w K mg base "check_items" 14 4 [false, false, false, false] d_check_items := by
  obtain ⟨fd, Fn⟩ := fx.d_check_items
  exact (a_check_items fx).gf fx.f_check_items Fn.kp
def b_Book_init : M Fl := (sSeq (sIf (dOr (dNot (dTru (dCall [true] d_is_row (dCons (dName 1) dNil)))) (dBl (dOp2 gEq (dPrim (g1 gLen) (dCons (dName 1) dNil)) (dC (.int 0))))) (sSeq (sRaise "BadBook" ["what", "index"] (dCons (dC (.str "sides")) (dCons (dC .non) dNil)))
    dNx) dNx)
    (sSeq (sFor (iEnumD (dName 1)) (gTup 2 (gsCons (gSet 4) (gsCons (gSet 5) gsNil))) (sSeq (sIf (dOr (dNot (dTru (dCall [false] d_is_int (dCons (dName 5) dNil)))) (dBl (dOp2 gNotIn (dName 5) (dLst (dCons (dC (.int 0)) (dCons (dC (.int 1)) dNil)))))) (sSeq (sRaise "BadBook" ["what", "index"] (dCons (dC (.str "sides")) (dCons (dName 4) dNil)))
    dNx) dNx)
    dNx))
    (sSeq (sFldS ["Book"] 0 "sides" (dPrim (g1 gTuple) (dCons (dName 1) dNil)))
    (sSeq (sFldS ["Book"] 0 "places" (dPrim (g1 gLen) (dCons (dFld ["Book"] "sides" (dName 0)) dNil)))
    (sSeq (sExpr (dCall [false, false, false, false] d_check_items (dCons (dC (.str "moves")) (dCons (dName 2) (dCons (dFld ["Book"] "places" (dName 0)) (dCons (dC (.fn "is_move_of")) dNil))))))
    (sSeq (sExpr (dCall [false, false, false, false] d_check_items (dCons (dC (.str "goals")) (dCons (dName 3) (dCons (dFld ["Book"] "places" (dName 0)) (dCons (dC (.fn "is_goal_of")) dNil))))))
    (sSeq (sFldS ["Book"] 0 "moves" (dPrim (g1 gTuple) (dCons (dName 2) dNil)))
    (sSeq (sFldS ["Book"] 0 "goals" (dPrim (g1 gTuple) (dCons (dName 3) dNil)))
    dNx))))))))
def d_Book_init : List D → OF := fden b_Book_init 6 [true, false, false, false]
theorem sc_Book_init : FnScope ["self", "sides", "moves", "goals", "index", "side"] ["self", "sides", "moves", "goals"] (defScope s_Book_init) := ⟨rfl, rfl, rfl, by decide +kernel, rfl, by decide +kernel, by decide +kernel⟩
theorem a_Book_init (fx : Fx w K mg base) : Ga P w K mg base (He.fAd K ("Book", some "__init__")) 15 4 [true, false, false, false] d_Book_init := by
  obtain ⟨fd, Fn⟩ := fx.d_Book_init
  have Sc := sc_Book_init
  refine ga_d (k := 14) (ms := [true, false, false, false]) (g := b_Book_init) Fn Sc (Fn.bindsN fun _ _ _ _ _ _ us hl => match us, hl with | [_, _, _, _], _ => rfl) (by decide) fun cdv A outer s H E hcd hr => ?_
  exact (dss_cons (ds_if (dt_w (dw_or (dt_not (dt_tru (do_call (g_is_row fx) (hr.mono (by omega)) rfl (dos_cons (do_name 1) dos_nil)))) (dw_or1 (dt_cmp (ok_eq (hu64 hr)) (do_bi ok_len rfl fx.m_len (by decide +kernel) (dos_cons (do_name 1) dos_nil)) do_int (by rfl))))) (dss_cons (ds_raise rfl (gx_BadBook fx) (hr.mono (by omega)) rfl (dos_cons do_str (dos_cons do_non dos_nil)))
    dss_nil) dss_nil)
    (dss_cons (ds_for (passes_of rfl) (di_enum (do_name 1) rfl fx.m_enumerate) (dg_tup (dgs_cons (dg_name (i := 4)) (dgs_cons (dg_name (i := 5)) dgs_nil))) (dss_cons (ds_if (dt_w (dw_or (dt_not (dt_tru (do_call (g_is_int fx) (hr.mono (by omega)) rfl (dos_cons (do_name 5) dos_nil)))) (dw_or1 (dt_cmp (ok_notIn (hu65 hr)) (do_name 5) (do_lst (dos_cons do_int (dos_cons do_int dos_nil))) (by rfl))))) (dss_cons (ds_raise rfl (gx_BadBook fx) (hr.mono (by omega)) rfl (dos_cons do_str (dos_cons (do_name 4) dos_nil)))
    dss_nil) dss_nil)
    dss_nil))
    (dss_cons (ds_fld (cs := ["Book"]) (j := 0) (fld_cons fx.a_Book_sides fld_nil) (do_ty ok_tuple rfl fx.m_tuple (by decide +kernel) (dos_cons (do_name 1) dos_nil)))
    (dss_cons (ds_fld (cs := ["Book"]) (j := 0) (fld_cons fx.a_Book_places fld_nil) (do_bi ok_len rfl fx.m_len (by decide +kernel) (dos_cons (do_fld (fld_cons fx.a_Book_sides fld_nil) (do_name 0)) dos_nil)))
    (dss_cons (ds_expr (do_call (g_check_items fx) (hr.mono (by omega)) rfl (dos_cons do_str (dos_cons (do_name 2) (dos_cons (do_fld (fld_cons fx.a_Book_places fld_nil) (do_name 0)) (dos_cons (do_fn rfl fx.f_is_move_of) dos_nil))))))
    (dss_cons (ds_expr (do_call (g_check_items fx) (hr.mono (by omega)) rfl (dos_cons do_str (dos_cons (do_name 3) (dos_cons (do_fld (fld_cons fx.a_Book_places fld_nil) (do_name 0)) (dos_cons (do_fn rfl fx.f_is_goal_of) dos_nil))))))
    (dss_cons (ds_fld (cs := ["Book"]) (j := 0) (fld_cons fx.a_Book_moves fld_nil) (do_ty ok_tuple rfl fx.m_tuple (by decide +kernel) (dos_cons (do_name 2) dos_nil)))
    (dss_cons (ds_fld (cs := ["Book"]) (j := 0) (fld_cons fx.a_Book_goals fld_nil) (do_ty ok_tuple rfl fx.m_tuple (by decide +kernel) (dos_cons (do_name 3) dos_nil)))
    dss_nil))))))))
abbrev g_Book_init {P : Program} {w : World} {K : PySem.W.Frag} {mg : Str → Option Value} {base : Heap} (fx : Fx w K mg base) := a_Book_init (P := P) fx
def b_law_listed : M Fl := (sSeq (sRet (posOf 0 [true, false]) (dCall [true, false] d_law_pick (dCons (dName 0) (dCons (dLst (dCons (dPrim (g1 gTuple) (dCons (dName 1) dNil)) (dCons (dPrim (g1 gList) (dCons (dName 1) dNil)) dNil))) dNil))))
    dNx)
def d_law_listed : List D → OF := fden b_law_listed 2 [true, false]
theorem sc_law_listed : FnScope ["_law_pen_here", "_law_row"] ["_law_pen_here", "_law_row"] (defScope s_law_listed) := ⟨rfl, rfl, rfl, by decide +kernel, rfl, by decide +kernel, by decide +kernel⟩
theorem a_law_listed (fx : Fx w K mg base) : Ga P w K mg base (He.fAd K ("_law_listed", none)) 3 2 [true, false] d_law_listed := by
  obtain ⟨fd, Fn⟩ := fx.d_law_listed
  have Sc := sc_law_listed
  refine ga_d (k := 2) (ms := [true, false]) (g := b_law_listed) Fn Sc (Fn.bindsN fun _ _ _ _ _ _ us hl => match us, hl with | [_, _], _ => rfl) (by decide) fun cdv A outer s H E hcd hr => ?_
  exact (dss_cons (ds_ret (do_call (g_law_pick fx) (hr.mono (by omega)) rfl (dos_cons (do_name 0) (dos_cons (do_lst (dos_cons (do_ty ok_tuple rfl fx.m_tuple (by decide +kernel) (dos_cons (do_name 1) dos_nil)) (dos_cons (do_ty ok_list rfl fx.m_list (by decide +kernel) (dos_cons (do_name 1) dos_nil)) dos_nil))) dos_nil))))
    dss_nil)
theorem g_law_listed (fx : Fx w K mg base) : Gf P w K mg base "_law_listed" 3 2 [true, false] d_law_listed := by
  obtain ⟨fd, Fn⟩ := fx.d_law_listed
  exact (a_law_listed fx).gf fx.f_law_listed Fn.kp
def b_law_made_move : M Fl := (sSeq (sSet 2 (dLc ([("_law_condition", 3)].map (·.2)) (iSeq (dOp2 gIx (dName 1) (dC (.int 1)))) (gSet 3) tYesD (dCall [true, false] d_law_listed (dCons (dName 0) (dCons (dName 3) dNil)))))
    (sSeq (sRet (posOf 0 [true, false]) (dMake "Move" [false, true, false, false] d_Move_init (dCons (dOp2 gIx (dName 1) (dC (.int 0))) (dCons (dCall [true, false] d_law_listed (dCons (dName 0) (dCons (dName 2) dNil))) (dCons (dOp2 gIx (dName 1) (dC (.int 2))) (dCons (dOp2 gIx (dName 1) (dC (.int 3))) dNil))))))
    dNx))
def d_law_made_move : List D → OF := fden b_law_made_move 4 [true, false]
theorem sc_law_made_move : FnScope ["_law_pen_here", "_law_move", "_law_conditions", "_law_condition"] ["_law_pen_here", "_law_move"] (defScope s_law_made_move) := ⟨rfl, rfl, rfl, by decide +kernel, rfl, by decide +kernel, by decide +kernel⟩
theorem a_law_made_move (fx : Fx w K mg base) : Ga P w K mg base (He.fAd K ("_law_made_move", none)) 13 2 [true, false] d_law_made_move := by
  obtain ⟨fd, Fn⟩ := fx.d_law_made_move
  have Sc := sc_law_made_move
  refine ga_d (k := 12) (ms := [true, false]) (g := b_law_made_move) Fn Sc (Fn.bindsN fun _ _ _ _ _ _ us hl => match us, hl with | [_, _], _ => rfl) (by decide) fun cdv A outer s H E hcd hr => ?_
  exact (dss_cons (ds_setLc (own := [("_law_condition", 3)]) (di_seq (do_ix (ok_ix (hu1 hr)) (do_name 1) do_int)) (fun s H C cl fp => (dg_name (i := 3) (show (3 : Nat) ∉ others 4 [3] from by decide))) (fun s H C cl fp => dts_nil) (fun s H C cl fp => (do_call (g_law_listed fx) (hr.mono (by omega)) rfl (dos_cons (do_name 0) (dos_cons (do_name 3) dos_nil)))) (blkOk_by (show blkC ["_law_pen_here", "_law_move", "_law_conditions", "_law_condition"] (defScope s_law_made_move) _ [("_law_condition", 3)] = true from by decide +kernel)))
    (dss_cons (ds_ret (do_make (g_Move_init fx) fx.mk_Move (hr.mono (by omega)) rfl (dos_cons (do_ix (ok_ix (hu1 hr)) (do_name 1) do_int) (dos_cons (do_call (g_law_listed fx) (hr.mono (by omega)) rfl (dos_cons (do_name 0) (dos_cons (do_name 2) dos_nil))) (dos_cons (do_ix (ok_ix (hu1 hr)) (do_name 1) do_int) (dos_cons (do_ix (ok_ix (hu1 hr)) (do_name 1) do_int) dos_nil))))))
    dss_nil))
theorem g_law_made_move (fx : Fx w K mg base) : Gf P w K mg base "_law_made_move" 13 2 [true, false] d_law_made_move := by
  obtain ⟨fd, Fn⟩ := fx.d_law_made_move
  exact (a_law_made_move fx).gf fx.f_law_made_move Fn.kp
def b_law_made_goal : M Fl := (sSeq (sRet (posOf 0 [true, false]) (dMake "Goal" [false, false] d_Goal_init (dCons (dOp2 gIx (dName 1) (dC (.int 0))) (dCons (dCall [true, false] d_law_listed (dCons (dName 0) (dCons (dLc ([("_law_condition", 2)].map (·.2)) (iSeq (dOp2 gIx (dName 1) (dC (.int 1)))) (gSet 2) tYesD (dCall [true, false] d_law_listed (dCons (dName 0) (dCons (dName 2) dNil)))) dNil))) dNil))))
    dNx)
def d_law_made_goal : List D → OF := fden b_law_made_goal 3 [true, false]
theorem sc_law_made_goal : FnScope ["_law_pen_here", "_law_goal", "_law_condition"] ["_law_pen_here", "_law_goal"] (defScope s_law_made_goal) := ⟨rfl, rfl, rfl, by decide +kernel, rfl, by decide +kernel, by decide +kernel⟩
theorem a_law_made_goal (fx : Fx w K mg base) : Ga P w K mg base (He.fAd K ("_law_made_goal", none)) 13 2 [true, false] d_law_made_goal := by
  obtain ⟨fd, Fn⟩ := fx.d_law_made_goal
  have Sc := sc_law_made_goal
  refine ga_d (k := 12) (ms := [true, false]) (g := b_law_made_goal) Fn Sc (Fn.bindsN fun _ _ _ _ _ _ us hl => match us, hl with | [_, _], _ => rfl) (by decide) fun cdv A outer s H E hcd hr => ?_
  exact (dss_cons (ds_ret (do_make (g_Goal_init fx) fx.mk_Goal (hr.mono (by omega)) rfl (dos_cons (do_ix (ok_ix (hu1 hr)) (do_name 1) do_int) (dos_cons (do_call (g_law_listed fx) (hr.mono (by omega)) rfl (dos_cons (do_name 0) (dos_cons (do_lc (own := [("_law_condition", 2)]) (di_seq (do_ix (ok_ix (hu1 hr)) (do_name 1) do_int)) (fun s H C cl fp => (dg_name (i := 2) (show (2 : Nat) ∉ others 3 [2] from by decide))) (fun s H C cl fp => dts_nil) (fun s H C cl fp => (do_call (g_law_listed fx) (hr.mono (by omega)) rfl (dos_cons (do_name 0) (dos_cons (do_name 2) dos_nil)))) (blkOk_by (show blkC ["_law_pen_here", "_law_goal", "_law_condition"] (defScope s_law_made_goal) _ [("_law_condition", 2)] = true from by decide +kernel))) dos_nil))) dos_nil))))
    dss_nil)
theorem g_law_made_goal (fx : Fx w K mg base) : Gf P w K mg base "_law_made_goal" 13 2 [true, false] d_law_made_goal := by
  obtain ⟨fd, Fn⟩ := fx.d_law_made_goal
  exact (a_law_made_goal fx).gf fx.f_law_made_goal Fn.kp
def b_law_made_book : M Fl := (sSeq (sSet 2 (dLc ([("_law_move", 4)].map (·.2)) (iSeq (dOp2 gIx (dName 1) (dC (.str "moves")))) (gSet 4) tYesD (dCall [true, false] d_law_made_move (dCons (dName 0) (dCons (dName 4) dNil)))))
    (sSeq (sSet 3 (dLc ([("_law_goal", 5)].map (·.2)) (iSeq (dOp2 gIx (dName 1) (dC (.str "goals")))) (gSet 5) tYesD (dCall [true, false] d_law_made_goal (dCons (dName 0) (dCons (dName 5) dNil)))))
    (sSeq (sRet (posOf 0 [true, false]) (dMake "Book" [false, false, false] d_Book_init (dCons (dCall [true, false] d_law_listed (dCons (dName 0) (dCons (dOp2 gIx (dName 1) (dC (.str "sides"))) dNil))) (dCons (dCall [true, false] d_law_listed (dCons (dName 0) (dCons (dName 2) dNil))) (dCons (dCall [true, false] d_law_listed (dCons (dName 0) (dCons (dName 3) dNil))) dNil)))))
    dNx)))
def d_law_made_book : List D → OF := fden b_law_made_book 6 [true, false]
theorem sc_law_made_book : FnScope ["_law_pen_here", "_law_book", "_law_moves", "_law_goals", "_law_move", "_law_goal"] ["_law_pen_here", "_law_book"] (defScope s_law_made_book) := ⟨rfl, rfl, rfl, by decide +kernel, rfl, by decide +kernel, by decide +kernel⟩
theorem a_law_made_book (fx : Fx w K mg base) : Ga P w K mg base (He.fAd K ("_law_made_book", none)) 17 2 [true, false] d_law_made_book := by
  obtain ⟨fd, Fn⟩ := fx.d_law_made_book
  have Sc := sc_law_made_book
  refine ga_d (k := 16) (ms := [true, false]) (g := b_law_made_book) Fn Sc (Fn.bindsN fun _ _ _ _ _ _ us hl => match us, hl with | [_, _], _ => rfl) (by decide) fun cdv A outer s H E hcd hr => ?_
  exact (dss_cons (ds_setLc (own := [("_law_move", 4)]) (di_seq (do_ix (ok_ix (hu1 hr)) (do_name 1) do_str)) (fun s H C cl fp => (dg_name (i := 4) (show (4 : Nat) ∉ others 6 [4] from by decide))) (fun s H C cl fp => dts_nil) (fun s H C cl fp => (do_call (g_law_made_move fx) (hr.mono (by omega)) rfl (dos_cons (do_name 0) (dos_cons (do_name 4) dos_nil)))) (blkOk_by (show blkC ["_law_pen_here", "_law_book", "_law_moves", "_law_goals", "_law_move", "_law_goal"] (defScope s_law_made_book) _ [("_law_move", 4)] = true from by decide +kernel)))
    (dss_cons (ds_setLc (own := [("_law_goal", 5)]) (di_seq (do_ix (ok_ix (hu1 hr)) (do_name 1) do_str)) (fun s H C cl fp => (dg_name (i := 5) (show (5 : Nat) ∉ others 6 [5] from by decide))) (fun s H C cl fp => dts_nil) (fun s H C cl fp => (do_call (g_law_made_goal fx) (hr.mono (by omega)) rfl (dos_cons (do_name 0) (dos_cons (do_name 5) dos_nil)))) (blkOk_by (show blkC ["_law_pen_here", "_law_book", "_law_moves", "_law_goals", "_law_move", "_law_goal"] (defScope s_law_made_book) _ [("_law_goal", 5)] = true from by decide +kernel)))
    (dss_cons (ds_ret (do_make (g_Book_init fx) fx.mk_Book (hr.mono (by omega)) rfl (dos_cons (do_call (g_law_listed fx) (hr.mono (by omega)) rfl (dos_cons (do_name 0) (dos_cons (do_ix (ok_ix (hu1 hr)) (do_name 1) do_str) dos_nil))) (dos_cons (do_call (g_law_listed fx) (hr.mono (by omega)) rfl (dos_cons (do_name 0) (dos_cons (do_name 2) dos_nil))) (dos_cons (do_call (g_law_listed fx) (hr.mono (by omega)) rfl (dos_cons (do_name 0) (dos_cons (do_name 3) dos_nil))) dos_nil)))))
    dss_nil)))
theorem g_law_made_book (fx : Fx w K mg base) : Gf P w K mg base "_law_made_book" 17 2 [true, false] d_law_made_book := by
  obtain ⟨fd, Fn⟩ := fx.d_law_made_book
  exact (a_law_made_book fx).gf fx.f_law_made_book Fn.kp
theorem sc_law_fault : FnScope ["_law_call", "_law_got", "e"] ["_law_call"] (defScope s_law_fault) := ⟨rfl, rfl, rfl, by decide +kernel, rfl, by decide +kernel, by decide +kernel⟩
def q_law_fault : List Hd := [⟨tE "BadBook", some 2, hSet ["BadBook"] 1 [.fld "what", .fld "index"]⟩]
def resA_law_fault (r : O Op) : O Op := resB 3 1 q_law_fault r
theorem lam_law_fault {X : Cx} (fx : Fx X.w X.K X.mg X.base) {k : Nat} {c Pt : Addr} {params : Arguments} {body : Expr} {scope : Scope} {fb : M Op} {p lpos pos : Pos} (hg : Gl X "_law_fault") (TB : LamX.TabB X.base X.mg c Pt) (hcode : X.env.code = .ref c) (hmT : (Pt, X.env.qual ++ "<lambda>") ∈ Tb.T) (hu : ∀ p ∈ Tb.T, p.1 = Pt → p.2 = X.env.qual ++ "<lambda>") (hr : Room (k + 2) X.A)
    (Lm : LamX.LamS X.env.scope scope) (hdef : defaultsOf params X.env = ([], [])) (hbind : ∀ (q : Str) (cl : List (Str × Addr)) (pm cv ctv : Value), bindArgs (PySem.W.kla_fn "<lambda>" q params body scope cl pm cv ctv) ⟨[], []⟩ = pure [])
    (hbody : ∀ (A : Around) (outer : List Env) (s : Shared) (H : Hp) (E : XK) (f c' : Addr), Room k (A.deeper (LamX.lamEnv X scope s.heap.objs.size f c')) → DO (LamX.lamCx X A outer s H E scope f c') body fb) :
    DO X (.Call (.Name "_law_fault" p) [.Lambda params body scope lpos] [] pos) (fun en => resA_law_fault (fb en)) := by
  obtain ⟨fd, Fn⟩ := fx.d_law_fault
  have Sc := sc_law_fault
  have hbd := Fn.bindsN (ps := ["_law_call"]) fun _ _ _ _ _ _ us hl => match us, hl with | [_], _ => rfl
  have hkp := Fn.kp
  obtain ⟨oc, od, dV, kV, doc, pm, an, cdv, ct, osl, rfl, lk, hcd, hD, hK⟩ := Fn.ex
  refine do_lamB (Ng := ["_law_call", "_law_got", "e"]) (j := 1) (qs := q_law_fault) Sc.nd rfl (by decide) rfl (by decide) (by decide) ?hs ?hs2 ?hh hg fx.f_law_fault hkp lk hcd hbd Sc rfl (Or.inl rfl) TB hcode hmT hu hr Lm hdef hbind hbody
  case hs => exact fun _ => rfl
  case hs2 => exact fun _ => rfl
  case hh => exact fun s H => ⟨_, (.named (c := .ref (He.fAd X.K ("BadBook", none))) ⟨rfl, by decide, Or.inl fx.f_BadBook⟩ rfl rfl List.not_mem_nil (tE_ok fx "BadBook" fx.f_BadBook) (hok_set (cs := ["BadBook"]) (xf_one (xff_cons fx.xf_BadBook_what (xff_cons fx.xf_BadBook_index xff_nil))) (.fld rfl (Or.inl rfl) (by decide) (by decide) rfl (.fld rfl (Or.inl rfl) (by decide) (by decide) rfl .nil)) List.not_mem_nil Sc.nd rfl (Or.inl rfl) (Or.inr rfl) (fun _ => rfl)) .nil)⟩
def b_law_bad_conditions : M Fl := (sSeq (sSet 1 (dLst (dCons (dTup (dCons (dC (.str "least")) dNil)) (dCons (dTup (dCons (dC (.str "least")) (dCons (dC (.str "1")) dNil))) (dCons (dTup (dCons (dC (.str "least")) (dCons (dC (.bl true)) dNil))) (dCons (dTup (dCons (dC (.str "less")) (dCons (dC (.int 1)) dNil))) (dCons (dTup (dCons (dC (.str "rest")) (dCons (dC (.int 2)) dNil))) (dCons (dTup (dCons (dC (.str "rest")) (dCons (dC (.int 0)) (dCons (dC (.int 0)) dNil)))) dNil))))))))
    (sSeq (sSet 1 (dOp2 gAdd (dName 1) (dLst (dCons (dTup (dCons (dC (.str "rest")) (dCons (dC (.int 3)) (dCons (dC (.int 3)) dNil)))) (dCons (dTup (dCons (dC (.str "rest")) (dCons (dC (.int 2)) (dCons (dOp1 gNeg (dC (.int 1))) dNil)))) (dCons (dTup (dCons (dC (.str "rest")) (dCons (dC (.int 2)) (dCons (dC (.int 0)) (dCons (dC (.int 0)) dNil))))) (dCons (dTup (dCons (dC (.str "least")) (dCons (dC (.int 1)) (dCons (dC (.int 1)) dNil)))) (dCons (dC (.str "least")) (dCons (dC (.int 5)) (dCons (dC .non) (dCons (dTup dNil) dNil)))))))))))
    (sSeq (sSet 1 (dOp2 gAdd (dName 1) (dLst (dCons (dTup (dCons (dC (.int 1)) (dCons (dC (.str "least")) dNil))) (dCons (dTup (dCons (dC (.str "rest")) (dCons (dC (.int 2)) (dCons (dC .non) dNil)))) (dCons (dTup (dCons (dC (.str "not")) (dCons (dC (.str "1")) dNil))) (dCons (dTup (dCons (dC (.str "LEAST")) (dCons (dC (.int 1)) dNil))) (dCons (dTup (dCons (dLst (dCons (dC (.str "least")) dNil)) (dCons (dC (.int 1)) dNil))) dNil))))))))
    (sSeq (sRet (posOf 0 [true]) (dCall [true, false] d_law_pick (dCons (dName 0) (dCons (dLst (dCons (dTup (dCons (dCall [true, false] d_law_pick (dCons (dName 0) (dCons (dName 1) dNil))) dNil)) (dCons (dLst (dCons (dTup (dCons (dC (.str "least")) (dCons (dC (.int 2)) dNil))) (dCons (dCall [true, false] d_law_pick (dCons (dName 0) (dCons (dName 1) dNil))) dNil))) (dCons (dC .non) (dCons (dC (.str "least")) (dCons (dC (.int 7)) (dCons (dDict [(.inr "least")] (dCons (dC (.int 1)) dNil)) dNil))))))) dNil))))
    dNx))))
def d_law_bad_conditions : List D → OF := fden b_law_bad_conditions 2 [true]
theorem sc_law_bad_conditions : FnScope ["_law_pen_here", "_law_odd"] ["_law_pen_here"] (defScope s_law_bad_conditions) := ⟨rfl, rfl, rfl, by decide +kernel, rfl, by decide +kernel, by decide +kernel⟩
theorem a_law_bad_conditions (fx : Fx w K mg base) : Ga P w K mg base (He.fAd K ("_law_bad_conditions", none)) 3 1 [true] d_law_bad_conditions := by
  obtain ⟨fd, Fn⟩ := fx.d_law_bad_conditions
  have Sc := sc_law_bad_conditions
  refine ga_d (k := 2) (ms := [true]) (g := b_law_bad_conditions) Fn Sc (Fn.bindsN fun _ _ _ _ _ _ us hl => match us, hl with | [_], _ => rfl) (by decide) fun cdv A outer s H E hcd hr => ?_
  exact (dss_cons (ds_set (i := 1) (do_lst (dos_cons (do_tup (dos_cons do_str dos_nil)) (dos_cons (do_tup (dos_cons do_str (dos_cons do_str dos_nil))) (dos_cons (do_tup (dos_cons do_str (dos_cons do_bl dos_nil))) (dos_cons (do_tup (dos_cons do_str (dos_cons do_int dos_nil))) (dos_cons (do_tup (dos_cons do_str (dos_cons do_int dos_nil))) (dos_cons (do_tup (dos_cons do_str (dos_cons do_int (dos_cons do_int dos_nil)))) dos_nil))))))))
    (dss_cons (ds_set (i := 1) (do_op ok_add (do_name 1) (do_lst (dos_cons (do_tup (dos_cons do_str (dos_cons do_int (dos_cons do_int dos_nil)))) (dos_cons (do_tup (dos_cons do_str (dos_cons do_int (dos_cons (do_un ok_neg do_int) dos_nil)))) (dos_cons (do_tup (dos_cons do_str (dos_cons do_int (dos_cons do_int (dos_cons do_int dos_nil))))) (dos_cons (do_tup (dos_cons do_str (dos_cons do_int (dos_cons do_int dos_nil)))) (dos_cons do_str (dos_cons do_int (dos_cons do_non (dos_cons (do_tup dos_nil) dos_nil)))))))))))
    (dss_cons (ds_set (i := 1) (do_op ok_add (do_name 1) (do_lst (dos_cons (do_tup (dos_cons do_int (dos_cons do_str dos_nil))) (dos_cons (do_tup (dos_cons do_str (dos_cons do_int (dos_cons do_non dos_nil)))) (dos_cons (do_tup (dos_cons do_str (dos_cons do_str dos_nil))) (dos_cons (do_tup (dos_cons do_str (dos_cons do_int dos_nil))) (dos_cons (do_tup (dos_cons (do_lst (dos_cons do_str dos_nil)) (dos_cons do_int dos_nil))) dos_nil))))))))
    (dss_cons (ds_ret (do_call (g_law_pick fx) (hr.mono (by omega)) rfl (dos_cons (do_name 0) (dos_cons (do_lst (dos_cons (do_tup (dos_cons (do_call (g_law_pick fx) (hr.mono (by omega)) rfl (dos_cons (do_name 0) (dos_cons (do_name 1) dos_nil))) dos_nil)) (dos_cons (do_lst (dos_cons (do_tup (dos_cons do_str (dos_cons do_int dos_nil))) (dos_cons (do_call (g_law_pick fx) (hr.mono (by omega)) rfl (dos_cons (do_name 0) (dos_cons (do_name 1) dos_nil))) dos_nil))) (dos_cons do_non (dos_cons do_str (dos_cons do_int (dos_cons (do_dict (dps_cons (k := (.inr "least")) pe_str do_int dps_nil)) dos_nil))))))) dos_nil))))
    dss_nil))))
theorem g_law_bad_conditions (fx : Fx w K mg base) : Gf P w K mg base "_law_bad_conditions" 3 1 [true] d_law_bad_conditions := by
  obtain ⟨fd, Fn⟩ := fx.d_law_bad_conditions
  exact (a_law_bad_conditions fx).gf fx.f_law_bad_conditions Fn.kp
def b_law_bad_moves : M Fl := (sSeq (sSet 2 (dLst (dCons (dMake "Move" [false, true, false, false] d_Move_init (dCons (dName 1) (dCons (dTup dNil) (dCons (dC (.int 0)) (dCons (dC (.int 0)) dNil))))) (dCons (dMake "Move" [false, true, false, false] d_Move_init (dCons (dC (.int 0)) (dCons (dTup dNil) (dCons (dC (.int 0)) (dCons (dName 1) dNil))))) (dCons (dMake "Move" [false, true, false, false] d_Move_init (dCons (dOp1 gNeg (dC (.int 1))) (dCons (dTup dNil) (dCons (dC (.int 0)) (dCons (dC (.int 0)) dNil))))) (dCons (dMake "Move" [false, true, false, false] d_Move_init (dCons (dC (.int 0)) (dCons (dTup dNil) (dCons (dC (.str "1")) (dCons (dC (.int 0)) dNil))))) dNil))))))
    (sSeq (sSet 2 (dCmpc gAdd (dName 2) (dLst (dCons (dMake "Move" [false, true, false, false] d_Move_init (dCons (dC (.str "0")) (dCons (dTup dNil) (dCons (dC (.int 0)) (dCons (dC (.int 0)) dNil))))) (dCons (dMake "Move" [false, true, false, false] d_Move_init (dCons (dC (.int 0)) (dCons (dTup dNil) (dCons (dC (.bl true)) (dCons (dC (.int 0)) dNil))))) (dCons (dMake "Move" [false, true, false, false] d_Move_init (dCons (dC (.bl true)) (dCons (dTup dNil) (dCons (dC (.int 0)) (dCons (dC (.int 0)) dNil))))) (dCons (dC .non) (dCons (dTup (dCons (dC (.int 0)) (dCons (dTup dNil) (dCons (dC (.int 0)) (dCons (dC (.int 0)) dNil))))) dNil))))))))
    (sSeq (sSet 2 (dCmpc gAdd (dName 2) (dLst (dCons (dMake "Goal" [false, false] d_Goal_init (dCons (dC (.int 0)) (dCons (dTup dNil) dNil))) (dCons (dMake "Move" [false, true, false, false] d_Move_init (dCons (dC (.int 0)) (dCons (dTup dNil) (dCons (dC .non) (dCons (dC (.int 0)) dNil))))) (dCons (dMake "Move" [false, true, false, false] d_Move_init (dCons (dC (.int 0)) (dCons (dTup dNil) (dCons (dC (.int 0)) (dCons (dC (.bl false)) dNil))))) dNil))))))
    (sSeq (sRet (posOf 0 [true, false]) (dCmpc gAdd (dName 2) (dLst (dCons (dMake "Move" [false, true, false, false] d_Move_init (dCons (dC (.int 0)) (dCons (dCall [true] d_law_bad_conditions (dCons (dName 0) dNil)) (dCons (dC (.int 0)) (dCons (dC (.int 0)) dNil))))) dNil))))
    dNx))))
def d_law_bad_moves : List D → OF := fden b_law_bad_moves 3 [true, false]
theorem sc_law_bad_moves : FnScope ["_law_pen_here", "_law_places", "_law_odd"] ["_law_pen_here", "_law_places"] (defScope s_law_bad_moves) := ⟨rfl, rfl, rfl, by decide +kernel, rfl, by decide +kernel, by decide +kernel⟩
theorem a_law_bad_moves (fx : Fx w K mg base) : Ga P w K mg base (He.fAd K ("_law_bad_moves", none)) 13 2 [true, false] d_law_bad_moves := by
  obtain ⟨fd, Fn⟩ := fx.d_law_bad_moves
  have Sc := sc_law_bad_moves
  refine ga_d (k := 12) (ms := [true, false]) (g := b_law_bad_moves) Fn Sc (Fn.bindsN fun _ _ _ _ _ _ us hl => match us, hl with | [_, _], _ => rfl) (by decide) fun cdv A outer s H E hcd hr => ?_
  exact (dss_cons (ds_set (i := 2) (do_lst (dos_cons (do_make (g_Move_init fx) fx.mk_Move (hr.mono (by omega)) rfl (dos_cons (do_name 1) (dos_cons (do_tup dos_nil) (dos_cons do_int (dos_cons do_int dos_nil))))) (dos_cons (do_make (g_Move_init fx) fx.mk_Move (hr.mono (by omega)) rfl (dos_cons do_int (dos_cons (do_tup dos_nil) (dos_cons do_int (dos_cons (do_name 1) dos_nil))))) (dos_cons (do_make (g_Move_init fx) fx.mk_Move (hr.mono (by omega)) rfl (dos_cons (do_un ok_neg do_int) (dos_cons (do_tup dos_nil) (dos_cons do_int (dos_cons do_int dos_nil))))) (dos_cons (do_make (g_Move_init fx) fx.mk_Move (hr.mono (by omega)) rfl (dos_cons do_int (dos_cons (do_tup dos_nil) (dos_cons do_str (dos_cons do_int dos_nil))))) dos_nil))))))
    (dss_cons (ds_set (i := 2) (do_opc ok_add (do_name 2) (do_lst (dos_cons (do_make (g_Move_init fx) fx.mk_Move (hr.mono (by omega)) rfl (dos_cons do_str (dos_cons (do_tup dos_nil) (dos_cons do_int (dos_cons do_int dos_nil))))) (dos_cons (do_make (g_Move_init fx) fx.mk_Move (hr.mono (by omega)) rfl (dos_cons do_int (dos_cons (do_tup dos_nil) (dos_cons do_bl (dos_cons do_int dos_nil))))) (dos_cons (do_make (g_Move_init fx) fx.mk_Move (hr.mono (by omega)) rfl (dos_cons do_bl (dos_cons (do_tup dos_nil) (dos_cons do_int (dos_cons do_int dos_nil))))) (dos_cons do_non (dos_cons (do_tup (dos_cons do_int (dos_cons (do_tup dos_nil) (dos_cons do_int (dos_cons do_int dos_nil))))) dos_nil))))))))
    (dss_cons (ds_set (i := 2) (do_opc ok_add (do_name 2) (do_lst (dos_cons (do_make (g_Goal_init fx) fx.mk_Goal (hr.mono (by omega)) rfl (dos_cons do_int (dos_cons (do_tup dos_nil) dos_nil))) (dos_cons (do_make (g_Move_init fx) fx.mk_Move (hr.mono (by omega)) rfl (dos_cons do_int (dos_cons (do_tup dos_nil) (dos_cons do_non (dos_cons do_int dos_nil))))) (dos_cons (do_make (g_Move_init fx) fx.mk_Move (hr.mono (by omega)) rfl (dos_cons do_int (dos_cons (do_tup dos_nil) (dos_cons do_int (dos_cons do_bl dos_nil))))) dos_nil))))))
    (dss_cons (ds_ret (do_opc ok_add (do_name 2) (do_lst (dos_cons (do_make (g_Move_init fx) fx.mk_Move (hr.mono (by omega)) rfl (dos_cons do_int (dos_cons (do_call (g_law_bad_conditions fx) (hr.mono (by omega)) rfl (dos_cons (do_name 0) dos_nil)) (dos_cons do_int (dos_cons do_int dos_nil))))) dos_nil))))
    dss_nil))))
theorem g_law_bad_moves (fx : Fx w K mg base) : Gf P w K mg base "_law_bad_moves" 13 2 [true, false] d_law_bad_moves := by
  obtain ⟨fd, Fn⟩ := fx.d_law_bad_moves
  exact (a_law_bad_moves fx).gf fx.f_law_bad_moves Fn.kp
def b_law_bad_goals : M Fl := (sSeq (sSet 2 (dLst (dCons (dMake "Goal" [false, false] d_Goal_init (dCons (dName 1) (dCons (dTup dNil) dNil))) (dCons (dMake "Goal" [false, false] d_Goal_init (dCons (dOp1 gNeg (dC (.int 1))) (dCons (dTup dNil) dNil))) (dCons (dMake "Goal" [false, false] d_Goal_init (dCons (dC .non) (dCons (dTup dNil) dNil))) (dCons (dMake "Goal" [false, false] d_Goal_init (dCons (dC (.bl false)) (dCons (dTup dNil) dNil))) (dCons (dC (.int 0)) (dCons (dTup (dCons (dC (.int 0)) (dCons (dTup dNil) dNil))) dNil))))))))
    (sSeq (sRet (posOf 0 [true, false]) (dCmpc gAdd (dName 2) (dLst (dCons (dMake "Goal" [false, false] d_Goal_init (dCons (dC (.int 0)) (dCons (dCall [true] d_law_bad_conditions (dCons (dName 0) dNil)) dNil))) (dCons (dMake "Move" [false, true, false, false] d_Move_init (dCons (dC (.int 0)) (dCons (dTup dNil) (dCons (dC (.int 0)) (dCons (dC (.int 0)) dNil))))) (dCons (dC (.str "goal")) dNil))))))
    dNx))
def d_law_bad_goals : List D → OF := fden b_law_bad_goals 3 [true, false]
theorem sc_law_bad_goals : FnScope ["_law_pen_here", "_law_places", "_law_odd"] ["_law_pen_here", "_law_places"] (defScope s_law_bad_goals) := ⟨rfl, rfl, rfl, by decide +kernel, rfl, by decide +kernel, by decide +kernel⟩
theorem a_law_bad_goals (fx : Fx w K mg base) : Ga P w K mg base (He.fAd K ("_law_bad_goals", none)) 13 2 [true, false] d_law_bad_goals := by
  obtain ⟨fd, Fn⟩ := fx.d_law_bad_goals
  have Sc := sc_law_bad_goals
  refine ga_d (k := 12) (ms := [true, false]) (g := b_law_bad_goals) Fn Sc (Fn.bindsN fun _ _ _ _ _ _ us hl => match us, hl with | [_, _], _ => rfl) (by decide) fun cdv A outer s H E hcd hr => ?_
  exact (dss_cons (ds_set (i := 2) (do_lst (dos_cons (do_make (g_Goal_init fx) fx.mk_Goal (hr.mono (by omega)) rfl (dos_cons (do_name 1) (dos_cons (do_tup dos_nil) dos_nil))) (dos_cons (do_make (g_Goal_init fx) fx.mk_Goal (hr.mono (by omega)) rfl (dos_cons (do_un ok_neg do_int) (dos_cons (do_tup dos_nil) dos_nil))) (dos_cons (do_make (g_Goal_init fx) fx.mk_Goal (hr.mono (by omega)) rfl (dos_cons do_non (dos_cons (do_tup dos_nil) dos_nil))) (dos_cons (do_make (g_Goal_init fx) fx.mk_Goal (hr.mono (by omega)) rfl (dos_cons do_bl (dos_cons (do_tup dos_nil) dos_nil))) (dos_cons do_int (dos_cons (do_tup (dos_cons do_int (dos_cons (do_tup dos_nil) dos_nil))) dos_nil))))))))
    (dss_cons (ds_ret (do_opc ok_add (do_name 2) (do_lst (dos_cons (do_make (g_Goal_init fx) fx.mk_Goal (hr.mono (by omega)) rfl (dos_cons do_int (dos_cons (do_call (g_law_bad_conditions fx) (hr.mono (by omega)) rfl (dos_cons (do_name 0) dos_nil)) dos_nil))) (dos_cons (do_make (g_Move_init fx) fx.mk_Move (hr.mono (by omega)) rfl (dos_cons do_int (dos_cons (do_tup dos_nil) (dos_cons do_int (dos_cons do_int dos_nil))))) (dos_cons do_str dos_nil))))))
    dss_nil))
theorem g_law_bad_goals (fx : Fx w K mg base) : Gf P w K mg base "_law_bad_goals" 13 2 [true, false] d_law_bad_goals := by
  obtain ⟨fd, Fn⟩ := fx.d_law_bad_goals
  exact (a_law_bad_goals fx).gf fx.f_law_bad_goals Fn.kp
def b_law_faults_right : M Fl := (sSeq (sAsg (dTup (dCons (dPrim (g1 gLen) (dCons (dOp2 gIx (dName 1) (dC (.str "sides"))) dNil)) (dCons (dPrim (g1 gList) (dCons (dFld ["Book"] "moves" (dName 2)) dNil)) (dCons (dPrim (g1 gList) (dCons (dFld ["Book"] "goals" (dName 2)) dNil)) dNil)))) (gTup 3 (gsCons (gSet 3) (gsCons (gSet 4) (gsCons (gSet 5) gsNil)))))
    (sSeq (sPar [6, 7] (dCons (dCall [true, false] d_law_draw (dCons (dName 0) (dCons (dOp2 gAdd (dPrim (g1 gLen) (dCons (dName 4) dNil)) (dC (.int 1))) dNil))) (dCons (dCall [true, false] d_law_pick (dCons (dName 0) (dCons (dCall [true, false] d_law_bad_moves (dCons (dName 0) (dCons (dName 3) dNil))) dNil))) dNil)))
    (sSeq (sSet 8 (dOp2 gAdd (dOp2 gAdd (dOp2 gAdd (dSl gSl (dName 4) dNoPart (dPart (dName 6))) (dLst (dCons (dName 7) dNil))) (dSl gSl (dName 4) (dPart (dName 6)) dNoPart)) (dLst (dCons (dCall [true, false] d_law_pick (dCons (dName 0) (dCons (dCall [true, false] d_law_bad_moves (dCons (dName 0) (dCons (dName 3) dNil))) dNil))) dNil))))
    (sSeq (sPar [9, 10] (dCons (dCall [true, false] d_law_draw (dCons (dName 0) (dCons (dOp2 gAdd (dPrim (g1 gLen) (dCons (dName 5) dNil)) (dC (.int 1))) dNil))) (dCons (dCall [true, false] d_law_pick (dCons (dName 0) (dCons (dCall [true, false] d_law_bad_goals (dCons (dName 0) (dCons (dName 3) dNil))) dNil))) dNil)))
    (sSeq (sSet 11 (dOp2 gAdd (dOp2 gAdd (dSl gSl (dName 5) dNoPart (dPart (dName 9))) (dLst (dCons (dName 10) dNil))) (dSl gSl (dName 5) (dPart (dName 9)) dNoPart)))
    (sSeq (sIf (dBl (dOp2 gNe (fun en => resA_law_fault ((dMake "Book" [false, false, false] d_Book_init (dCons (dOp2 gIx (dName 1) (dC (.str "sides"))) (dCons (dName 8) (dCons (dName 11) dNil)))) en)) (dTup (dCons (dC (.str "moves")) (dCons (dName 6) dNil))))) (sSeq (sRet (posOf 0 [true, false, false]) (dC (.bl false)))
    dNx) dNx)
    (sSeq (sIf (dBl (dOp2 gNe (fun en => resA_law_fault ((dMake "Book" [false, false, false] d_Book_init (dCons (dOp2 gIx (dName 1) (dC (.str "sides"))) (dCons (dName 4) (dCons (dCall [true, false] d_law_listed (dCons (dName 0) (dCons (dName 11) dNil))) dNil)))) en)) (dTup (dCons (dC (.str "goals")) (dCons (dName 9) dNil))))) (sSeq (sRet (posOf 0 [true, false, false]) (dC (.bl false)))
    dNx) dNx)
    (sSeq (sPar [12, 13] (dCons (dPrim (g1 gList) (dCons (dOp2 gIx (dName 1) (dC (.str "sides"))) dNil)) (dCons (dCall [true, false] d_law_draw (dCons (dName 0) (dCons (dName 3) dNil))) dNil)))
    (sSeq (sSub 12 (dCall [true, false] d_law_pick (dCons (dName 0) (dCons (dLst (dCons (dC (.int 2)) (dCons (dOp1 gNeg (dC (.int 1))) (dCons (dC (.bl true)) (dCons (dC .non) (dCons (dC (.str "0")) (dCons (dLst (dCons (dC (.int 0)) dNil)) (dCons (dTup (dCons (dC (.int 0)) dNil)) dNil)))))))) dNil))) (dName 13))
    (sSeq (sIf (dBl (dOp2 gNe (fun en => resA_law_fault ((dMake "Book" [false, false, false] d_Book_init (dCons (dName 12) (dCons (dName 8) (dCons (dName 11) dNil)))) en)) (dTup (dCons (dC (.str "sides")) (dCons (dName 13) dNil))))) (sSeq (sRet (posOf 0 [true, false, false]) (dC (.bl false)))
    dNx) dNx)
    (sSeq (sSet 14 (dCall [true, false] d_law_pick (dCons (dName 0) (dCons (dLst (dCons (dC .non) (dCons (dTup dNil) (dCons (dLst dNil) (dCons (dC (.int 0)) (dCons (dC (.str "01")) (dCons (dDict [(.inl 0)] (dCons (dC (.int 1)) dNil)) dNil))))))) dNil))))
    (sSeq (sIf (dBl (dOp2 gNe (fun en => resA_law_fault ((dMake "Book" [false, false, false] d_Book_init (dCons (dName 14) (dCons (dName 8) (dCons (dName 11) dNil)))) en)) (dTup (dCons (dC (.str "sides")) (dCons (dC .non) dNil))))) (sSeq (sRet (posOf 0 [true, false, false]) (dC (.bl false)))
    dNx) dNx)
    (sSeq (sSet 15 (dCall [true, false] d_law_pick (dCons (dName 0) (dCons (dLst (dCons (dC .non) (dCons (dC (.int 3)) (dCons (dC (.str "moves")) (dCons dEmp dNil))))) dNil))))
    (sSeq (sIf (dBl (dOp2 gNe (fun en => resA_law_fault ((dMake "Book" [false, false, false] d_Book_init (dCons (dOp2 gIx (dName 1) (dC (.str "sides"))) (dCons (dName 15) (dCons (dName 11) dNil)))) en)) (dTup (dCons (dC (.str "moves")) (dCons (dC .non) dNil))))) (sSeq (sRet (posOf 0 [true, false, false]) (dC (.bl false)))
    dNx) dNx)
    (sSeq (sRet (posOf 0 [true, false, false]) (dOp2 gEq (fun en => resA_law_fault ((dMake "Book" [false, false, false] d_Book_init (dCons (dOp2 gIx (dName 1) (dC (.str "sides"))) (dCons (dName 4) (dCons (dName 15) dNil)))) en)) (dTup (dCons (dC (.str "goals")) (dCons (dC .non) dNil)))))
    dNx)))))))))))))))
def d_law_faults_right : List D → OF := fden b_law_faults_right 16 [true, false, false]
theorem sc_law_faults_right : FnScope ["_law_pen_here", "_law_book", "_law_made", "_law_places", "_law_moves", "_law_goals", "_law_at", "_law_bad", "_law_wrong", "_law_end", "_law_odd", "_law_off", "_law_sides", "_law_spot", "_law_none", "_law_thing"] ["_law_pen_here", "_law_book", "_law_made"] (defScope s_law_faults_right) := ⟨rfl, rfl, rfl, by decide +kernel, rfl, by decide +kernel, by decide +kernel⟩
theorem a_law_faults_right (fx : Fx w K mg base) : Ga P w K mg base (He.fAd K ("_law_faults_right", none)) 20 3 [true, false, false] d_law_faults_right := by
  obtain ⟨fd, Fn⟩ := fx.d_law_faults_right
  have Sc := sc_law_faults_right
  refine ga_d (k := 19) (ms := [true, false, false]) (g := b_law_faults_right) Fn Sc (Fn.bindsN fun _ _ _ _ _ _ us hl => match us, hl with | [_, _, _], _ => rfl) (by decide) fun cdv A outer s H E hcd hr => ?_
  obtain ⟨cl, Pt, hfd, TBl, hTl, hul⟩ := fx.l_law_faults_right
  have hcl := hfd fd Fn
  exact (dss_cons (ds_asg (do_tup (dos_cons (do_bi ok_len rfl fx.m_len (by decide +kernel) (dos_cons (do_ix (ok_ix (hu1 hr)) (do_name 1) do_str) dos_nil)) (dos_cons (do_ty ok_list rfl fx.m_list (by decide +kernel) (dos_cons (do_fld (fld_cons fx.a_Book_moves fld_nil) (do_name 2)) dos_nil)) (dos_cons (do_ty ok_list rfl fx.m_list (by decide +kernel) (dos_cons (do_fld (fld_cons fx.a_Book_goals fld_nil) (do_name 2)) dos_nil)) dos_nil)))) (dg_tup (dgs_cons (dg_name (i := 3)) (dgs_cons (dg_name (i := 4)) (dgs_cons (dg_name (i := 5)) dgs_nil)))))
    (dss_cons (ds_par (i := 6) (j := 7) (dos_cons (do_call (g_law_draw fx) (hr.mono (by omega)) rfl (dos_cons (do_name 0) (dos_cons (do_op ok_add (do_bi ok_len rfl fx.m_len (by decide +kernel) (dos_cons (do_name 4) dos_nil)) do_int) dos_nil))) (dos_cons (do_call (g_law_pick fx) (hr.mono (by omega)) rfl (dos_cons (do_name 0) (dos_cons (do_call (g_law_bad_moves fx) (hr.mono (by omega)) rfl (dos_cons (do_name 0) (dos_cons (do_name 3) dos_nil))) dos_nil))) dos_nil)))
    (dss_cons (ds_set (i := 8) (do_op ok_add (do_op ok_add (do_op ok_add (do_sl ok_sl (do_name 4) dp_none (dp_some (do_name 6))) (do_lst (dos_cons (do_name 7) dos_nil))) (do_sl ok_sl (do_name 4) (dp_some (do_name 6)) dp_none)) (do_lst (dos_cons (do_call (g_law_pick fx) (hr.mono (by omega)) rfl (dos_cons (do_name 0) (dos_cons (do_call (g_law_bad_moves fx) (hr.mono (by omega)) rfl (dos_cons (do_name 0) (dos_cons (do_name 3) dos_nil))) dos_nil))) dos_nil))))
    (dss_cons (ds_par (i := 9) (j := 10) (dos_cons (do_call (g_law_draw fx) (hr.mono (by omega)) rfl (dos_cons (do_name 0) (dos_cons (do_op ok_add (do_bi ok_len rfl fx.m_len (by decide +kernel) (dos_cons (do_name 5) dos_nil)) do_int) dos_nil))) (dos_cons (do_call (g_law_pick fx) (hr.mono (by omega)) rfl (dos_cons (do_name 0) (dos_cons (do_call (g_law_bad_goals fx) (hr.mono (by omega)) rfl (dos_cons (do_name 0) (dos_cons (do_name 3) dos_nil))) dos_nil))) dos_nil)))
    (dss_cons (ds_set (i := 11) (do_op ok_add (do_op ok_add (do_sl ok_sl (do_name 5) dp_none (dp_some (do_name 9))) (do_lst (dos_cons (do_name 10) dos_nil))) (do_sl ok_sl (do_name 5) (dp_some (do_name 9)) dp_none)))
    (dss_cons (ds_if (dt_cmp (ok_ne (hu64 hr)) (lam_law_fault fx (k := 16) rfl TBl (hcd _ hcl) hTl hul (hr.mono (by omega)) (LamX.lamS_by (show LamX.lamSB (defScope s_law_faults_right) _ = true from by decide +kernel)) rfl (fun _ _ _ _ _ => rfl) (fun A outer s H E f c hr2 => (do_make (g_Book_init fx) fx.mk_Book (hr2.mono (by omega)) rfl (dos_cons (do_ix (ok_ix (hu1 hr2)) (do_name 1) do_str) (dos_cons (do_name 8) (dos_cons (do_name 11) dos_nil)))))) (do_tup (dos_cons do_str (dos_cons (do_name 6) dos_nil))) (by rfl)) (dss_cons (ds_ret do_bl)
    dss_nil) dss_nil)
    (dss_cons (ds_if (dt_cmp (ok_ne (hu64 hr)) (lam_law_fault fx (k := 16) rfl TBl (hcd _ hcl) hTl hul (hr.mono (by omega)) (LamX.lamS_by (show LamX.lamSB (defScope s_law_faults_right) _ = true from by decide +kernel)) rfl (fun _ _ _ _ _ => rfl) (fun A outer s H E f c hr2 => (do_make (g_Book_init fx) fx.mk_Book (hr2.mono (by omega)) rfl (dos_cons (do_ix (ok_ix (hu1 hr2)) (do_name 1) do_str) (dos_cons (do_name 4) (dos_cons (do_call (g_law_listed fx) (hr2.mono (by omega)) rfl (dos_cons (do_name 0) (dos_cons (do_name 11) dos_nil))) dos_nil)))))) (do_tup (dos_cons do_str (dos_cons (do_name 9) dos_nil))) (by rfl)) (dss_cons (ds_ret do_bl)
    dss_nil) dss_nil)
    (dss_cons (ds_parC (i := 12) (j := 13) (dos_cons (do_ty ok_list rfl fx.m_list (by decide +kernel) (dos_cons (do_ix (ok_ix (hu1 hr)) (do_name 1) do_str) dos_nil)) (dos_cons (do_call (g_law_draw fx) (hr.mono (by omega)) rfl (dos_cons (do_name 0) (dos_cons (do_name 3) dos_nil))) dos_nil)))
    (dss_cons (ds_sub (j := 12) (hu1 hr) (do_call (g_law_pick fx) (hr.mono (by omega)) rfl (dos_cons (do_name 0) (dos_cons (do_lst (dos_cons do_int (dos_cons (do_un ok_neg do_int) (dos_cons do_bl (dos_cons do_non (dos_cons do_str (dos_cons (do_lst (dos_cons do_int dos_nil)) (dos_cons (do_tup (dos_cons do_int dos_nil)) dos_nil)))))))) dos_nil))) (do_name 13))
    (dss_cons (ds_if (dt_cmp (ok_ne (hu64 hr)) (lam_law_fault fx (k := 16) rfl TBl (hcd _ hcl) hTl hul (hr.mono (by omega)) (LamX.lamS_by (show LamX.lamSB (defScope s_law_faults_right) _ = true from by decide +kernel)) rfl (fun _ _ _ _ _ => rfl) (fun A outer s H E f c hr2 => (do_make (g_Book_init fx) fx.mk_Book (hr2.mono (by omega)) rfl (dos_cons (do_name 12) (dos_cons (do_name 8) (dos_cons (do_name 11) dos_nil)))))) (do_tup (dos_cons do_str (dos_cons (do_name 13) dos_nil))) (by rfl)) (dss_cons (ds_ret do_bl)
    dss_nil) dss_nil)
    (dss_cons (ds_set (i := 14) (do_call (g_law_pick fx) (hr.mono (by omega)) rfl (dos_cons (do_name 0) (dos_cons (do_lst (dos_cons do_non (dos_cons (do_tup dos_nil) (dos_cons (do_lst dos_nil) (dos_cons do_int (dos_cons do_str (dos_cons (do_dict (dps_cons (k := (.inl 0)) pe_int do_int dps_nil)) dos_nil))))))) dos_nil))))
    (dss_cons (ds_if (dt_cmp (ok_ne (hu64 hr)) (lam_law_fault fx (k := 16) rfl TBl (hcd _ hcl) hTl hul (hr.mono (by omega)) (LamX.lamS_by (show LamX.lamSB (defScope s_law_faults_right) _ = true from by decide +kernel)) rfl (fun _ _ _ _ _ => rfl) (fun A outer s H E f c hr2 => (do_make (g_Book_init fx) fx.mk_Book (hr2.mono (by omega)) rfl (dos_cons (do_name 14) (dos_cons (do_name 8) (dos_cons (do_name 11) dos_nil)))))) (do_tup (dos_cons do_str (dos_cons do_non dos_nil))) (by rfl)) (dss_cons (ds_ret do_bl)
    dss_nil) dss_nil)
    (dss_cons (ds_set (i := 15) (do_call (g_law_pick fx) (hr.mono (by omega)) rfl (dos_cons (do_name 0) (dos_cons (do_lst (dos_cons do_non (dos_cons do_int (dos_cons do_str (dos_cons do_emp dos_nil))))) dos_nil))))
    (dss_cons (ds_if (dt_cmp (ok_ne (hu64 hr)) (lam_law_fault fx (k := 16) rfl TBl (hcd _ hcl) hTl hul (hr.mono (by omega)) (LamX.lamS_by (show LamX.lamSB (defScope s_law_faults_right) _ = true from by decide +kernel)) rfl (fun _ _ _ _ _ => rfl) (fun A outer s H E f c hr2 => (do_make (g_Book_init fx) fx.mk_Book (hr2.mono (by omega)) rfl (dos_cons (do_ix (ok_ix (hu1 hr2)) (do_name 1) do_str) (dos_cons (do_name 15) (dos_cons (do_name 11) dos_nil)))))) (do_tup (dos_cons do_str (dos_cons do_non dos_nil))) (by rfl)) (dss_cons (ds_ret do_bl)
    dss_nil) dss_nil)
    (dss_cons (ds_ret (do_cmp (ok_eq (hu64 hr)) (lam_law_fault fx (k := 16) rfl TBl (hcd _ hcl) hTl hul (hr.mono (by omega)) (LamX.lamS_by (show LamX.lamSB (defScope s_law_faults_right) _ = true from by decide +kernel)) rfl (fun _ _ _ _ _ => rfl) (fun A outer s H E f c hr2 => (do_make (g_Book_init fx) fx.mk_Book (hr2.mono (by omega)) rfl (dos_cons (do_ix (ok_ix (hu1 hr2)) (do_name 1) do_str) (dos_cons (do_name 4) (dos_cons (do_name 15) dos_nil)))))) (do_tup (dos_cons do_str (dos_cons do_non dos_nil))) (by rfl)))
    dss_nil)))))))))))))))
theorem g_law_faults_right (fx : Fx w K mg base) : Gf P w K mg base "_law_faults_right" 20 3 [true, false, false] d_law_faults_right := by
  obtain ⟨fd, Fn⟩ := fx.d_law_faults_right
  exact (a_law_faults_right fx).gf fx.f_law_faults_right Fn.kp
def b_law_told_book : M Fl := (sSeq (sSet 1 (dLc ([("_law_move", 3)].map (·.2)) (iSeq (dFld ["Book"] "moves" (dName 0))) (gSet 3) tYesD (dTup (dCons (dFld ["Move", "Goal"] "place" (dName 3)) (dCons (dFld ["Move", "Goal"] "conditions" (dName 3)) (dCons (dFld ["Move"] "shift" (dName 3)) (dCons (dFld ["Move"] "target" (dName 3)) dNil)))))))
    (sSeq (sSet 2 (dLc ([("_law_goal", 4)].map (·.2)) (iSeq (dFld ["Book"] "goals" (dName 0))) (gSet 4) tYesD (dTup (dCons (dFld ["Move", "Goal"] "place" (dName 4)) (dCons (dFld ["Move", "Goal"] "conditions" (dName 4)) dNil)))))
    (sSeq (sRet (posOf 0 [false]) (dDict [(.inr "sides"), (.inr "moves"), (.inr "goals")] (dCons (dPrim (g1 gList) (dCons (dFld ["Book"] "sides" (dName 0)) dNil)) (dCons (dName 1) (dCons (dName 2) dNil)))))
    dNx)))
def d_law_told_book : List D → OF := fden b_law_told_book 5 [false]
theorem sc_law_told_book : FnScope ["_law_made", "_law_moves", "_law_goals", "_law_move", "_law_goal"] ["_law_made"] (defScope s_law_told_book) := ⟨rfl, rfl, rfl, by decide +kernel, rfl, by decide +kernel, by decide +kernel⟩
theorem a_law_told_book (fx : Fx w K mg base) : Ga P w K mg base (He.fAd K ("_law_told_book", none)) 1 1 [false] d_law_told_book := by
  obtain ⟨fd, Fn⟩ := fx.d_law_told_book
  have Sc := sc_law_told_book
  refine ga_d (k := 0) (ms := [false]) (g := b_law_told_book) Fn Sc (Fn.bindsN fun _ _ _ _ _ _ us hl => match us, hl with | [_], _ => rfl) (by decide) fun cdv A outer s H E hcd hr => ?_
  exact (dss_cons (ds_setLc (own := [("_law_move", 3)]) (di_seq (do_fld (fld_cons fx.a_Book_moves fld_nil) (do_name 0))) (fun s H C cl fp => (dg_name (i := 3) (show (3 : Nat) ∉ others 5 [3] from by decide))) (fun s H C cl fp => dts_nil) (fun s H C cl fp => (do_tup (dos_cons (do_fld (fld_cons fx.a_Move_place (fld_cons fx.a_Goal_place fld_nil)) (do_name 3)) (dos_cons (do_fld (fld_cons fx.a_Move_conditions (fld_cons fx.a_Goal_conditions fld_nil)) (do_name 3)) (dos_cons (do_fld (fld_cons fx.a_Move_shift fld_nil) (do_name 3)) (dos_cons (do_fld (fld_cons fx.a_Move_target fld_nil) (do_name 3)) dos_nil)))))) (blkOk_by (show blkC ["_law_made", "_law_moves", "_law_goals", "_law_move", "_law_goal"] (defScope s_law_told_book) _ [("_law_move", 3)] = true from by decide +kernel)))
    (dss_cons (ds_setLc (own := [("_law_goal", 4)]) (di_seq (do_fld (fld_cons fx.a_Book_goals fld_nil) (do_name 0))) (fun s H C cl fp => (dg_name (i := 4) (show (4 : Nat) ∉ others 5 [4] from by decide))) (fun s H C cl fp => dts_nil) (fun s H C cl fp => (do_tup (dos_cons (do_fld (fld_cons fx.a_Move_place (fld_cons fx.a_Goal_place fld_nil)) (do_name 4)) (dos_cons (do_fld (fld_cons fx.a_Move_conditions (fld_cons fx.a_Goal_conditions fld_nil)) (do_name 4)) dos_nil)))) (blkOk_by (show blkC ["_law_made", "_law_moves", "_law_goals", "_law_move", "_law_goal"] (defScope s_law_told_book) _ [("_law_goal", 4)] = true from by decide +kernel)))
    (dss_cons (ds_ret (do_dict (dps_cons (k := (.inr "sides")) pe_str (do_ty ok_list rfl fx.m_list (by decide +kernel) (dos_cons (do_fld (fld_cons fx.a_Book_sides fld_nil) (do_name 0)) dos_nil)) (dps_cons (k := (.inr "moves")) pe_str (do_name 1) (dps_cons (k := (.inr "goals")) pe_str (do_name 2) dps_nil)))))
    dss_nil)))
theorem g_law_told_book (fx : Fx w K mg base) : Gf P w K mg base "_law_told_book" 1 1 [false] d_law_told_book := by
  obtain ⟨fd, Fn⟩ := fx.d_law_told_book
  exact (a_law_told_book fx).gf fx.f_law_told_book Fn.kp
def b_Move___eq__ : M Fl := (sSeq (sIf (dNot (dTru (dPrim (g2 (gIsA csI tbI)) (dCons (dName 1) (dCons (dC (.fn "Move")) dNil))))) (sSeq (sRet (posOf 0 [false, false]) no)
    dNx) dNx)
    (sSeq (sRet (posOf 0 [false, false]) (dOp2 gEq (dTup (dCons (dFld ["Move", "Goal"] "place" (dName 0)) (dCons (dFld ["Move", "Goal"] "conditions" (dName 0)) (dCons (dFld ["Move"] "shift" (dName 0)) (dCons (dFld ["Move"] "target" (dName 0)) dNil))))) (dTup (dCons (dFld ["Move", "Goal"] "place" (dName 1)) (dCons (dFld ["Move", "Goal"] "conditions" (dName 1)) (dCons (dFld ["Move"] "shift" (dName 1)) (dCons (dFld ["Move"] "target" (dName 1)) dNil)))))))
    dNx))
def d_Move___eq__ : List D → OF := fden b_Move___eq__ 2 [false, false]
theorem sc_Move___eq__ : FnScope ["self", "other"] ["self", "other"] (defScope s_Move___eq__) := ⟨rfl, rfl, rfl, by decide +kernel, rfl, by decide +kernel, by decide +kernel⟩
theorem a_Move___eq__ (fx : Fx w K mg base) : Ga P w K mg base (He.fAd K ("Move", some "__eq__")) 13 2 [false, false] d_Move___eq__ := by
  obtain ⟨fd, Fn⟩ := fx.d_Move___eq__
  have Sc := sc_Move___eq__
  refine ga_d (k := 12) (ms := [false, false]) (g := b_Move___eq__) Fn Sc (Fn.bindsN fun _ _ _ _ _ _ us hl => match us, hl with | [_, _], _ => rfl) (by decide) fun cdv A outer s H E hcd hr => ?_
  exact (dss_cons (ds_if (dt_not (dt_tru (do_bi (ok_isA (isi_of fx) fx.seen) rfl fx.m_isinstance (by decide +kernel) (dos_cons (do_name 1) (dos_cons (do_fn rfl fx.f_Move) dos_nil))))) (dss_cons (ds_ret do_no)
    dss_nil) dss_nil)
    (dss_cons (ds_ret (do_cmp (ok_eq (hu64 hr)) (do_tup (dos_cons (do_fld (fld_cons fx.a_Move_place (fld_cons fx.a_Goal_place fld_nil)) (do_name 0)) (dos_cons (do_fld (fld_cons fx.a_Move_conditions (fld_cons fx.a_Goal_conditions fld_nil)) (do_name 0)) (dos_cons (do_fld (fld_cons fx.a_Move_shift fld_nil) (do_name 0)) (dos_cons (do_fld (fld_cons fx.a_Move_target fld_nil) (do_name 0)) dos_nil))))) (do_tup (dos_cons (do_fld (fld_cons fx.a_Move_place (fld_cons fx.a_Goal_place fld_nil)) (do_name 1)) (dos_cons (do_fld (fld_cons fx.a_Move_conditions (fld_cons fx.a_Goal_conditions fld_nil)) (do_name 1)) (dos_cons (do_fld (fld_cons fx.a_Move_shift fld_nil) (do_name 1)) (dos_cons (do_fld (fld_cons fx.a_Move_target fld_nil) (do_name 1)) dos_nil))))) (by rfl)))
    dss_nil))
abbrev g_Move___eq__ {P : Program} {w : World} {K : PySem.W.Frag} {mg : Str → Option Value} {base : Heap} (fx : Fx w K mg base) := a_Move___eq__ (P := P) fx
def b_Goal___eq__ : M Fl := (sSeq (sIf (dNot (dTru (dPrim (g2 (gIsA csI tbI)) (dCons (dName 1) (dCons (dC (.fn "Goal")) dNil))))) (sSeq (sRet (posOf 0 [false, false]) no)
    dNx) dNx)
    (sSeq (sRet (posOf 0 [false, false]) (dOp2 gEq (dTup (dCons (dFld ["Move", "Goal"] "place" (dName 0)) (dCons (dFld ["Move", "Goal"] "conditions" (dName 0)) dNil))) (dTup (dCons (dFld ["Move", "Goal"] "place" (dName 1)) (dCons (dFld ["Move", "Goal"] "conditions" (dName 1)) dNil)))))
    dNx))
def d_Goal___eq__ : List D → OF := fden b_Goal___eq__ 2 [false, false]
theorem sc_Goal___eq__ : FnScope ["self", "other"] ["self", "other"] (defScope s_Goal___eq__) := ⟨rfl, rfl, rfl, by decide +kernel, rfl, by decide +kernel, by decide +kernel⟩
theorem a_Goal___eq__ (fx : Fx w K mg base) : Ga P w K mg base (He.fAd K ("Goal", some "__eq__")) 13 2 [false, false] d_Goal___eq__ := by
  obtain ⟨fd, Fn⟩ := fx.d_Goal___eq__
  have Sc := sc_Goal___eq__
  refine ga_d (k := 12) (ms := [false, false]) (g := b_Goal___eq__) Fn Sc (Fn.bindsN fun _ _ _ _ _ _ us hl => match us, hl with | [_, _], _ => rfl) (by decide) fun cdv A outer s H E hcd hr => ?_
  exact (dss_cons (ds_if (dt_not (dt_tru (do_bi (ok_isA (isi_of fx) fx.seen) rfl fx.m_isinstance (by decide +kernel) (dos_cons (do_name 1) (dos_cons (do_fn rfl fx.f_Goal) dos_nil))))) (dss_cons (ds_ret do_no)
    dss_nil) dss_nil)
    (dss_cons (ds_ret (do_cmp (ok_eq (hu64 hr)) (do_tup (dos_cons (do_fld (fld_cons fx.a_Move_place (fld_cons fx.a_Goal_place fld_nil)) (do_name 0)) (dos_cons (do_fld (fld_cons fx.a_Move_conditions (fld_cons fx.a_Goal_conditions fld_nil)) (do_name 0)) dos_nil))) (do_tup (dos_cons (do_fld (fld_cons fx.a_Move_place (fld_cons fx.a_Goal_place fld_nil)) (do_name 1)) (dos_cons (do_fld (fld_cons fx.a_Move_conditions (fld_cons fx.a_Goal_conditions fld_nil)) (do_name 1)) dos_nil))) (by rfl)))
    dss_nil))
abbrev g_Goal___eq__ {P : Program} {w : World} {K : PySem.W.Frag} {mg : Str → Option Value} {base : Heap} (fx : Fx w K mg base) := a_Goal___eq__ (P := P) fx
def eqs_2 : List (Str × (List D → OF)) := [("Move", d_Move___eq__), ("Goal", d_Goal___eq__)]
theorem eqc_2 {X : Cx} (fx : Fx X.w X.K X.mg X.base) : ∀ c f, eqs_2.lookup c = some f → EqC X 13 c f := (eqc_cons fx.eq_Move (a_Move___eq__ fx) (by decide) (eqc_cons fx.eq_Goal (a_Goal___eq__ fx) (by decide) eqc_nil))
theorem nec_2 {X : Cx} (fx : Fx X.w X.K X.mg X.base) : ∀ c f, eqs_2.lookup c = some f → NeC X 13 c f := (nec_cons fx.ne_Move (a_Move___eq__ fx) (by decide) (nec_cons fx.ne_Goal (a_Goal___eq__ fx) (by decide) nec_nil))
def b_Book___eq__ : M Fl := (sSeq (sIf (dNot (dTru (dPrim (g2 (gIsA csI tbI)) (dCons (dName 1) (dCons (dC (.fn "Book")) dNil))))) (sSeq (sRet (posOf 0 [false, false]) no)
    dNx) dNx)
    (sSeq (sRet (posOf 0 [false, false]) (dOp2 (gEqQ eqs_2) (dTup (dCons (dFld ["Book"] "sides" (dName 0)) (dCons (dFld ["Book"] "moves" (dName 0)) (dCons (dFld ["Book"] "goals" (dName 0)) dNil)))) (dTup (dCons (dFld ["Book"] "sides" (dName 1)) (dCons (dFld ["Book"] "moves" (dName 1)) (dCons (dFld ["Book"] "goals" (dName 1)) dNil))))))
    dNx))
def d_Book___eq__ : List D → OF := fden b_Book___eq__ 2 [false, false]
theorem sc_Book___eq__ : FnScope ["self", "other"] ["self", "other"] (defScope s_Book___eq__) := ⟨rfl, rfl, rfl, by decide +kernel, rfl, by decide +kernel, by decide +kernel⟩
theorem a_Book___eq__ (fx : Fx w K mg base) : Ga P w K mg base (He.fAd K ("Book", some "__eq__")) 37 2 [false, false] d_Book___eq__ := by
  obtain ⟨fd, Fn⟩ := fx.d_Book___eq__
  have Sc := sc_Book___eq__
  refine ga_d (k := 36) (ms := [false, false]) (g := b_Book___eq__) Fn Sc (Fn.bindsN fun _ _ _ _ _ _ us hl => match us, hl with | [_, _], _ => rfl) (by decide) fun cdv A outer s H E hcd hr => ?_
  exact (dss_cons (ds_if (dt_not (dt_tru (do_bi (ok_isA (isi_of fx) fx.seen) rfl fx.m_isinstance (by decide +kernel) (dos_cons (do_name 1) (dos_cons (do_fn rfl fx.f_Book) dos_nil))))) (dss_cons (ds_ret do_no)
    dss_nil) dss_nil)
    (dss_cons (ds_ret (do_cmp (ok_eqQ (kc := 13) (hu64 hr) (eqc_2 fx) (hr.mono (by omega))) (do_tup (dos_cons (do_fld (fld_cons fx.a_Book_sides fld_nil) (do_name 0)) (dos_cons (do_fld (fld_cons fx.a_Book_moves fld_nil) (do_name 0)) (dos_cons (do_fld (fld_cons fx.a_Book_goals fld_nil) (do_name 0)) dos_nil)))) (do_tup (dos_cons (do_fld (fld_cons fx.a_Book_sides fld_nil) (do_name 1)) (dos_cons (do_fld (fld_cons fx.a_Book_moves fld_nil) (do_name 1)) (dos_cons (do_fld (fld_cons fx.a_Book_goals fld_nil) (do_name 1)) dos_nil)))) (by rfl)))
    dss_nil))
abbrev g_Book___eq__ {P : Program} {w : World} {K : PySem.W.Frag} {mg : Str → Option Value} {base : Heap} (fx : Fx w K mg base) := a_Book___eq__ (P := P) fx
theorem df_Move (fx : Fx w K mg base) : DecF P w K mg base (He.fAd K ("Move", some "__eq__")) 2 (fun dx dy => isUn dy = false ∧ isF (gIsA csI tbI dy (.fn "Move")) = true) := by
  obtain ⟨fd, Fn⟩ := fx.d_Move___eq__
  have Sc := sc_Move___eq__
  refine ⟨fun A outer s H us x y dx dy F R Q hr e0 r S ht hQ => (decF_of (k := 1) Fn Sc (Fn.bindsN fun _ _ _ _ _ _ us hl => match us, hl with | [_, _], _ => rfl) rfl (by decide) (fun cdv A outer s H E hr => (dt_not (dt_tru (do_bi (ok_isA (isi_of fx) fx.seen) rfl fx.m_isinstance (by decide +kernel) (dos_cons (do_name 1) (dos_cons (do_fn rfl fx.f_Move) dos_nil)))))) (fun cdv A outer s H E => rfl) fx.m_NotImplemented).run A outer s H us x y dx dy F R Q hr e0 r S (dec_test ht.1 ht.2) hQ⟩
theorem df_Goal (fx : Fx w K mg base) : DecF P w K mg base (He.fAd K ("Goal", some "__eq__")) 2 (fun dx dy => isUn dy = false ∧ isF (gIsA csI tbI dy (.fn "Goal")) = true) := by
  obtain ⟨fd, Fn⟩ := fx.d_Goal___eq__
  have Sc := sc_Goal___eq__
  refine ⟨fun A outer s H us x y dx dy F R Q hr e0 r S ht hQ => (decF_of (k := 1) Fn Sc (Fn.bindsN fun _ _ _ _ _ _ us hl => match us, hl with | [_, _], _ => rfl) rfl (by decide) (fun cdv A outer s H E hr => (dt_not (dt_tru (do_bi (ok_isA (isi_of fx) fx.seen) rfl fx.m_isinstance (by decide +kernel) (dos_cons (do_name 1) (dos_cons (do_fn rfl fx.f_Goal) dos_nil)))))) (fun cdv A outer s H E => rfl) fx.m_NotImplemented).run A outer s H us x y dx dy F R Q hr e0 r S (dec_test ht.1 ht.2) hQ⟩
theorem df_Book (fx : Fx w K mg base) : DecF P w K mg base (He.fAd K ("Book", some "__eq__")) 2 (fun dx dy => isUn dy = false ∧ isF (gIsA csI tbI dy (.fn "Book")) = true) := by
  obtain ⟨fd, Fn⟩ := fx.d_Book___eq__
  have Sc := sc_Book___eq__
  refine ⟨fun A outer s H us x y dx dy F R Q hr e0 r S ht hQ => (decF_of (k := 1) Fn Sc (Fn.bindsN fun _ _ _ _ _ _ us hl => match us, hl with | [_, _], _ => rfl) rfl (by decide) (fun cdv A outer s H E hr => (dt_not (dt_tru (do_bi (ok_isA (isi_of fx) fx.seen) rfl fx.m_isinstance (by decide +kernel) (dos_cons (do_name 1) (dos_cons (do_fn rfl fx.f_Book) dos_nil)))))) (fun cdv A outer s H E => rfl) fx.m_NotImplemented).run A outer s H us x y dx dy F R Q hr e0 r S (dec_test ht.1 ht.2) hQ⟩
theorem dcs_all {X : Cx} (fx : Fx X.w X.K X.mg X.base) : ∀ c ∈ dcs, DecC X 2 (gIsA csI tbI) dcs c := (decs_cons (decC_mk fx.eq_Move fx.dc_Move (df_Move fx)) (decs_cons (decC_mk fx.eq_Goal fx.dc_Goal (df_Goal fx)) (decs_cons (decC_mk fx.eq_Book fx.dc_Book (df_Book fx)) decs_nil)))
def eqs_3 : List (Str × (List D → OF)) := [("Move", d_Move___eq__), ("Goal", d_Goal___eq__), ("Book", d_Book___eq__)]
theorem eqc_3 {X : Cx} (fx : Fx X.w X.K X.mg X.base) : ∀ c f, eqs_3.lookup c = some f → EqC X 37 c f := (eqc_cons fx.eq_Move (a_Move___eq__ fx) (by decide) (eqc_cons fx.eq_Goal (a_Goal___eq__ fx) (by decide) (eqc_cons fx.eq_Book (a_Book___eq__ fx) (by decide) eqc_nil)))
theorem nec_3 {X : Cx} (fx : Fx X.w X.K X.mg X.base) : ∀ c f, eqs_3.lookup c = some f → NeC X 37 c f := (nec_cons fx.ne_Move (a_Move___eq__ fx) (by decide) (nec_cons fx.ne_Goal (a_Goal___eq__ fx) (by decide) (nec_cons fx.ne_Book (a_Book___eq__ fx) (by decide) nec_nil)))
def b_law : M Fl := (sSeq (sSet 1 (dCall [false] d_law_pen (dCons (dName 0) dNil)))
    (sSeq (sSet 2 (dCall [true] d_law_drawn_book (dCons (dName 1) dNil)))
    (sSeq (sSet 3 (dCall [true, false] d_law_made_book (dCons (dName 1) (dCons (dName 2) dNil))))
    (sSeq (sIf (dOr (dBl (dCmpc (gNeX eqs_3) (dCall [false] d_law_told_book (dCons (dName 3) dNil)) (dName 2))) (dOr (dBl (dCmpc (gNeX eqs_3) (dFld ["Book"] "places" (dName 3)) (dPrim (g1 gLen) (dCons (dOp2 gIx (dName 2) (dC (.str "sides"))) dNil)))) (dNot (dTru (dPrim (g2 (gIsA csI tbI)) (dCons (dFld ["Book"] "sides" (dName 3)) (dCons (dC (.ty "tuple")) dNil))))))) (sSeq (sRet (posOf 0 [false]) (dC (.bl false)))
    dNx) dNx)
    (sSeq (sIf (dOr (dNot (dTru (dPrim (g2 (gIsA csI tbI)) (dCons (dFld ["Book"] "moves" (dName 3)) (dCons (dC (.ty "tuple")) dNil))))) (dNot (dTru (dPrim (g2 (gIsA csI tbI)) (dCons (dFld ["Book"] "goals" (dName 3)) (dCons (dC (.ty "tuple")) dNil)))))) (sSeq (sRet (posOf 0 [false]) (dC (.bl false)))
    dNx) dNx)
    (sSeq (sIf (dBl (dCmpc (gNeX eqs_3) (dLc ([("_law_move", 7)].map (·.2)) (iSeq (dFld ["Book"] "moves" (dName 3))) (gSet 7) (dNot (dTru (dPrim (g2 (gIsA csI tbI)) (dCons (dFld ["Move", "Goal"] "conditions" (dName 7)) (dCons (dC (.ty "tuple")) dNil))))) (dName 7)) (dLst dNil))) (sSeq (sRet (posOf 0 [false]) (dC (.bl false)))
    dNx) dNx)
    (sSeq (sIf (dOr (dNot (dBl (dCmpc (gEqX (gIsA csI tbI) eqs_3 dcs) (dName 3) (dCall [true, false] d_law_made_book (dCons (dName 1) (dCons (dName 2) dNil)))))) (dOr (dBl (dCmpc (gEqX (gIsA csI tbI) eqs_3 dcs) (dName 3) (dName 2))) (dBl (dCmpc (gNeX eqs_3) (dName 3) (dCall [true, false] d_law_made_book (dCons (dName 1) (dCons (dName 2) dNil))))))) (sSeq (sRet (posOf 0 [false]) (dC (.bl false)))
    dNx) dNx)
    (sSeq (sSet 4 (dDict [(.inr "sides"), (.inr "moves"), (.inr "goals")] (dCons (dOp2 gIx (dName 2) (dC (.str "sides"))) (dCons (dOp2 gAdd (dOp2 gIx (dName 2) (dC (.str "moves"))) (dLst (dCons (dTup (dCons (dC (.int 0)) (dCons (dTup dNil) (dCons (dC (.int 0)) (dCons (dC (.int 0)) dNil))))) dNil))) (dCons (dOp2 gIx (dName 2) (dC (.str "goals"))) dNil)))))
    (sSeq (sIf (dOr (dBl (dCmpc (gEqX (gIsA csI tbI) eqs_3 dcs) (dName 3) (dCall [true, false] d_law_made_book (dCons (dName 1) (dCons (dName 4) dNil))))) (dBl (dCmpc (gEqX (gIsA csI tbI) eqs_3 dcs) (dName 3) (dMake "Book" [false, false, false] d_Book_init (dCons (dLc ([("_law_side", 8)].map (·.2)) (iSeq (dFld ["Book"] "sides" (dName 3))) (gSet 8) tYesD (dOp2 gSub (dC (.int 1)) (dName 8))) (dCons (dFld ["Book"] "moves" (dName 3)) (dCons (dFld ["Book"] "goals" (dName 3)) dNil))))))) (sSeq (sRet (posOf 0 [false]) (dC (.bl false)))
    dNx) dNx)
    (sSeq (sSet 5 (dLst (dCons (dLst (dCons (dC (.str "least")) (dCons (dC (.int 2)) dNil))) (dCons (dTup (dCons (dC (.str "rest")) (dCons (dC (.int 3)) (dCons (dC (.int 1)) dNil)))) dNil))))
    (sSeq (sSet 6 (dMake "Move" [false, true, false, false] d_Move_init (dCons (dC (.int 0)) (dCons (dName 5) (dCons (dC (.int 5)) (dCons (dC (.int 1)) dNil))))))
    (sSeq (sApp 5 (dC (.int 5)))
    (sSeq (sIf (dOr (dBl (dCmpc (gNeX eqs_3) (dFld ["Move", "Goal"] "conditions" (dName 6)) (dTup (dCons (dTup (dCons (dC (.str "least")) (dCons (dC (.int 2)) dNil))) (dCons (dTup (dCons (dC (.str "rest")) (dCons (dC (.int 3)) (dCons (dC (.int 1)) dNil)))) dNil))))) (dBl (dCmpc (gNeX eqs_3) (dName 6) (dMake "Move" [false, true, false, false] d_Move_init (dCons (dC (.int 0)) (dCons (dTup (dCons (dTup (dCons (dC (.str "least")) (dCons (dC (.int 2)) dNil))) (dCons (dTup (dCons (dC (.str "rest")) (dCons (dC (.int 3)) (dCons (dC (.int 1)) dNil)))) dNil))) (dCons (dC (.int 5)) (dCons (dC (.int 1)) dNil)))))))) (sSeq (sRet (posOf 0 [false]) (dC (.bl false)))
    dNx) dNx)
    (sSeq (sIf (dOr (dBl (dCmpc (gEqX (gIsA csI tbI) eqs_3 dcs) (dName 6) (dMake "Goal" [false, false] d_Goal_init (dCons (dC (.int 0)) (dCons (dFld ["Move", "Goal"] "conditions" (dName 6)) dNil))))) (dOr (dBl (dCmpc (gNeX eqs_3) (dMake "Goal" [false, false] d_Goal_init (dCons (dC (.int 1)) (dCons (dLst (dCons (dLst (dCons (dC (.str "is")) (dCons (dC (.int 3)) dNil))) dNil)) dNil))) (dMake "Goal" [false, false] d_Goal_init (dCons (dC (.int 1)) (dCons (dTup (dCons (dTup (dCons (dC (.str "is")) (dCons (dC (.int 3)) dNil))) dNil)) dNil))))) (dBl (dCmpc (gEqX (gIsA csI tbI) eqs_3 dcs) (dName 6) (dMake "Move" [false, true, false, false] d_Move_init (dCons (dC (.int 0)) (dCons (dTup dNil) (dCons (dC (.int 5)) (dCons (dC (.int 1)) dNil))))))))) (sSeq (sRet (posOf 0 [false]) (dC (.bl false)))
    dNx) dNx)
    (sSeq (sRet (posOf 0 [false]) (dCall [true, false, false] d_law_faults_right (dCons (dName 1) (dCons (dName 2) (dCons (dName 3) dNil)))))
    dNx)))))))))))))))
def d_law : List D → OF := fden b_law 9 [false]
theorem sc_law : FnScope ["_law_script", "_law_pen_here", "_law_book", "_law_made", "_law_other", "_law_given", "_law_kept", "_law_move", "_law_side"] ["_law_script"] (defScope s_law) := ⟨rfl, rfl, rfl, by decide +kernel, rfl, by decide +kernel, by decide +kernel⟩
theorem fn_law (fx : Fx w K mg base) {fd : FuncData} (Fn : FunD K "law" "law" (defArgs s_law) (defBody s_law) (defScope s_law) [] [] (He.fAd K ("law", none)) fd) : FnOk P w K mg base (L2.CX P w) 61 (He.fAd K ("law", none)) fd ["_law_script"] (spOf K mg 1 [false] d_law) := by
  have Sc := sc_law
  refine fn_d (k := 60) (ms := [false]) (g := b_law) Fn Sc (by decide) fun cdv A outer s H E hcd hr => ?_
  exact (dss_cons (ds_set (i := 1) (do_call (g_law_pen fx) (hr.mono (by omega)) rfl (dos_cons (do_name 0) dos_nil)))
    (dss_cons (ds_set (i := 2) (do_call (g_law_drawn_book fx) (hr.mono (by omega)) rfl (dos_cons (do_name 1) dos_nil)))
    (dss_cons (ds_set (i := 3) (do_call (g_law_made_book fx) (hr.mono (by omega)) rfl (dos_cons (do_name 1) (dos_cons (do_name 2) dos_nil))))
    (dss_cons (ds_if (dt_w (dw_or (dt_cmpc (ok_neX (kc := 37) (hu65 hr) (eqc_3 fx) (nec_3 fx) (hr.mono (by omega))) (do_call (g_law_told_book fx) (hr.mono (by omega)) rfl (dos_cons (do_name 3) dos_nil)) (do_name 2) (by rfl)) (dw_or (dt_cmpc (ok_neX (kc := 37) (hu65 hr) (eqc_3 fx) (nec_3 fx) (hr.mono (by omega))) (do_fld (fld_cons fx.a_Book_places fld_nil) (do_name 3)) (do_bi ok_len rfl fx.m_len (by decide +kernel) (dos_cons (do_ix (ok_ix (hu1 hr)) (do_name 2) do_str) dos_nil)) (by rfl)) (dw_or1 (dt_not (dt_tru (do_bi (ok_isA (isi_of fx) fx.seen) rfl fx.m_isinstance (by decide +kernel) (dos_cons (do_fld (fld_cons fx.a_Book_sides fld_nil) (do_name 3)) (dos_cons (do_tyN rfl fx.m_tuple (by decide +kernel)) dos_nil))))))))) (dss_cons (ds_ret do_bl)
    dss_nil) dss_nil)
    (dss_cons (ds_if (dt_w (dw_or (dt_not (dt_tru (do_bi (ok_isA (isi_of fx) fx.seen) rfl fx.m_isinstance (by decide +kernel) (dos_cons (do_fld (fld_cons fx.a_Book_moves fld_nil) (do_name 3)) (dos_cons (do_tyN rfl fx.m_tuple (by decide +kernel)) dos_nil))))) (dw_or1 (dt_not (dt_tru (do_bi (ok_isA (isi_of fx) fx.seen) rfl fx.m_isinstance (by decide +kernel) (dos_cons (do_fld (fld_cons fx.a_Book_goals fld_nil) (do_name 3)) (dos_cons (do_tyN rfl fx.m_tuple (by decide +kernel)) dos_nil)))))))) (dss_cons (ds_ret do_bl)
    dss_nil) dss_nil)
    (dss_cons (ds_if (dt_cmpc (ok_neX (kc := 37) (hu65 hr) (eqc_3 fx) (nec_3 fx) (hr.mono (by omega))) (do_lc (own := [("_law_move", 7)]) (di_seq (do_fld (fld_cons fx.a_Book_moves fld_nil) (do_name 3))) (fun s H C cl fp => (dg_name (i := 7) (show (7 : Nat) ∉ others 9 [7] from by decide))) (fun s H C cl fp => (dts_one (dt_not (dt_tru (do_bi (ok_isA (isi_of fx) fx.seen) rfl fx.m_isinstance (by decide +kernel) (dos_cons (do_fld (fld_cons fx.a_Move_conditions (fld_cons fx.a_Goal_conditions fld_nil)) (do_name 7)) (dos_cons (do_tyN rfl fx.m_tuple (by decide +kernel)) dos_nil))))))) (fun s H C cl fp => (do_name 7)) (blkOk_by (show blkC ["_law_script", "_law_pen_here", "_law_book", "_law_made", "_law_other", "_law_given", "_law_kept", "_law_move", "_law_side"] (defScope s_law) _ [("_law_move", 7)] = true from by decide +kernel))) (do_lst dos_nil) (by rfl)) (dss_cons (ds_ret do_bl)
    dss_nil) dss_nil)
    (dss_cons (ds_if (dt_w (dw_or (dt_not (dt_cmpc (ok_eqX (kc := 37) (hu65 hr) (eqc_3 fx) (hr.mono (by omega)) (dcs_all fx)) (do_name 3) (do_call (g_law_made_book fx) (hr.mono (by omega)) rfl (dos_cons (do_name 1) (dos_cons (do_name 2) dos_nil))) (by rfl))) (dw_or (dt_cmpc (ok_eqX (kc := 37) (hu65 hr) (eqc_3 fx) (hr.mono (by omega)) (dcs_all fx)) (do_name 3) (do_name 2) (by rfl)) (dw_or1 (dt_cmpc (ok_neX (kc := 37) (hu65 hr) (eqc_3 fx) (nec_3 fx) (hr.mono (by omega))) (do_name 3) (do_call (g_law_made_book fx) (hr.mono (by omega)) rfl (dos_cons (do_name 1) (dos_cons (do_name 2) dos_nil))) (by rfl)))))) (dss_cons (ds_ret do_bl)
    dss_nil) dss_nil)
    (dss_cons (ds_set (i := 4) (do_dict (dps_cons (k := (.inr "sides")) pe_str (do_ix (ok_ix (hu1 hr)) (do_name 2) do_str) (dps_cons (k := (.inr "moves")) pe_str (do_op ok_add (do_ix (ok_ix (hu1 hr)) (do_name 2) do_str) (do_lst (dos_cons (do_tup (dos_cons do_int (dos_cons (do_tup dos_nil) (dos_cons do_int (dos_cons do_int dos_nil))))) dos_nil))) (dps_cons (k := (.inr "goals")) pe_str (do_ix (ok_ix (hu1 hr)) (do_name 2) do_str) dps_nil)))))
    (dss_cons (ds_if (dt_w (dw_or (dt_cmpc (ok_eqX (kc := 37) (hu65 hr) (eqc_3 fx) (hr.mono (by omega)) (dcs_all fx)) (do_name 3) (do_call (g_law_made_book fx) (hr.mono (by omega)) rfl (dos_cons (do_name 1) (dos_cons (do_name 4) dos_nil))) (by rfl)) (dw_or1 (dt_cmpc (ok_eqX (kc := 37) (hu65 hr) (eqc_3 fx) (hr.mono (by omega)) (dcs_all fx)) (do_name 3) (do_make (g_Book_init fx) fx.mk_Book (hr.mono (by omega)) rfl (dos_cons (do_lc (own := [("_law_side", 8)]) (di_seq (do_fld (fld_cons fx.a_Book_sides fld_nil) (do_name 3))) (fun s H C cl fp => (dg_name (i := 8) (show (8 : Nat) ∉ others 9 [8] from by decide))) (fun s H C cl fp => dts_nil) (fun s H C cl fp => (do_op ok_sub do_int (do_name 8))) (blkOk_by (show blkC ["_law_script", "_law_pen_here", "_law_book", "_law_made", "_law_other", "_law_given", "_law_kept", "_law_move", "_law_side"] (defScope s_law) _ [("_law_side", 8)] = true from by decide +kernel))) (dos_cons (do_fld (fld_cons fx.a_Book_moves fld_nil) (do_name 3)) (dos_cons (do_fld (fld_cons fx.a_Book_goals fld_nil) (do_name 3)) dos_nil)))) (by rfl))))) (dss_cons (ds_ret do_bl)
    dss_nil) dss_nil)
    (dss_cons (ds_set (i := 5) (do_lst (dos_cons (do_lst (dos_cons do_str (dos_cons do_int dos_nil))) (dos_cons (do_tup (dos_cons do_str (dos_cons do_int (dos_cons do_int dos_nil)))) dos_nil))))
    (dss_cons (ds_set (i := 6) (do_make (g_Move_init fx) fx.mk_Move (hr.mono (by omega)) rfl (dos_cons do_int (dos_cons (do_name 5) (dos_cons do_int (dos_cons do_int dos_nil))))))
    (dss_cons (ds_app (j := 5) do_int)
    (dss_cons (ds_if (dt_w (dw_or (dt_cmpc (ok_neX (kc := 37) (hu65 hr) (eqc_3 fx) (nec_3 fx) (hr.mono (by omega))) (do_fld (fld_cons fx.a_Move_conditions (fld_cons fx.a_Goal_conditions fld_nil)) (do_name 6)) (do_tup (dos_cons (do_tup (dos_cons do_str (dos_cons do_int dos_nil))) (dos_cons (do_tup (dos_cons do_str (dos_cons do_int (dos_cons do_int dos_nil)))) dos_nil))) (by rfl)) (dw_or1 (dt_cmpc (ok_neX (kc := 37) (hu65 hr) (eqc_3 fx) (nec_3 fx) (hr.mono (by omega))) (do_name 6) (do_make (g_Move_init fx) fx.mk_Move (hr.mono (by omega)) rfl (dos_cons do_int (dos_cons (do_tup (dos_cons (do_tup (dos_cons do_str (dos_cons do_int dos_nil))) (dos_cons (do_tup (dos_cons do_str (dos_cons do_int (dos_cons do_int dos_nil)))) dos_nil))) (dos_cons do_int (dos_cons do_int dos_nil))))) (by rfl))))) (dss_cons (ds_ret do_bl)
    dss_nil) dss_nil)
    (dss_cons (ds_if (dt_w (dw_or (dt_cmpc (ok_eqX (kc := 37) (hu65 hr) (eqc_3 fx) (hr.mono (by omega)) (dcs_all fx)) (do_name 6) (do_make (g_Goal_init fx) fx.mk_Goal (hr.mono (by omega)) rfl (dos_cons do_int (dos_cons (do_fld (fld_cons fx.a_Move_conditions (fld_cons fx.a_Goal_conditions fld_nil)) (do_name 6)) dos_nil))) (by rfl)) (dw_or (dt_cmpc (ok_neX (kc := 37) (hu65 hr) (eqc_3 fx) (nec_3 fx) (hr.mono (by omega))) (do_make (g_Goal_init fx) fx.mk_Goal (hr.mono (by omega)) rfl (dos_cons do_int (dos_cons (do_lst (dos_cons (do_lst (dos_cons do_str (dos_cons do_int dos_nil))) dos_nil)) dos_nil))) (do_make (g_Goal_init fx) fx.mk_Goal (hr.mono (by omega)) rfl (dos_cons do_int (dos_cons (do_tup (dos_cons (do_tup (dos_cons do_str (dos_cons do_int dos_nil))) dos_nil)) dos_nil))) (by rfl)) (dw_or1 (dt_cmpc (ok_eqX (kc := 37) (hu65 hr) (eqc_3 fx) (hr.mono (by omega)) (dcs_all fx)) (do_name 6) (do_make (g_Move_init fx) fx.mk_Move (hr.mono (by omega)) rfl (dos_cons do_int (dos_cons (do_tup dos_nil) (dos_cons do_int (dos_cons do_int dos_nil))))) (by rfl)))))) (dss_cons (ds_ret do_bl)
    dss_nil) dss_nil)
    (dss_cons (ds_ret (do_call (g_law_faults_right fx) (hr.mono (by omega)) rfl (dos_cons (do_name 1) (dos_cons (do_name 2) (dos_cons (do_name 3) dos_nil)))))
    dss_nil)))))))))))))))
end Lw
set_option maxHeartbeats 3900000
namespace PI
open L2 PySem PyProof.Rows PySem.Spec
section
variable {α β : Type}
inductive U1 {A : Sort _} (a : A) : Type where
  | u
abbrev XP : Type := Str → List Str → List D → List D → Prop
def T (m : M α) (e : List D) (Q : α → List D → Prop) (X : XP) (_ : U1 m := .u) (_ : U1 Q := .u) (_ : U1 X := .u) : Prop := wpO (m e) Q X
structure TF (o : OF) (Q : D → List D → Prop) (X : XP) (_ : U1 Q := .u) (_ : U1 X := .u) : Prop where
  run : wpF o Q X
theorem TF_def {o : OF} {Q : D → List D → Prop} {X : XP} {u : U1 Q} {v : U1 X} : TF o Q X u v = wpF o Q X := propext ⟨fun h => h.run, fun h => ⟨h⟩⟩
def xF : XP := fun _ _ _ _ => False
theorem cg2 {A B C : Type} {f : A → B → C} {a a' : A} {b b' : B} (h : a = a') (h2 : b = b') : f a b = f a' b' := by rw [h, h2]
def EX {A : Type} (o : Option A) (Q : A → Prop) (_ : U1 Q := .u) : Prop := ∃ a, o = some a ∧ Q a
def BL (d : D) (Q : Bool → Prop) (_ : U1 Q := .u) : Prop := ∃ b, d = .bl b ∧ Q b
def INT (d : D) (Q : Int → Prop) (_ : U1 Q := .u) : Prop := ∃ b, d = .int b ∧ Q b
def LS (d : D) (Q : List D → Prop) (_ : U1 Q := .u) : Prop := ∃ b, d = .nd (.lst true) b ∧ Q b
def FN (d : D) (Q : Str → Prop) (_ : U1 Q := .u) : Prop := ∃ b, d = .fn b ∧ Q b
def IF (b : Bool) (p q : Prop) (_ : U1 p := .u) (_ : U1 q := .u) : Prop := if b = true then p else q
def MK (d : D) (bk : List D) (Q : D → List D → Prop) (_ : U1 Q := .u) : Prop := d = .non ∧ ∃ b bk', bk = b :: bk' ∧ Q b bk'
def MX (bk : List D) (Q : D → List D → Prop) (_ : U1 Q := .u) : Prop := ∃ b bk', bk = b :: bk' ∧ Q b bk'
theorem T.mono {m : M α} {e : List D} {Q Q' : α → List D → Prop} {X X' : XP} (h : T m e Q X) (h1 : ∀ a e', Q a e' → Q' a e') (h2 : ∀ c ns xs e', X c ns xs e' → X' c ns xs e') : T m e Q' X' := by
  unfold T at *
  revert h
  cases m e with
  | ok a e' => exact h1 _ _
  | ex c ns xs e' => exact h2 _ _ _ _
  | st => exact id
theorem TF.mono {o : OF} {Q Q' : D → List D → Prop} {X X' : XP} (h : TF o Q X) (h1 : ∀ a e', Q a e' → Q' a e') (h2 : ∀ c ns xs e', X c ns xs e' → X' c ns xs e') : TF o Q' X' := by
  rw [TF_def] at *
  revert h
  cases o with
  | ok a e' => exact h1 _ _
  | ex c ns xs e' => exact h2 _ _ _ _
  | st => exact id
theorem TF.sat {o : OF} {Q Q' : D → List D → Prop} {X : XP} (h : TF o Q xF) (h1 : ∀ a e', Q a e' → Q' a e') : TF o Q' X := h.mono h1 fun _ _ _ _ k => k.elim
theorem TF_ok {d : D} {bk : List D} {Q : D → List D → Prop} {X : XP} : TF (.ok d bk) Q X ↔ Q d bk := ⟨fun h => h.run, fun h => ⟨h⟩⟩
theorem TF.eq {o : OF} {d : D} {bk : List D} (h : TF o (fun a b => a = d ∧ b = bk) xF) : o = .ok d bk := by
  rw [TF_def] at h
  unfold wpF at h
  cases o with
  | ok a b => obtain ⟨rfl, rfl⟩ := h; rfl
  | ex => exact h.elim
  | st => exact h.elim
theorem T_cgr {m : M α} {e : List D} {Q Q' : α → List D → Prop} {X : XP} (h : ∀ a e', Q a e' ↔ Q' a e') : T m e Q X ↔ T m e Q' X := by
  have k : Q = Q' := funext fun a => funext fun e' => propext (h a e')
  rw [k]
theorem T_bd {m : M α} {f : α → M β} {e : List D} {Q : β → List D → Prop} {X : XP} : T (bd m f) e Q X ↔ T m e (fun a e' => T (f a) e' Q X) X := by
  unfold T bd
  cases m e <;> rfl
theorem T_ok {a : α} {e e' : List D} {Q : α → List D → Prop} {X : XP} : T (fun _ => O.ok a e') e Q X ↔ Q a e' := Iff.rfl
theorem T_rt {a : α} {e : List D} {Q : α → List D → Prop} {X : XP} : T (rt a) e Q X ↔ Q a e := Iff.rfl
variable {e : List D} {X : XP}
theorem T_nx {Q : Fl → List D → Prop} : T dNx e Q X ↔ Q .nx e := Iff.rfl
theorem T_seq {f g : M Fl} {Q : Fl → List D → Prop} : T (sSeq f g) e Q X ↔ T f e (fun fl e' => match fl with
    | .nx => T g e' Q X
    | .rt d => Q (.rt d) e'
    | .bk => Q .bk e'
    | .ct => Q .ct e') X := by
  unfold sSeq
  rw [T_bd]
  unfold T wpO
  cases f e with
  | ok fl e' => cases fl <;> rfl
  | _ => rfl
theorem T_expr {f : M Op} {Q : Fl → List D → Prop} : T (sExpr f) e Q X ↔ T f e (fun _ e' => Q .nx e') X := T_bd
theorem T_ret {pr : List Nat} {f : M Op} {Q : Fl → List D → Prop} : T (sRet pr f) e Q X ↔ T f e (fun o e' => match o with
    | .v d => Q (.rt d) e'
    | .s i => IF (isFz (e'.getD i .un)) (Q (.rt (e'.getD i .un)) e') (IF (decide (i ∈ pr)) (Q (.rt (cool (e'.getD i .un))) (coolAt e' i)) (Q (.rt (e'.getD i .un)) (e'.set i .un)))) X := by
  unfold sRet IF
  rw [T_bd]
  unfold T wpO
  cases f e with
  | ok o e' =>
    cases o with
    | v d => rfl
    | s i =>
      by_cases h : isFz (e'.getD i .un) = true
      · simp only [if_pos h]
      · by_cases h2 : i ∈ pr
        · simp only [if_neg h, if_pos h2, decide_eq_true_eq]
        · simp only [if_neg h, if_neg h2, decide_eq_true_eq]
  | _ => rfl
theorem T_set {i : Nat} {f : M Op} {Q : Fl → List D → Prop} : T (sSet i f) e Q X ↔ T f e (fun o e' => Q .nx ((escE e' o).set i (escD e' o))) X := T_bd
theorem T_if {t : M Bool} {f g : M Fl} {Q : Fl → List D → Prop} : T (sIf t f g) e Q X ↔ T t e (fun b e' => IF b (T f e' Q X) (T g e' Q X)) X := by
  unfold sIf IF
  rw [T_bd]
  unfold T wpO
  cases t e with
  | ok b e' => cases b <;> rfl
  | _ => rfl
theorem T_name {i : Nat} {Q : Op → List D → Prop} : T (dName i) e Q X ↔ isUn (e.getD i .un) = false ∧ Q (.s i) e := by
  unfold T dName
  cases e.getD i .un <;> simp [isUn, wpO]
theorem T_C {d : D} {Q : Op → List D → Prop} : T (dC d) e Q X ↔ Q (.v d) e := Iff.rfl
theorem T_nil {Q : List Op → List D → Prop} : T dNil e Q X ↔ Q [] e := Iff.rfl
theorem T_cons {f : M Op} {g : M (List Op)} {Q : List Op → List D → Prop} : T (dCons f g) e Q X ↔ T f e (fun o e1 => T g e1 (fun os e2 => Q (o :: os) e2) X) X := by
  unfold dCons
  exact T_bd.trans (T_cgr fun o e1 => T_bd.trans (T_cgr fun os e2 => T_rt))
theorem T_ofO {o : Option α} {Q : α → List D → Prop} : T (ofO o) e Q X ↔ ∃ a, o = some a ∧ Q a e := by
  cases o <;> simp [T, ofO, wpO]
theorem T_op2 {g : D → D → Option D} {fa fb : M Op} {Q : Op → List D → Prop} : T (dOp2 g fa fb) e Q X ↔ T fa e (fun a e1 => T fb e1 (fun b e2 => EX (g (res e2 a) (res e2 b)) fun d => Q (.v d) e2) X) X := by
  unfold dOp2 EX
  refine T_bd.trans (T_cgr fun a e1 => T_bd.trans (T_cgr fun b e2 => ?_))
  refine iff_of_eq ?_
  unfold T
  try dsimp only
  cases g (res e2 a) (res e2 b) <;> simp [ofO, wpO]
theorem T_op1 {g : D → Option D} {fa : M Op} {Q : Op → List D → Prop} : T (dOp1 g fa) e Q X ↔ T fa e (fun a e1 => EX (g (res e1 a)) fun d => Q (.v d) e1) X := by
  unfold dOp1 EX
  simp only [T_bd]
  unfold T
  refine iff_of_eq (cg2  (funext fun a => funext fun e1 => ?_) rfl)
  try dsimp only
  cases g (res e1 a) <;> simp [ofO, wpO]
theorem T_fld {cs : List Str} {f : Str} {fa : M Op} {Q : Op → List D → Prop} : T (dFld cs f fa) e Q X ↔ T fa e (fun a e1 => EX (gFld cs f (res e1 a)) fun d => Q (.v d) e1) X := T_op1
theorem T_prim {g : List D → Option D} {f : M (List Op)} {Q : Op → List D → Prop} : T (dPrim g f) e Q X ↔ T f e (fun os e1 => EX (g (os.map (res e1))) fun d => Q (.v d) e1) X := by
  unfold dPrim EX
  simp only [T_bd]
  unfold T
  refine iff_of_eq (cg2  (funext fun a => funext fun e1 => ?_) rfl)
  try dsimp only
  cases g (a.map (res e1)) <;> simp [ofO, wpO]
theorem T_tup {f : M (List Op)} {Q : Op → List D → Prop} : T (dTup f) e Q X ↔ T f e (fun os e' => (cools os e').1.length ≤ sizeLine ∧ Q (.v (.nd .tup (cools os e').1)) (cools os e').2) X := by
  unfold dTup
  simp only [T_bd]
  unfold T
  refine iff_of_eq (cg2  (funext fun os => funext fun e1 => ?_) rfl)
  try dsimp only
  by_cases h : (cools os e1).1.length ≤ sizeLine <;> simp [h, wpO]
theorem T_lst {f : M (List Op)} {Q : Op → List D → Prop} : T (dLst f) e Q X ↔ T f e (fun os e' => (escs os e').1.length ≤ sizeLine ∧ Q (.v (.nd (.lst true) (escs os e').1)) (escs os e').2) X := by
  unfold dLst
  simp only [T_bd]
  unfold T
  refine iff_of_eq (cg2  (funext fun os => funext fun e1 => ?_) rfl)
  try dsimp only
  by_cases h : (escs os e1).1.length ≤ sizeLine <;> simp [h, wpO]
theorem T_dict {ks : List Key} {f : M (List Op)} {Q : Op → List D → Prop} : T (dDict ks f) e Q X ↔ T f e (fun os e' => Q (.v (.nd (.dk true ks) (cools os e').1)) (cools os e').2) X := T_bd
theorem T_tru {f : M Op} {Q : Bool → List D → Prop} : T (dTru f) e Q X ↔ T f e (fun o e' => EX (gTru (res e' o)) fun b => Q b e') X := by
  unfold dTru EX
  simp only [T_bd]
  unfold T
  refine iff_of_eq (cg2  (funext fun os => funext fun e1 => ?_) rfl)
  try dsimp only
  cases gTru (res e1 os) <;> simp [ofO, wpO]
theorem T_bl {f : M Op} {Q : Bool → List D → Prop} : T (dBl f) e Q X ↔ T f e (fun o e' => BL (res e' o) fun b => Q b e') X := by
  unfold dBl BL
  simp only [T_bd]
  unfold T
  refine iff_of_eq (cg2  (funext fun os => funext fun e1 => ?_) rfl)
  try dsimp only
  cases res e1 os <;> simp [wpO]
theorem T_not {f : M Bool} {Q : Bool → List D → Prop} : T (dNot f) e Q X ↔ T f e (fun b e' => Q (!b) e') X := T_bd
theorem T_and {f g : M Bool} {Q : Bool → List D → Prop} : T (dAnd f g) e Q X ↔ T f e (fun b e' => IF b (T g e' Q X) (Q false e')) X := by
  unfold dAnd IF
  simp only [T_bd]
  unfold T
  refine iff_of_eq (cg2  (funext fun b => funext fun e1 => ?_) rfl)
  try dsimp only
  cases b <;> rfl
theorem T_or {f g : M Bool} {Q : Bool → List D → Prop} : T (dOr f g) e Q X ↔ T f e (fun b e' => IF b (Q true e') (T g e' Q X)) X := by
  unfold dOr IF
  simp only [T_bd]
  unfold T
  refine iff_of_eq (cg2  (funext fun b => funext fun e1 => ?_) rfl)
  try dsimp only
  cases b <;> rfl
theorem T_ifx {f : M Bool} {g h : M Op} {Q : Op → List D → Prop} : T (dIf f g h) e Q X ↔ T f e (fun b e' => IF b (T g e' Q X) (T h e' Q X)) X := by
  unfold dIf IF
  simp only [T_bd]
  unfold T
  refine iff_of_eq (cg2  (funext fun b => funext fun e1 => ?_) rfl)
  try dsimp only
  cases b <;> rfl
theorem T_andV {f g : M Op} {Q : Op → List D → Prop} : T (dAndV f g) e Q X ↔ T f e (fun o e' => BL (res e' o) fun b => IF b (T g e' Q X) (Q (.v (.bl false)) e')) X := by
  unfold dAndV BL IF
  simp only [T_bd]
  unfold T
  refine iff_of_eq (cg2  (funext fun o => funext fun e1 => ?_) rfl)
  try dsimp only
  cases res e1 o with
  | bl b => cases b <;> simp [wpO]
  | _ => simp [wpO]
theorem T_orV {f g : M Op} {Q : Op → List D → Prop} : T (dOrV f g) e Q X ↔ T f e (fun o e' => BL (res e' o) fun b => IF b (Q (.v (.bl true)) e') (T g e' Q X)) X := by
  unfold dOrV BL IF
  simp only [T_bd]
  unfold T
  refine iff_of_eq (cg2  (funext fun o => funext fun e1 => ?_) rfl)
  try dsimp only
  cases res e1 o with
  | bl b => cases b <;> simp [wpO]
  | _ => simp [wpO]
theorem T_notV {f : M Op} {Q : Op → List D → Prop} : T (dNotV f) e Q X ↔ T f e (fun o e' => BL (res e' o) fun b => Q (.v (.bl (!b))) e') X := by
  unfold dNotV BL
  simp only [T_bd]
  unfold T
  refine iff_of_eq (cg2  (funext fun o => funext fun e1 => ?_) rfl)
  try dsimp only
  cases res e1 o <;> simp [wpO]
theorem T_chain {g g' : D → D → Option D} {fa fb fc : M Op} {Q : Op → List D → Prop} : T (dChain g g' fa fb fc) e Q X ↔ T fa e (fun a e1 => T fb e1 (fun b e2 => EX (g (res e2 a) (res e2 b)) fun z => BL z fun c =>
    IF c (T fc e2 (fun c e3 => EX (g' (res e3 b) (res e3 c)) fun d => Q (.v d) e3) X) (Q (.v (.bl false)) e2)) X) X := by
  unfold dChain EX BL IF
  refine T_bd.trans (T_cgr fun a e1 => T_bd.trans (T_cgr fun b e2 => ?_))
  refine iff_of_eq ?_
  unfold T
  try dsimp only
  cases h : g (res e2 a) (res e2 b) with
  | none => simp [wpO]
  | some d =>
    cases d with
    | bl c =>
      cases c with
      | false => simp [wpO]
      | true =>
        simp only [Option.some.injEq, D.bl.injEq, exists_eq_left', if_true]
        cases fc e2 with
        | ok c e3 =>
          simp only [O.bd_ok]
          unfold wpO
          try dsimp only
          generalize g' (res e3 b) (res e3 c) = z
          cases z <;> simp [ofO]
        | _ => rfl
    | _ => simp [wpO]
theorem T_call {ms : List Bool} {f : List D → OF} {fa : M (List Op)} {Q : Op → List D → Prop} : T (dCall ms f fa) e Q X ↔ T fa e (fun os e' => TF (f (pass ms os e').1) (fun d bk => Q (.v d) (give ms os bk (pass ms os e').2)) (fun c ns xs bk => X c ns xs (give ms os bk (pass ms os e').2))) X := by
  unfold dCall
  simp only [T_bd]
  unfold T
  refine iff_of_eq (cg2  (funext fun os => funext fun e1 => ?_) rfl)
  rw [TF_def]
  try dsimp only
  cases f (pass ms os e1).1 <;> rfl
theorem T_callV {i : Nat} {tb : List (Str × (List Bool × (List D → OF)))} {fa : M (List Op)} {Q : Op → List D → Prop} : T (dCallV i tb fa) e Q X ↔ FN (e.getD i .un) fun c => EX (tb.lookup c) fun q => T (dCall q.1 q.2 fa) e Q X := by
  unfold T dCallV FN EX
  cases e.getD i .un with
  | fn c =>
    cases h : tb.lookup c with
    | none => simp [wpO, h]
    | some q =>
      obtain ⟨ms, f⟩ := q
      exact ⟨fun k => ⟨c, rfl, _, h, by
        simp only [h] at k
        exact k⟩, fun ⟨c', e', q, h', k⟩ => by
        cases e'
        rw [h] at h'
        cases h'
        simp only [h]
        exact k⟩
  | _ => simp [wpO]
theorem T_make {c : Str} {ms : List Bool} {f : List D → OF} {fa : M (List Op)} {Q : Op → List D → Prop} : T (dMake c ms f fa) e Q X ↔ T fa e (fun os e' => TF (f (.nd (.ob true c []) [] :: (pass ms os e').1)) (fun d bk => MK d bk fun b bk' => Q (.v b) (give ms os bk' (pass ms os e').2)) (fun c ns xs bk => MX bk fun b bk' => X c ns xs (give ms os bk' (pass ms os e').2))) X := by
  unfold dMake MK MX
  simp only [T_bd]
  unfold T
  refine iff_of_eq (cg2  (funext fun os => funext fun e1 => ?_) rfl)
  rw [TF_def]
  try dsimp only
  cases f (.nd (.ob true c []) [] :: (pass ms os e1).1) with
  | ok d bk => cases d <;> cases bk <;> simp only [wpO, wpF] <;> first | exact (propext ⟨fun h => ⟨trivial, _, _, rfl, h⟩, fun ⟨_, _, _, h, k⟩ => by cases h; exact k⟩) | exact propext ⟨fun h => h.elim, fun h => by obtain ⟨h1, _, _, h2, _⟩ := h; first | (cases h2; done) | (cases h1; done)⟩ | simp
  | ex c ns xs bk => cases bk <;> simp only [wpO, wpF] <;> first | exact propext ⟨fun h => ⟨_, _, rfl, h⟩, fun ⟨_, _, h, k⟩ => by cases h; exact k⟩ | simp
  | st => rfl
theorem T_sub {j : Nat} {f fi : M Op} {Q : Fl → List D → Prop} : T (sSub j f fi) e Q X ↔ T f e (fun o e1 => isUn (e1.getD j .un) = false ∧ T fi e1 (fun oi e2 => EX (setT ((escE e2 o).getD j .un) (res (escE e2 o) oi) (escD e2 o)) fun t => Q .nx ((escE e2 o).set j t)) X) X := by
  unfold sSub EX
  refine T_bd.trans (T_cgr fun o e1 => T_bd.trans (T_name.trans (and_congr Iff.rfl (T_bd.trans (T_cgr fun oi e2 => ?_)))))
  refine iff_of_eq ?_
  unfold T
  try dsimp only
  cases setT ((escE e2 o).getD j .un) (res (escE e2 o) oi) (escD e2 o) <;> simp [wpO]
theorem T_app {j : Nat} {f : M Op} {Q : Fl → List D → Prop} : T (sApp j f) e Q X ↔ LS (e.getD j .un) fun _ => T f e (fun o e1 => LS ((escE e1 o).getD j .un) fun xs => xs.length < sizeLine ∧ Q .nx ((escE e1 o).set j (.nd (.lst true) (xs ++ [escD e1 o])))) X := by
  have k : ∀ (o : Op) (e1 : List D), wpO (match (escE e1 o).getD j .un with
    | .nd (.lst true) xs => if xs.length < sizeLine then O.ok Fl.nx ((escE e1 o).set j (.nd (.lst true) (xs ++ [escD e1 o]))) else .st
    | _ => .st) Q X ↔ LS ((escE e1 o).getD j .un) fun xs => xs.length < sizeLine ∧ Q .nx ((escE e1 o).set j (.nd (.lst true) (xs ++ [escD e1 o]))) := fun o e1 => by
    unfold wpO LS
    generalize (escE e1 o).getD j .un = z
    cases z with
    | nd k xs =>
      cases k with
      | lst b =>
        cases b with
        | true => by_cases h : xs.length < sizeLine <;> simp [h]
        | false => simp
      | _ => simp
    | _ => simp
  have kk : T f e (fun o e1 => LS ((escE e1 o).getD j .un) fun xs => xs.length < sizeLine ∧ Q .nx ((escE e1 o).set j (.nd (.lst true) (xs ++ [escD e1 o])))) X ↔ wpO ((f e).bd fun o en => match (escE en o).getD j .un with
    | .nd (.lst true) xs => if xs.length < sizeLine then .ok .nx ((escE en o).set j (.nd (.lst true) (xs ++ [escD en o]))) else .st
    | _ => .st) Q X := by
    unfold T
    cases f e with
    | ok o e1 => exact (k o e1).symm
    | _ => rfl
  rw [show (fun _ : List D => T f e (fun o e1 => LS ((escE e1 o).getD j .un) fun xs => xs.length < sizeLine ∧ Q .nx ((escE e1 o).set j (.nd (.lst true) (xs ++ [escD e1 o])))) X) = fun _ => _ from funext fun _ => propext kk]
  unfold T sApp LS
  generalize e.getD j .un = z
  cases z with
  | nd k xs =>
    cases k with
    | lst b =>
      cases b with
      | false => simp [wpO]
      | true => exact ⟨fun h => ⟨xs, rfl, h⟩, fun ⟨_, _, h⟩ => h⟩
    | _ => simp [wpO]
  | _ => simp [wpO]
theorem T_for {fi : M (List D)} {g : D → M Unit} {b : M Fl} {Q : Fl → List D → Prop} : T (sFor fi g b) e Q X ↔ T fi e (fun ds e' => T (loopD g b ds) e' Q X) X := T_bd
theorem T_lc {own : List Nat} {fi : M (List D)} {g : D → M Unit} {t : M Bool} {fe : M Op} {Q : Op → List D → Prop} : T (dLc own fi g t fe) e Q X ↔ T fi e (fun ds e1 => T (loopC own g t fe ds []) (wipeD e1 own) (fun acc e2 => Q (.v (.nd (.lst true) acc)) (restore e1 own e2)) xF) X := by
  unfold dLc
  simp only [T_bd]
  unfold T
  refine iff_of_eq (cg2  (funext fun ds => funext fun e1 => ?_) rfl)
  try dsimp only
  cases loopC own g t fe ds [] (wipeD e1 own) <;> rfl
theorem T_par {is : List Nat} {fa : M (List Op)} {Q : Fl → List D → Prop} : T (sPar is fa) e Q X ↔ T fa e (fun os e1 => EX (setsD is (escs os e1).1 (escs os e1).2) fun e2 => Q .nx e2) X := by
  unfold sPar EX
  simp only [T_bd]
  unfold T
  refine iff_of_eq (cg2  (funext fun os => funext fun e1 => ?_) rfl)
  try dsimp only
  cases setsD is (escs os e1).1 (escs os e1).2 <;> simp [wpO]
theorem T_fldS {cs : List Str} {j : Nat} {f : Str} {fe : M Op} {Q : Fl → List D → Prop} : T (sFldS cs j f fe) e Q X ↔ T fe e (fun o e1 => EX (putO cs f (cool (escD e1 o)) ((escE e1 o).getD j .un)) fun t => Q .nx ((escE e1 o).set j t)) X := by
  unfold sFldS EX
  simp only [T_bd]
  unfold T
  refine iff_of_eq (cg2  (funext fun o => funext fun e1 => ?_) rfl)
  try dsimp only
  cases putO cs f (cool (escD e1 o)) ((escE e1 o).getD j .un) <;> simp [wpO]
theorem T_raise {c : Str} {ns : List Str} {fa : M (List Op)} {Q : Fl → List D → Prop} : T (sRaise c ns fa) e Q X ↔ T fa e (fun os e1 => X c ns.reverse (cools os e1).1.reverse (cools os e1).2) X := T_bd
theorem T_iseq {f : M Op} {Q : List D → List D → Prop} : T (iSeq f) e Q X ↔ T f e (fun o e1 => EX (items (cool (escD e1 o))) fun ds => Q ds (escE e1 o)) X := by
  unfold iSeq EX
  simp only [T_bd]
  unfold T
  refine iff_of_eq (cg2  (funext fun o => funext fun e1 => ?_) rfl)
  try dsimp only
  cases items (cool (escD e1 o)) <;> simp [wpO]
theorem T_enum {f : M Op} {Q : List D → List D → Prop} : T (iEnumD f) e Q X ↔ T (iSeq f) e (fun ds e1 => Q (enumD 0 ds) e1) X := T_bd
theorem T_rg {f : M (List Op)} {Q : List D → List D → Prop} : T (iRg f) e Q X ↔ T f e (fun os e1 => match os.map (res e1) with
    | [.int j] => inR j = true ∧ Q (rng 0 j.toNat) e1
    | [.int i, .int j] => (inR i && inR j) = true ∧ Q (rng i (j - i).toNat) e1
    | _ => False) X := by
  unfold iRg
  simp only [T_bd]
  unfold T
  refine iff_of_eq (cg2  (funext fun os => funext fun e1 => ?_) rfl)
  try dsimp only
  split
  · next j h => by_cases q : inR j = true <;> simp [h, q, wpO]
  · next i j h => by_cases q : (inR i && inR j) = true <;> simp [h, q, wpO]
  · next h1 h2 =>
    first
      | rfl
      | (split
         · next j h => exact absurd h (h1 j)
         · next i j h => exact absurd h (h2 i j)
         · rfl)
theorem T_lrg {fa fb : M Op} {Q : Op → List D → Prop} : T (dListRg2 fa fb) e Q X ↔ T fa e (fun a e1 => T fb e1 (fun b e2 => INT (res e2 a) fun i => INT (res e2 b) fun j => rgOk i j = true ∧ Q (.v (.nd (.lst true) (rng i (j - i).toNat))) e2) X) X := by
  unfold dListRg2 INT
  refine T_bd.trans (T_cgr fun a e1 => T_bd.trans (T_cgr fun b e2 => ?_))
  refine iff_of_eq ?_
  unfold T
  try dsimp only
  cases res e2 a with
  | int i =>
    cases res e2 b with
    | int j => by_cases q : rgOk i j = true <;> simp [q, wpO]
    | _ => simp [wpO]
  | _ => simp [wpO]
theorem T_gset {i : Nat} {d : D} {Q : Unit → List D → Prop} : T (gSet i d) e Q X ↔ Q () (e.set i d) := Iff.rfl
theorem T_gtup2 {i j : Nat} {a b : D} {Q : Unit → List D → Prop} (h : isFz a = true) (h2 : isFz b = true) : T (gTup 2 (gsCons (gSet i) (gsCons (gSet j) gsNil)) (.nd .tup [a, b])) e Q X ↔ Q () ((e.set i a).set j b) := by
  unfold T gTup
  simp only [List.length_cons, List.length_nil, isFzL, h, h2, Bool.and_self, and_self, if_true]
  rfl
theorem T_yes {Q : Bool → List D → Prop} : T tYesD e Q X ↔ Q true e := Iff.rfl
/-- a def: its body -/
theorem TF_fden {g : M Fl} {m : Nat} {ms : List Bool} {ds : List D} {Q : D → List D → Prop} : TF (fden g m ms ds) Q X ↔ T g (ds ++ List.replicate (m - ds.length) .un) (fun fl en => match fl with
    | .nx => Q .non ((posOf 0 ms).map fun i => en.getD i .un)
    | .rt d => Q d ((posOf 0 ms).map fun i => en.getD i .un)
    | _ => False) (fun c ns xs en => X c ns xs ((posOf 0 ms).map fun i => en.getD i .un)) := by
  rw [TF_def]
  unfold fden T
  cases g (ds ++ List.replicate (m - ds.length) .un) with
  | ok fl en => cases fl <;> rfl
  | _ => rfl
theorem EX_some {A : Type} {a : A} {Q : A → Prop} : EX (some a) Q ↔ Q a := by simp [EX]
theorem BL_bl {b : Bool} {Q : Bool → Prop} : BL (.bl b) Q ↔ Q b := by simp [BL]
theorem INT_int {b : Int} {Q : Int → Prop} : INT (.int b) Q ↔ Q b := by simp [INT]
theorem FN_fn {b : Str} {Q : Str → Prop} : FN (.fn b) Q ↔ Q b := by simp [FN]
theorem LS_ls {b : List D} {Q : List D → Prop} : LS (.nd (.lst true) b) Q ↔ Q b := by simp [LS]
theorem MK_non {b : D} {bk : List D} {Q : D → List D → Prop} : MK .non (b :: bk) Q ↔ Q b bk := ⟨fun ⟨_, _, _, h, k⟩ => by cases h; exact k, fun h => ⟨rfl, _, _, rfl, h⟩⟩
theorem MX_cons {b : D} {bk : List D} {Q : D → List D → Prop} : MX (b :: bk) Q ↔ Q b bk := ⟨fun ⟨_, _, h, k⟩ => by cases h; exact k, fun h => ⟨_, _, rfl, h⟩⟩
theorem IF_true {p q : Prop} : IF true p q ↔ p := by simp [IF]
theorem IF_false {p q : Prop} : IF false p q ↔ q := by simp [IF]
theorem IF_mk {b : Bool} {p q : Prop} (h : b = true → p) (h2 : b = false → q) : IF b p q := by
  cases b
  · exact IF_false.mpr (h2 rfl)
  · exact IF_true.mpr (h rfl)
theorem IFd {c : Prop} [Decidable c] {p q : Prop} (h : c → p) (h2 : ¬c → q) : IF (decide c) p q := by
  by_cases k : c
  · rw [decide_eq_true k]; exact IF_true.mpr (h k)
  · rw [decide_eq_false k]; exact IF_false.mpr (h2 k)
theorem T_cut {f g : M Fl} {Q : Fl → List D → Prop} (P : List D → Prop) (h : T f e (fun fl e' => match fl with
    | .nx => P e'
    | _ => False) X) (h2 : ∀ e', P e' → T g e' Q X) : T (sSeq f g) e Q X := T_seq.mpr (h.mono (fun fl e' k => by
  cases fl with
  | nx => exact h2 e' k
  | _ => exact k.elim) fun _ _ _ _ k => k)
theorem T_loop {g : D → M Unit} {b : M Fl} {Q : Fl → List D → Prop} (I : List D → List D → Prop) (hs : ∀ d r e, I (d :: r) e → T (g d) e (fun _ e1 => T b e1 (fun fl e' => match fl with
    | .nx => I r e'
    | .ct => I r e'
    | .bk => Q .nx e'
    | .rt d => Q (.rt d) e') X) X) (h1 : ∀ e, I [] e → Q .nx e) : ∀ {ds e}, I ds e → T (loopD g b ds) e Q X
  | [], e, h => h1 e h
  | d :: r, e, h => by
    have q := hs d r e h
    show T (bd (g d) fun _ => bd b fun fl => match fl with
      | .nx => loopD g b r
      | .ct => loopD g b r
      | .bk => rt .nx
      | .rt d => rt (.rt d)) e Q X
    rw [T_bd]
    refine q.mono (fun _ e1 k => ?_) fun _ _ _ _ k => k
    rw [T_bd]
    refine k.mono (fun fl e' k => ?_) fun _ _ _ _ k => k
    cases fl with
    | nx => exact T_loop I hs h1 k
    | ct => exact T_loop I hs h1 k
    | bk => exact k
    | rt d => exact k
theorem T_comp {own : List Nat} {g : D → M Unit} {t : M Bool} {fe : M Op} {Q : List D → List D → Prop} (I : List D → List D → List D → Prop) (hs : ∀ d r acc e, I (d :: r) acc e → T (g d) e (fun _ e1 => T t e1 (fun c e2 => IF c (T fe e2 (fun o e3 => acc.length < sizeLine ∧ I r (acc ++ [escD e3 o]) (wipeD (escE e3 o) own)) X) (I r acc (wipeD e2 own))) X) X) (h1 : ∀ acc e, I [] acc e → Q acc e) : ∀ {ds acc e}, I ds acc e → T (loopC own g t fe ds acc) e Q X
  | [], acc, e, h => h1 acc e h
  | d :: r, acc, e, h => by
    have q := hs d r acc e h
    show T (bd (g d) fun _ => bd t fun c => if c then bd fe fun o => fun en => if acc.length < sizeLine then loopC own g t fe r (acc ++ [escD en o]) (wipeD (escE en o) own) else .st
      else fun en => loopC own g t fe r acc (wipeD en own)) e Q X
    rw [T_bd]
    refine q.mono (fun _ e1 k => ?_) fun _ _ _ _ k => k
    rw [T_bd]
    refine k.mono (fun c e2 k => ?_) fun _ _ _ _ k => k
    cases c with
    | false => exact T_comp I hs h1 (IF_false.mp k)
    | true =>
      replace k := IF_true.mp k
      show T (bd fe fun o => fun en => if acc.length < sizeLine then loopC own g t fe r (acc ++ [escD en o]) (wipeD (escE en o) own) else .st) e2 Q X
      rw [T_bd]
      refine k.mono (fun o e3 k => ?_) fun _ _ _ _ k => k
      show wpO (if acc.length < sizeLine then loopC own g t fe r (acc ++ [escD e3 o]) (wipeD (escE e3 o) own) else O.st) Q X
      rw [if_pos k.1]
      exact T_comp I hs h1 k.2
end
end PI
namespace PI
open L2 PySem PyProof.Rows PySem.Spec
section
variable {α β : Type} {e : List D} {X : XP}
theorem T_asg {f : M Op} {g : D → M Unit} {Q : Fl → List D → Prop} : T (sAsg f g) e Q X ↔ T f e (fun o e' => T (g (cool (escD e' o))) (escE e' o) (fun _ e2 => Q .nx e2) xF) X := by
  unfold sAsg
  refine T_bd.trans (T_cgr fun o e1 => ?_)
  unfold T
  try dsimp only
  cases g (cool (escD e1 o)) (escE e1 o) <;> rfl
/-- two names are given the items of d -/
def AS2 (i j : Nat) (d : D) (e : List D) (Q : List D → Prop) (_ : U1 Q := .u) : Prop := T (gTup 2 (gsCons (gSet i) (gsCons (gSet j) gsNil)) d) e (fun _ e2 => Q e2) xF
theorem T_asg2 {f : M Op} {i j : Nat} {Q : Fl → List D → Prop} : T (sAsg f (gTup 2 (gsCons (gSet i) (gsCons (gSet j) gsNil)))) e Q X ↔ T f e (fun o e' => AS2 i j (cool (escD e' o)) (escE e' o) fun e2 => Q .nx e2) X := T_asg
theorem AS2_tup {i j : Nat} {a b : D} {Q : List D → Prop} (h : isFz a = true) (h2 : isFz b = true) : AS2 i j (.nd .tup [a, b]) e Q ↔ Q ((e.set i a).set j b) := T_gtup2 h h2
/-- d is an instance of c that has no field m -/
def OBJ (d : D) (c m : Str) : Prop := ∃ b ns xs, d = .nd (.ob b c ns) xs ∧ m ∉ ns
theorem T_meth {c m : Str} {ms : List Bool} {f : List D → OF} {fo : M Op} {fa : M (List Op)} {Q : Op → List D → Prop} : T (dMeth c m ms f fo fa) e Q X ↔ T fo e (fun o e1 => OBJ (res e1 o) c m ∧ T fa e1 (fun os e2 => TF (f (pass ms (o :: os) e2).1) (fun d bk => Q (.v d) (give ms (o :: os) bk (pass ms (o :: os) e2).2)) (fun c ns xs bk => X c ns xs (give ms (o :: os) bk (pass ms (o :: os) e2).2))) X) X := by
  unfold dMeth
  refine T_bd.trans (T_cgr fun o e1 => ?_)
  have k : T (dCall ms f (bd fa fun os => rt (o :: os))) e1 Q X ↔ T fa e1 (fun os e2 => TF (f (pass ms (o :: os) e2).1) (fun d bk => Q (.v d) (give ms (o :: os) bk (pass ms (o :: os) e2).2)) (fun c ns xs bk => X c ns xs (give ms (o :: os) bk (pass ms (o :: os) e2).2))) X := by
    refine T_call.trans (T_bd.trans (T_cgr fun os e2 => ?_))
    exact T_rt
  refine Iff.trans ?_ (and_congr Iff.rfl k)
  unfold T OBJ
  dsimp only
  generalize res e1 o = z
  cases z with
  | nd kd xs =>
    cases kd with
    | ob b c' ns =>
      by_cases h : c' = c ∧ m ∉ ns
      · obtain ⟨rfl, h2⟩ := h
        dsimp only
        rw [if_pos ⟨rfl, h2⟩]
        exact ⟨fun q => ⟨⟨b, ns, xs, rfl, h2⟩, q⟩, fun q => q.2⟩
      · dsimp only
        rw [if_neg h]
        refine ⟨fun q => q.elim, fun q => ?_⟩
        obtain ⟨⟨b2, ns2, xs2, e2, h2⟩, q⟩ := q
        cases e2
        exact h ⟨rfl, h2⟩
    | _ => exact ⟨fun q => q.elim, fun ⟨⟨_, _, _, z, _⟩, _⟩ => by cases z⟩
  | _ => exact ⟨fun q => q.elim, fun ⟨⟨_, _, _, z, _⟩, _⟩ => by cases z⟩
theorem T_try {fb : M Fl} {hs : List Hd} {Q : Fl → List D → Prop} : T (sTry fb hs) e Q X ↔ T fb e Q (fun c ns xs e' => T (handle hs c ns xs) e' Q X) := by
  unfold sTry T
  dsimp only
  cases fb e <;> rfl
theorem T_sl {g : D → Option Int → Option Int → Option D} {fa : M Op} {fl fh : M (Option Int)} {Q : Op → List D → Prop} : T (dSl g fa fl fh) e Q X ↔ T fa e (fun a e1 => T fl e1 (fun lo e2 => T fh e2 (fun hi e3 => EX (g (res e3 a) lo hi) fun d => Q (.v d) e3) X) X) X := by
  unfold dSl EX
  refine T_bd.trans (T_cgr fun a e1 => T_bd.trans (T_cgr fun lo e2 => T_bd.trans (T_cgr fun hi e3 => ?_)))
  unfold T
  dsimp only
  cases g (res e3 a) lo hi <;> simp [ofO, wpO]
theorem T_part {f : M Op} {Q : Option Int → List D → Prop} : T (dPart f) e Q X ↔ T f e (fun o e' => INT (res e' o) fun i => Q (some i) e') X := by
  unfold dPart INT
  refine T_bd.trans (T_cgr fun o e1 => ?_)
  unfold T
  try dsimp only
  cases res e1 o <;> simp [wpO]
theorem T_nopart {Q : Option Int → List D → Prop} : T dNoPart e Q X ↔ Q none e := Iff.rfl
theorem T_emp {Q : Op → List D → Prop} : T dEmp e Q X ↔ Q (.v (.nd (.dk true []) [])) e := Iff.rfl
theorem T_cmpc {g : D → D → Option D} {fa fb : M Op} {Q : Op → List D → Prop} : T (dCmpc g fa fb) e Q X ↔ T fa e (fun a e1 => T fb e1 (fun b e2 => EX (g (cool (escD e2 a)) (cool (escD (escE e2 a) b))) fun d => Q (.v d) (escE (escE e2 a) b)) X) X := by
  unfold dCmpc EX
  refine T_bd.trans (T_cgr fun a e1 => T_bd.trans (T_cgr fun b e2 => ?_))
  unfold T
  dsimp only
  cases g (cool (escD e2 a)) (cool (escD (escE e2 a) b)) <;> simp [ofO, wpO]
/-- three names are given the items of d -/
def AS3 (i j k : Nat) (d : D) (e : List D) (Q : List D → Prop) (_ : U1 Q := .u) : Prop := T (gTup 3 (gsCons (gSet i) (gsCons (gSet j) (gsCons (gSet k) gsNil))) d) e (fun _ e2 => Q e2) xF
theorem T_asg3 {f : M Op} {i j k : Nat} {Q : Fl → List D → Prop} : T (sAsg f (gTup 3 (gsCons (gSet i) (gsCons (gSet j) (gsCons (gSet k) gsNil))))) e Q X ↔ T f e (fun o e' => AS3 i j k (cool (escD e' o)) (escE e' o) fun e2 => Q .nx e2) X := T_asg
theorem AS3_tup {i j k : Nat} {a b c : D} {Q : List D → Prop} (h : isFz a = true) (h2 : isFz b = true) (h3 : isFz c = true) : AS3 i j k (.nd .tup [a, b, c]) e Q ↔ Q (((e.set i a).set j b).set k c) := by
  have hz : isFzL [a, b, c] = true := by simp only [isFzL, h, h2, h3]; rfl
  show T (if [a, b, c].length = 3 ∧ isFzL [a, b, c] = true then gsCons (gSet i) (gsCons (gSet j) (gsCons (gSet k) gsNil)) [a, b, c] else no) e (fun _ e2 => Q e2) xF ↔ _
  rw [if_pos ⟨rfl, hz⟩]
  rfl
end
theorem cut_to {α : Type} (xs : List α) {k : Nat} (h : k ≤ xs.length) : cutG xs none (some (k : Int)) = xs.take k := by
  unfold cutG
  rw [HT.sIx_none, HT.sIx_nat, Nat.min_eq_left h, List.drop_zero, Nat.sub_zero]
theorem cut_from {α : Type} (xs : List α) {k : Nat} (h : k ≤ xs.length) : cutG xs (some (k : Int)) none = xs.drop k := by
  unfold cutG
  rw [HT.sIx_none, HT.sIx_nat, Nat.min_eq_left h]
  (exact List.take_of_length_le (by rw [List.length_drop]; omega))
theorem cut_last {α : Type} (xs : List α) : cutG xs none (some (-1)) = xs.dropLast := by
  have e : HT.sIx xs.length xs.length (some (-1)) = xs.length - 1 := by
    show (if (-1 : Int) < 0 then ((-1 : Int) + (xs.length : Int)).toNat else min (-1 : Int).toNat xs.length) = _
    rw [if_pos (by decide)]
    omega
  unfold cutG
  rw [HT.sIx_none, e, List.drop_zero, Nat.sub_zero, List.dropLast_eq_take]
end PI
set_option maxHeartbeats 3900000
local macro_rules
  | `(tactic| simp only [$ts,*] $[$l:location]?) => do
    let tab : List (Lean.Name × List Lean.Name) := [(`zzL, [`List.getD_cons_zero, `List.getD_cons_succ, `List.set_cons_zero, `List.set_cons_succ, `List.set_nil, `List.map_cons, `List.map_nil, `List.cons_append, `List.nil_append, `List.length_cons, `List.length_nil, `List.replicate_succ, `List.replicate_zero, `Nat.reduceAdd, `Nat.reduceSub, `List.reduceReplicate]),
      (`zzB, [`Option.some.injEq, `exists_eq_left', `exists_eq_left, `exists_eq_right, `true_and, `and_true, `if_true, `if_false, `Bool.false_eq_true, `ite_true, `ite_false, `reduceIte, `D.int.injEq, `D.bl.injEq, `D.str.injEq, `D.nd.injEq, `Bool.not_true, `Bool.not_false, `decide_eq_true_eq, `Bool.true_and, `Bool.and_true, `Bool.false_and, `Bool.and_false, `Option.map_some, `List.mem_cons, `List.not_mem_nil, `or_false, `false_or, `not_false_eq_true, `not_true_eq_false, `Option.some_or, `Int.reduceEq, `Int.reduceLT, `decide_true, `decide_false]),
      (`zzS, [`T_seq, `T_nx, `T_expr, `T_ret, `T_set, `T_if, `T_name, `T_C, `T_nil, `T_cons, `T_op2, `T_op1, `T_fld, `T_prim, `T_tup, `T_lst, `T_dict, `T_tru, `T_bl, `T_not, `T_and, `T_or, `T_ifx, `T_andV, `T_orV, `T_notV, `T_chain, `T_call, `T_make, `T_sub, `T_for, `T_lc, `T_par, `T_fldS, `T_raise, `T_iseq, `T_enum, `T_rg, `T_lrg, `T_gtup2, `T_app, `T_callV, `FN_fn, `T_gset, `T_yes, `TF_fden, `EX_some, `BL_bl, `INT_int, `LS_ls, `MK_non, `MX_cons, `IF_true, `IF_false, `T_emp, `T_cmpc, `T_asg2, `AS2_tup, `T_asg3, `AS3_tup, `T_sl, `T_part, `T_nopart]),
      (`zzE, [`res_v, `res_s, `escE, `escD, `escs, `cools, `pass, `give, `posOf, `setsD, `wipeD, `restore, `coolAt_b, `cond_true, `cond_false, `cool_un, `cool_int, `cool_str, `cool_bl, `cool_non, `cool_ty, `cool_fn, `isUn_un, `isUn_int, `isUn_str, `isUn_bl, `isUn_non, `isUn_ty, `isUn_fn, `isUn_nd, `isFz_int, `isFz_str, `isFz_bl, `isFz_non, `isFz_un, `isFz_ty, `isFz_fn, `isFz, `isFzL, `Kd.own, `g1, `g2]),
      (`zzA, [`gAdd_ii, `gSub_ii, `gGe_ii, `gLe_ii, `gLt_ii, `gGt_ii, `gNeg_i, `gInt_i, `gEq_ii, `gNe_ii, `sizeLine, `Nat.reducePow, `Nat.reduceLeDiff, `Nat.reduceLT]),
      (`zzP, [`pen_cells, `pen_at, `pen_digits, `pen_count, `pen_fold, `pen_sat, `pen_sdigits, `pen_scount, `pen_sfold, `pen_un, `pen_fz, `cells_len]),
      (`zzF, [`cool_lst, `cool_tup, `isFzL_ints, `cool_own, `frzL, `frz, `Kd.frz, `items_lst, `items_tup, `items_rol]),
      (`zzW, [`eW_least_least, `eW_least_most, `eW_least_is, `eW_least_not, `eW_least_rest, `eW_most_least, `eW_most_most, `eW_most_is, `eW_most_not, `eW_most_rest, `eW_is_least, `eW_is_most, `eW_is_is, `eW_is_not, `eW_is_rest, `eW_not_least, `eW_not_most, `eW_not_is, `eW_not_not, `eW_not_rest, `eW_rest_least, `eW_rest_most, `eW_rest_is, `eW_rest_not, `eW_rest_rest]),
      (`zzI, [`ix2_0, `ix2_1, `ix3_0, `ix3_1, `ix3_2, `ix4_0, `ix4_1, `ix4_2, `ix4_3, `jx2_0, `jx2_1, `jx3_0, `jx3_1, `jx3_2, `fzO_int, `fzO_str, `fzO_some, `ln2, `ln3, `kn2, `kn3, `tr_bl]),
      (`zzO, [`un_bo, `fz_bo, `cool_bo, `un_mo, `fz_mo, `cool_mo, `un_go, `fz_go, `cool_go, `isUn_cn, `isFz_cn, `cool_cn, `isUn_cns, `isFz_cns, `cool_cns, `isUn_mv, `isFz_mv, `cool_mv, `isUn_gl, `isFz_gl, `cool_gl, `un_bd, `fz_bd, `cool_bd])]
    let mut out : Array (Lean.TSyntax [`Lean.Parser.Tactic.simpStar, `Lean.Parser.Tactic.simpErase, `Lean.Parser.Tactic.simpLemma]) := #[]
    let mut hit := false
    for t in ts.getElems do
      match tab.lookup t.raw[2].getId with
      | some ns =>
        hit := true
        for n in ns do
          let s ← `(Lean.Parser.Tactic.simpLemma| $(Lean.mkIdent n):ident)
          out := out.push ⟨s.raw⟩
      | none => out := out.push t
    if hit then `(tactic| simp only [$out,*] $[$l]?) else Lean.Macro.throwUnsupported
namespace PI
open L2 PySem PyProof.Rows PySem.Spec
theorem coolAt_b (en : List D) (i : Nat) : coolAt en i = bif isFz (en.getD i .un) then en else en.set i (frz (en.getD i .un)) := by
  unfold coolAt
  cases isFz (en.getD i .un) <;> rfl
theorem isFz_int (i : Int) : isFz (.int i) = true := rfl
theorem isFz_str (i : Str) : isFz (.str i) = true := rfl
theorem isFz_bl (i : Bool) : isFz (.bl i) = true := rfl
theorem isFz_non : isFz .non = true := rfl
theorem isFz_un : isFz .un = true := rfl
theorem isFz_ty (i : String) : isFz (.ty i) = true := rfl
theorem isFz_fn (i : Str) : isFz (.fn i) = true := rfl
theorem isUn_un : isUn .un = true := rfl
theorem isUn_int (i : Int) : isUn (.int i) = false := rfl
theorem isUn_str (i : Str) : isUn (.str i) = false := rfl
theorem isUn_bl (i : Bool) : isUn (.bl i) = false := rfl
theorem isUn_non : isUn .non = false := rfl
theorem isUn_ty (i : String) : isUn (.ty i) = false := rfl
theorem isUn_fn (i : Str) : isUn (.fn i) = false := rfl
theorem isUn_nd (k : Kd) (i : List D) : isUn (.nd k i) = false := rfl
theorem cool_fz {d : D} (h : isFz d = true) : cool d = d := if_pos h
theorem cool_un : cool .un = .un := rfl
theorem cool_int (i : Int) : cool (.int i) = .int i := rfl
theorem cool_str (i : Str) : cool (.str i) = .str i := rfl
theorem cool_bl (i : Bool) : cool (.bl i) = .bl i := rfl
theorem cool_non : cool .non = .non := rfl
theorem cool_ty (i : String) : cool (.ty i) = .ty i := rfl
theorem cool_fn (i : Str) : cool (.fn i) = .fn i := rfl
theorem isFz_cool (d : D) : isFz (cool d) = true := by
  unfold cool
  by_cases h : isFz d = true
  · rw [if_pos h]; exact h
  · rw [if_neg h]; exact isFz_frz d
theorem cool_lst {o : Bool} {xs : List D} (h : isFzL xs = true) : cool (.nd (.lst o) xs) = .nd (.lst false) xs := by
  unfold cool
  cases o with
  | false => rw [if_pos (by simp only [isFz, Kd.own, h]; rfl)]
  | true => rw [if_neg (by simp [isFz, Kd.own])]; simp only [frz, Kd.frz, frzL_of h]
theorem cool_tup {xs : List D} (h : isFzL xs = true) : cool (.nd .tup xs) = .nd .tup xs := cool_fz (by simp only [isFz, Kd.own, h]; rfl)
theorem gAdd_ii (i j : Int) : gAdd (.int i) (.int j) = some (.int (i + j)) := rfl
theorem gSub_ii (i j : Int) : gSub (.int i) (.int j) = some (.int (i - j)) := rfl
theorem gGe_ii (i j : Int) : gGe (.int i) (.int j) = some (.bl (decide (j ≤ i))) := rfl
theorem gLe_ii (i j : Int) : gLe (.int i) (.int j) = some (.bl (decide (i ≤ j))) := rfl
theorem gLt_ii (i j : Int) : gLt (.int i) (.int j) = some (.bl (decide (i < j))) := rfl
theorem gGt_ii (i j : Int) : gGt (.int i) (.int j) = some (.bl (decide (j < i))) := rfl
theorem gNeg_i (i : Int) : gNeg (.int i) = some (.int (-i)) := rfl
theorem gInt_i (i : Int) : gInt (.int i) = some (.int i) := rfl
theorem gEq_ii (i j : Int) : gEq (.int i) (.int j) = some (.bl (decide (i = j))) := by
  have h : PyData.eqv (.int i) (.int j) = decide (i = j) := by
    unfold PyData.eqv
    first | rfl | (by_cases h : i = j <;> simp [h])
  show (if plain 60 (.int i) && plain 60 (.int j) then some (D.bl (PyData.eqv (toPy (.int i)) (toPy (.int j)))) else none) = _
  simp only [plain, toPy, h, Bool.and_self, if_true]
theorem gNe_ii (i j : Int) : gNe (.int i) (.int j) = some (.bl (!decide (i = j))) := by
  have h := gEq_ii i j
  unfold gEq at h
  unfold gNe
  simp only [plain, Bool.and_self, if_true, Option.some.injEq, D.bl.injEq] at h ⊢
  rw [h]
theorem gMul_ii {i j : Int} (h : i.natAbs < 2 ^ 250) (h2 : j.natAbs < 2 ^ 250) : gMul (.int i) (.int j) = some (.int (i * j)) := by
  have q : ∀ k : Int, k.natAbs < 2 ^ 250 → k.natAbs.log2 < 250 := fun k h => by
    by_cases z : k.natAbs = 0
    · rw [z]; decide
    · exact (Nat.log2_lt z).mpr h
  have := q i h
  have := q j h2
  show (if i.natAbs.log2 + j.natAbs.log2 < 1000000 then some (D.int (i * j)) else none) = _
  rw [if_pos (by omega)]
theorem gMod_ii {i j : Int} (h : 0 < j) : gMod (.int i) (.int j) = some (.int (i % j)) := if_pos h
theorem gDiv_ii {i j : Int} (h : 0 < j) (h2 : j < 2 ^ 60) : gDiv (.int i) (.int j) = some (.int (i / j)) := by
  refine if_pos ⟨h, ?_⟩
  have : j.natAbs.log2 < 60 := (Nat.log2_lt (by omega)).mpr (by omega)
  omega
theorem gPow_ii {i j : Int} (h : 0 ≤ j) (h2 : j ≤ 1000000) (h3 : i.natAbs < 2 ^ 64) : gPow (.int i) (.int j) = some (.int (i ^ j.toNat)) := if_pos ⟨h, h2, h3⟩
theorem isFzL_ints (ns : List Int) : isFzL (ns.map D.int) = true := by
  induction ns with
  | nil => rfl
  | cons a r ih => simp only [List.map_cons, isFzL, ih]; rfl
end PI
namespace Lw
open PySem PySem.Spec PyProof.Rows L2 PI
def pen (cs : List Int) (a g c f : Int) : D := .nd (.dk true [(.inr "cells"), (.inr "at"), (.inr "digits"), (.inr "count"), (.inr "fold")]) [.nd (.lst false) (cs.map D.int), .int a, .int g, .int c, .int f]
def Pen (n : Nat) (d : D) : Prop := ∃ cs a g c f, d = pen cs a g c f ∧ 0 ≤ a ∧ 0 ≤ g ∧ 0 ≤ c ∧ c + n ≤ 1000000000000 ∧ 0 ≤ f ∧ f < 4294967296
theorem Pen.less {n m : Nat} {d : D} (h : Pen n d) (k : m ≤ n) : Pen m d := by
  obtain ⟨cs, a, g, c, f, rfl, h1, h2, h3, h4, h5, h6⟩ := h
  exact ⟨cs, a, g, c, f, rfl, h1, h2, h3, by omega, h5, h6⟩
section
variable (cs : List Int) (a g c f v : Int)
theorem pen_cells : gIx (pen cs a g c f) (.str "cells") = some (.nd (.lst false) (cs.map D.int)) := by
  show fzO (some (.nd (.lst false) (cs.map D.int))) = _
  simp only [fzO, isFz, Kd.own, isFzL_ints, Bool.not_false, Bool.and_self, if_true]
theorem pen_at : gIx (pen cs a g c f) (.str "at") = some (.int a) := rfl
theorem pen_digits : gIx (pen cs a g c f) (.str "digits") = some (.int g) := rfl
theorem pen_count : gIx (pen cs a g c f) (.str "count") = some (.int c) := rfl
theorem pen_fold : gIx (pen cs a g c f) (.str "fold") = some (.int f) := rfl
theorem pen_sat : setT (pen cs a g c f) (.str "at") (.int v) = some (pen cs v g c f) := rfl
theorem pen_sdigits : setT (pen cs a g c f) (.str "digits") (.int v) = some (pen cs a v c f) := rfl
theorem pen_scount : setT (pen cs a g c f) (.str "count") (.int v) = some (pen cs a g v f) := rfl
theorem pen_sfold : setT (pen cs a g c f) (.str "fold") (.int v) = some (pen cs a g c v) := rfl
theorem pen_un : isUn (pen cs a g c f) = false := rfl
theorem pen_fz : isFz (pen cs a g c f) = false := rfl
theorem cells_len : gLen (.nd (.lst false) (cs.map D.int)) = some (.int cs.length) := by
  show some (D.int ((cs.map D.int).length)) = _
  rw [List.length_map]
end
theorem cells_ix {cs : List Int} {a : Int} (h : 0 ≤ a) (h2 : a < cs.length) : ∃ i, gIx (.nd (.lst false) (cs.map D.int)) (.int a) = some (.int i) := by
  have e : atI (cs.map D.int) a = (cs.map D.int)[a.toNat]? := by
    have k : ixN cs.length a = some a.toNat := by
      unfold ixN
      rw [if_pos h]
      first | rw [if_pos (by omega)] | skip
    unfold atI
    rw [List.length_map, k]
    rfl
  refine ⟨cs[a.toNat]'(by omega), ?_⟩
  show fzO (atI (cs.map D.int) a) = _
  rw [e, List.getElem?_map, List.getElem?_eq_getElem (by omega)]
  rfl
theorem draw_ok {X : XP} {n : Nat} {p : D} {m : Int} (hp : Pen (n + 1) p) (h : 0 < m) (h2 : m < 1000000000) : TF (d_law_draw [p, .int m]) (fun d bk => ∃ k p', d = .int k ∧ bk = [p'] ∧ 0 ≤ k ∧ k < m ∧ Pen n p') X := by
  obtain ⟨cs, a, g, c, f, rfl, h1, h2, h3, h4, h5, h6⟩ := hp
  unfold d_law_draw b_law_draw
  have kmod : ∀ x : Int, 0 ≤ x % m ∧ x % m < m := fun x => ⟨Int.emod_nonneg x (by omega), Int.emod_lt_of_pos x h⟩
  have e1 : gMul (.int (c + 1)) (.int 7919) = some (.int ((c + 1) * 7919)) := gMul_ii (by omega) (by omega)
  have e2 : gMul (.int f) (.int 1664525) = some (.int (f * 1664525)) := gMul_ii (by omega) (by omega)
  have e3 : ∀ x : Int, 0 ≤ x → x < 4294967296 → gPow (.int (x + (c + 1) * 7919 + 41)) (.int 17) = some (.int ((x + (c + 1) * 7919 + 41) ^ (17 : Int).toNat)) := fun x k1 k2 => gPow_ii (by omega) (by omega) (by omega)
  have e4 : gPow (.int 10) (.int 18) = some (.int 1000000000000000000) := rfl
  have e5 : ∀ x : Int, gMod (.int x) (.int m) = some (.int (x % m)) := fun x => gMod_ii h
  have e6 : ∀ x : Int, gDiv (.int x) (.int m) = some (.int (x / m)) := fun x => gDiv_ii h (by omega)
  have e7 : ∀ x : Int, gMod (.int x) (.int 2147483587) = some (.int (x % 2147483587)) := fun x => gMod_ii (by omega)
  have e8 : ∀ x : Int, gMod (.int x) (.int 2305843009213693951) = some (.int (x % 2305843009213693951)) := fun x => gMod_ii (by omega)
  have e9 : ∀ x : Int, gDiv (.int x) (.int 128) = some (.int (x / 128)) := fun x => gDiv_ii (by omega) (by omega)
  have fin : ∀ (k : Int) (a' g' f' : Int), 0 ≤ a' → 0 ≤ g' → 0 ≤ f' → f' < 4294967296 → ∃ k' p', k % m = k' ∧ [pen cs a' g' (c + 1) f'] = [p'] ∧ 0 ≤ k' ∧ k' < m ∧ Pen n p' := fun k a' g' f' k1 k2 k3 k4 =>
    ⟨_, _, rfl, rfl, (kmod k).1, (kmod k).2, cs, a', g', c + 1, f', rfl, k1, k2, by omega, by omega, k3, k4⟩
  simp only [zzS, zzL, zzE, zzA, zzB, zzP]
  refine IFd (fun hg => ?_) (fun hg => ?_)
  · simp only [zzS, zzL, zzE, zzA, zzB, zzP]
    refine IFd (fun ha => ?_) (fun ha => ?_)
    · obtain ⟨i, hi⟩ := cells_ix h1 ha
      simp only [zzS, zzL, zzE, zzA, zzB, zzP, hi, e4]
      refine IFd (c := (1000000000000000000 : Int) ≤ i) (fun hc => ?_) (fun hc => ?_)
      · simp only [zzS, zzL, zzE, zzA, zzB, zzP, e4]
        refine IFd (fun hd => ?_) (fun hd => ?_)
        · simp only [zzS, zzL, zzE, zzA, zzB, zzP, e5, e6]
          exact fin _ _ _ _ (by omega) (Int.ediv_nonneg (by omega) (by omega)) (by omega) (by omega)
        · simp only [zzS, zzL, zzE, zzA, zzB, zzP, e1, e3 _ h5 h6, e8, e9, e5]
          exact fin _ _ _ _ (by omega) (by omega) (by omega) (by omega)
      · simp only [zzS, zzL, zzE, zzA, zzB, zzP, e2, e7]
        refine IFd (fun hd => ?_) (fun hd => ?_)
        · omega
        · simp only [zzS, zzL, zzE, zzA, zzB, zzP, e1, e3 _ (Int.emod_nonneg _ (by omega : (2147483587 : Int) ≠ 0)) (Int.lt_trans (Int.emod_lt_of_pos _ (by omega : (0 : Int) < 2147483587)) (by omega)), e8, e9, e5]
          exact fin _ _ _ _ (by omega) (by omega) (by omega) (by omega)
    · simp only [zzS, zzL, zzE, zzA, zzB, zzP]
      refine IFd (fun hd => ?_) (fun hd => ?_)
      · omega
      · simp only [zzS, zzL, zzE, zzA, zzB, zzP, e1, e3 _ h5 h6, e8, e9, e5]
        exact fin _ _ _ _ (by omega) (by omega) (by omega) (by omega)
  · simp only [zzS, zzL, zzE, zzA, zzB, zzP]
    refine IFd (fun hd => ?_) (fun hd => ?_)
    · simp only [zzS, zzL, zzE, zzA, zzB, zzP, e5, e6]
      exact fin _ _ _ _ (by omega) (Int.ediv_nonneg (by omega) (by omega)) (by omega) (by omega)
    · omega
end Lw
set_option maxHeartbeats 3900000
namespace PI
open L2 PySem PyProof.Rows PySem.Spec
theorem ix_at {xs : List D} {k : Int} (hz : isFzL xs = true) (h0 : 0 ≤ k) (h1 : k < xs.length) : ∃ d, d ∈ xs ∧ fzO (atI xs k) = some d := by
  have e : atI xs k = xs[k.toNat]? := by
    have q : ixN xs.length k = some k.toNat := by
      unfold ixN
      rw [if_pos h0, if_pos (by omega)]
    unfold atI
    rw [q]
    rfl
  have h2 : k.toNat < xs.length := by omega
  refine ⟨xs[k.toNat], List.getElem_mem h2, ?_⟩
  rw [e, List.getElem?_eq_getElem h2]
  exact if_pos ((isFzL_iff xs).mp hz _ (List.getElem_mem h2))
theorem ix_lst {xs : List D} {k : Int} {o : Bool} (hz : isFzL xs = true) (h0 : 0 ≤ k) (h1 : k < xs.length) : ∃ d, d ∈ xs ∧ gIx (.nd (.lst o) xs) (.int k) = some d := ix_at hz h0 h1
theorem len_lst {xs : List D} {o : Bool} : gLen (.nd (.lst o) xs) = some (.int xs.length) := rfl
theorem len_tup {xs : List D} : gLen (.nd .tup xs) = some (.int xs.length) := rfl
theorem pow2_le {a b : Nat} (h : a ≤ b) : (2 : Int) ^ a ≤ 2 ^ b := by
  have h2 := Int.ofNat_le.mpr (Nat.pow_le_pow_right (show 0 < 2 by omega) h)
  simpa using h2
theorem rng_zero (lo : Int) : rng lo 0 = [] := rfl
theorem rng_succ (lo : Int) (n : Nat) : rng lo (n + 1) = .int lo :: rng (lo + 1) n := by
  unfold rng
  rw [List.range_succ_eq_map, List.map_cons]
  rw [List.map_map]
  have e : lo + ((0 : Nat) : Int) = lo := by omega
  rw [e]
  refine congrArg _ (List.map_congr_left fun i _ => ?_)
  show D.int (lo + ((i + 1 : Nat) : Int)) = D.int (lo + 1 + (i : Int))
  refine congrArg _ ?_
  omega
end PI
namespace Lw
open PySem PySem.Spec PyProof.Rows L2 PI
theorem Pen.un {n : Nat} {d : D} (h : Pen n d) : isUn d = false := by
  obtain ⟨cs, a, g, c, f, rfl, _⟩ := h
  rfl
theorem draw_use {Q : D → List D → Prop} {X : XP} {n : Nat} {p : D} {m : Int} (hp : Pen (n + 1) p) (h : 0 < m) (h2 : m < 1000000000) (hQ : ∀ k p', 0 ≤ k → k < m → Pen n p' → Q (.int k) [p']) : TF (d_law_draw [p, .int m]) Q X :=
  (draw_ok (n := n) hp h h2).mono (fun _ _ ⟨k, p', e1, e2, h0, h1, hp⟩ => by
    subst e1 e2
    exact hQ k p' h0 h1 hp) fun _ _ _ _ h => h
theorem pick_use {Q : D → List D → Prop} {X : XP} {n : Nat} {p : D} {xs : List D} (hp : Pen (n + 1) p) (hz : isFzL xs = true) (h : 0 < xs.length) (h2 : xs.length < 1000000000) (hQ : ∀ d p', d ∈ xs → Pen n p' → Q d [p']) : TF (d_law_pick [p, .nd (.lst false) xs]) Q X := by
  unfold d_law_pick b_law_pick
  simp only [zzS, zzL, zzE, zzA, zzB, hp.un, len_lst, hz]
  refine draw_use hp (by omega) (by omega) fun k p' h0 h1 hp => ?_
  obtain ⟨d, hd, e⟩ := ix_lst (o := false) hz h0 h1
  simp only [zzS, zzL, zzE, zzA, zzB, e]
  exact hQ _ _ hd hp
end Lw
set_option maxHeartbeats 3900000
namespace Lw
open PySem PySem.Spec PyProof.Rows L2 PI
inductive Cn where
  | le (k : Int) | mo (k : Int) | eq (k : Int) | ne (k : Int) | re (m r : Int)
def Cn.d : Cn → D
  | .le k => .nd .tup [.str "least", .int k]
  | .mo k => .nd .tup [.str "most", .int k]
  | .eq k => .nd .tup [.str "is", .int k]
  | .ne k => .nd .tup [.str "not", .int k]
  | .re m r => .nd .tup [.str "rest", .int m, .int r]
def Cn.V : Cn → Prop
  | .re m r => 0 ≤ r ∧ r < m
  | _ => True
def Cn.holds (n : Int) : Cn → Bool
  | .le k => decide (k ≤ n)
  | .mo k => decide (n ≤ k)
  | .eq k => decide (n = k)
  | .ne k => !decide (n = k)
  | .re m r => decide (n % m = r)
def cnsD (cs : List Cn) : D := .nd .tup (cs.map Cn.d)
def CnsV (cs : List Cn) : Prop := cs.length ≤ 4 ∧ ∀ c ∈ cs, c.V
structure Mv where
  p : Int
  cs : List Cn
  s : Int
  t : Int
structure Gl where
  p : Int
  cs : List Cn
def Mv.d (m : Mv) : D := .nd .tup [.int m.p, cnsD m.cs, .int m.s, .int m.t]
def Gl.d (g : Gl) : D := .nd .tup [.int g.p, cnsD g.cs]
structure Bk where
  sides : List Int
  mv : List Mv
  gl : List Gl
def Bk.d (o : Bool) (b : Bk) : D := .nd (.dk o [(.inr "sides"), (.inr "moves"), (.inr "goals")]) [.nd (.lst false) (b.sides.map D.int), .nd (.lst false) (b.mv.map Mv.d), .nd (.lst false) (b.gl.map Gl.d)]
def Mv.V (k : Nat) (m : Mv) : Prop := 0 ≤ m.p ∧ m.p < k ∧ CnsV m.cs ∧ 0 ≤ m.t ∧ m.t < k
def Gl.V (k : Nat) (m : Gl) : Prop := 0 ≤ m.p ∧ m.p < k ∧ CnsV m.cs
structure Bk.V (b : Bk) : Prop where
  s0 : 0 < b.sides.length
  s4 : b.sides.length ≤ 4
  s01 : ∀ s ∈ b.sides, s = 0 ∨ s = 1
  mv : ∀ m ∈ b.mv, m.V b.sides.length
  gl : ∀ m ∈ b.gl, m.V b.sides.length
  m20 : b.mv.length ≤ 21
  g2 : b.gl.length ≤ 2
theorem isFz_cn (c : Cn) : isFz c.d = true := by cases c <;> rfl
theorem isFzL_map {A : Type} (f : A → D) (h : ∀ a, isFz (f a) = true) (l : List A) : isFzL (l.map f) = true := by
  induction l with
  | nil => rfl
  | cons a r ih => simp only [List.map_cons, isFzL, ih, h a, Bool.and_self]
theorem isFz_cns (cs : List Cn) : isFz (cnsD cs) = true := by
  unfold cnsD
  simp only [isFz, Kd.own, isFzL_map _ isFz_cn, Bool.not_false, Bool.and_self]
theorem isFz_mv (c : Mv) : isFz c.d = true := by
  unfold Mv.d
  simp only [isFz, isFzL, Kd.own, isFz_cns, Bool.not_false, Bool.and_self]
theorem isFz_gl (c : Gl) : isFz c.d = true := by
  unfold Gl.d
  simp only [isFz, isFzL, Kd.own, isFz_cns, Bool.not_false, Bool.and_self]
theorem isUn_cn (c : Cn) : isUn c.d = false := by cases c <;> rfl
theorem isUn_cns (cs : List Cn) : isUn (cnsD cs) = false := rfl
theorem isUn_mv (c : Mv) : isUn c.d = false := rfl
theorem isUn_gl (c : Gl) : isUn c.d = false := rfl
def wNum : Str → Bool
  | x => x == "least" || x == "most" || x == "is" || x == "not"
theorem eS1 : gEq (.str "least") (.str "rest") = some (.bl false) := by kernel_rfl
theorem eS2 : gEq (.str "most") (.str "rest") = some (.bl false) := by kernel_rfl
theorem eS3 : gEq (.str "is") (.str "rest") = some (.bl false) := by kernel_rfl
theorem eS4 : gEq (.str "not") (.str "rest") = some (.bl false) := by kernel_rfl
theorem eS5 : gEq (.str "rest") (.str "rest") = some (.bl true) := by kernel_rfl
theorem nS1 : gNe (.str "least") (.str "rest") = some (.bl true) := by kernel_rfl
theorem nS2 : gNe (.str "most") (.str "rest") = some (.bl true) := by kernel_rfl
theorem nS3 : gNe (.str "is") (.str "rest") = some (.bl true) := by kernel_rfl
theorem nS4 : gNe (.str "not") (.str "rest") = some (.bl true) := by kernel_rfl
theorem nS5 : gNe (.str "rest") (.str "rest") = some (.bl false) := by kernel_rfl
theorem cond_use {Q : D → List D → Prop} {X : XP} {n : Nat} {p : D} {w m : Int} (hp : Pen (n + 2) p) (h0 : 0 ≤ w) (h1 : w < 1000) (h2 : 0 < m) (h3 : m < 1000) (hQ : ∀ (c : Cn) p', c.V → Pen n p' → Q c.d [p']) : TF (d_law_some_condition [p, .int w, .int m]) Q X := by
  unfold d_law_some_condition b_law_some_condition
  simp only [zzS, zzL, zzE, zzA, zzB, hp.un, cool_lst]
  refine pick_use hp (by rfl) (by decide) (by decide) fun wd p' hm hp => ?_
  have e2 : gMul (.int 2) (.int w) = some (.int (2 * w)) := gMul_ii (by omega) (by omega)
  simp only [or_false, List.mem_cons, List.not_mem_nil] at hm
  have num : ∀ (x : Str) (z : Int → Cn), (∀ k, (z k).V) → (∀ k, (z k).d = .nd .tup [.str x, .int k]) → ∀ k p', Pen n p' → Q (.nd .tup [.str x, .int k]) [p'] := fun x z hz e k p' hp => by
    rw [← e k]
    exact hQ _ _ (hz k) hp
  have numL := num "least" .le (fun _ => trivial) (fun _ => rfl)
  have numM := num "most" .mo (fun _ => trivial) (fun _ => rfl)
  have numI := num "is" .eq (fun _ => trivial) (fun _ => rfl)
  have numN := num "not" .ne (fun _ => trivial) (fun _ => rfl)
  rcases hm with rfl | rfl | rfl | rfl | rfl | rfl | rfl
  · simp only [zzS, zzL, zzE, zzA, zzB, hp.un, eS1, nS1, e2]
    refine draw_use hp (by omega) (by omega) fun k p' _ _ hp => ?_
    simp only [zzS, zzL, zzE, zzA, zzB]
    exact numL _ _ hp
  · simp only [zzS, zzL, zzE, zzA, zzB, hp.un, eS2, nS2, e2]
    refine draw_use hp (by omega) (by omega) fun k p' _ _ hp => ?_
    simp only [zzS, zzL, zzE, zzA, zzB]
    exact numM _ _ hp
  · simp only [zzS, zzL, zzE, zzA, zzB, hp.un, eS3, nS3, e2]
    refine draw_use hp (by omega) (by omega) fun k p' _ _ hp => ?_
    simp only [zzS, zzL, zzE, zzA, zzB]
    exact numI _ _ hp
  · simp only [zzS, zzL, zzE, zzA, zzB, hp.un, eS4, nS4, e2]
    refine draw_use hp (by omega) (by omega) fun k p' _ _ hp => ?_
    simp only [zzS, zzL, zzE, zzA, zzB]
    exact numN _ _ hp
  · simp only [zzS, zzL, zzE, zzA, zzB, hp.un, eS5]
    refine IFd (fun hg => ?_) (fun hg => ?_)
    · simp only [zzS, zzL, zzE, zzA, zzB, hp.un]
      refine draw_use hp (by omega) (by omega) fun k p' h4 h5 hp => ?_
      simp only [zzS, zzL, zzE, zzA, zzB]
      exact hQ (.re m k) _ ⟨h4, h5⟩ hp
    · simp only [zzS, zzL, zzE, zzA, zzB, hp.un, nS5, e2]
      refine draw_use hp (by omega) (by omega) fun k p' _ _ hp => ?_
      simp only [zzS, zzL, zzE, zzA, zzB]
      exact numL _ _ hp
  · simp only [zzS, zzL, zzE, zzA, zzB, hp.un, eS1, nS1, e2]
    refine draw_use hp (by omega) (by omega) fun k p' _ _ hp => ?_
    simp only [zzS, zzL, zzE, zzA, zzB]
    exact numL _ _ hp
  · simp only [zzS, zzL, zzE, zzA, zzB, hp.un, eS2, nS2, e2]
    refine draw_use hp (by omega) (by omega) fun k p' _ _ hp => ?_
    simp only [zzS, zzL, zzE, zzA, zzB]
    exact numM _ _ hp
theorem conds_use {Q : D → List D → Prop} {X : XP} {n : Nat} {p : D} {w m : Int} (hp : Pen (n + 5) p) (h0 : 0 ≤ w) (h1 : w < 1000) (h2 : 0 < m) (h3 : m < 1000) (hQ : ∀ (c : List Cn) p', (∀ x ∈ c, x.V) → c.length ≤ 2 → Pen n p' → Q (cnsD c) [p']) : TF (d_law_some_conditions [p, .int w, .int m]) Q X := by
  unfold d_law_some_conditions b_law_some_conditions
  simp only [zzS, zzL, zzE, zzA, zzB, hp.un, cool_lst]
  refine pick_use hp (by rfl) (by decide) (by decide) fun wd p' hm hp => ?_
  have hm : ∃ j : Nat, wd = .int j ∧ j ≤ 2 := by
    simp only [or_false, List.mem_cons, List.not_mem_nil] at hm
    rcases hm with rfl | rfl | rfl | rfl | rfl | rfl
    · exact ⟨0, rfl, by omega⟩
    · exact ⟨0, rfl, by omega⟩
    · exact ⟨0, rfl, by omega⟩
    · exact ⟨1, rfl, by omega⟩
    · exact ⟨1, rfl, by omega⟩
    · exact ⟨2, rfl, by omega⟩
  obtain ⟨j, rfl, hj⟩ := hm
  have hR : inR (j : Int) = true := decide_eq_true ⟨by omega, by omega⟩
  simp only [zzS, zzL, zzE, zzA, zzB, hp.un, hR, Int.toNat_natCast]
  refine T_comp (fun ds acc e => ∃ (c : List Cn) (p : D), e = [p, .int w, .int m, .int j, .un] ∧ acc = c.map Cn.d ∧ (∀ x ∈ c, x.V) ∧ c.length + ds.length ≤ 2 ∧ Pen (n + 2 * ds.length) p) ?_ ?_ ?_
  · rintro d r _ _ ⟨c, p, rfl, rfl, hc, hl, hp⟩
    simp only [List.length_cons] at hl hp
    simp only [zzS, zzL, zzE, zzA, zzB, hp.un]
    refine cond_use (n := n + 2 * r.length) (hp.less (by omega)) h0 h1 h2 h3 fun c1 p' hv hp => ?_
    simp only [zzS, zzL, zzE, zzA, zzB, List.length_map]
    refine ⟨by omega, c ++ [c1], p', rfl, by simp, ?_, ?_, hp⟩
    · intro x hx
      obtain hx | hx := List.mem_append.mp hx
      · exact hc x hx
      · cases List.mem_singleton.mp hx
        exact hv
    · simp only [List.length_append, List.length_cons, List.length_nil]
      omega
  · rintro _ _ ⟨c, p, rfl, rfl, hc, hl, hp⟩
    simp only [zzS, zzL, zzE, zzA, zzB, hp.un, gTuple, seqOf, isFzL_map _ isFz_cn]
    exact hQ c p hc hl hp
  · refine ⟨[], p', rfl, rfl, fun x h => (List.not_mem_nil h).elim, ?_, hp.less ?_⟩
    · simp only [rng, List.length_map, List.length_range, List.length_nil]
      omega
    · simp only [rng, List.length_map, List.length_range]
      omega
end Lw
set_option maxHeartbeats 3900000
namespace PI
open L2 PySem PyProof.Rows PySem.Spec
theorem cool_own (xs : List D) : cool (.nd (.lst true) xs) = .nd (.lst false) (frzL xs) := by
  unfold cool
  rw [if_neg (by simp [isFz, Kd.own])]
  simp only [frz, Kd.frz]
theorem rng_cases {d : D} {r : List D} {lo : Int} {n : Nat} (h : d :: r = rng lo n) : ∃ k, n = k + 1 ∧ d = .int lo ∧ r = rng (lo + 1) k := by
  cases n with
  | zero => cases h
  | succ k =>
    rw [rng_succ] at h
    cases h
    exact ⟨k, rfl, rfl, rfl⟩
theorem rng_nil {lo : Int} {n : Nat} (h : [] = rng lo n) : n = 0 := by
  cases n with
  | zero => rfl
  | succ k => rw [rng_succ] at h; cases h
theorem items_lst {xs : List D} (h : isFzL xs = true) : items (.nd (.lst false) xs) = some xs := if_pos h
theorem items_tup {xs : List D} (h : isFzL xs = true) : items (.nd .tup xs) = some xs := if_pos h
theorem items_rol {xs : List D} (h : isFzL xs = true) : items (.nd .rol xs) = some xs := if_pos h
theorem len_rng (lo : Int) (n : Nat) : (rng lo n).length = n := by simp [rng]
end PI
namespace Lw
open PySem PySem.Spec PyProof.Rows L2 PI
theorem frz_cns (c : List Cn) : frz (cnsD c) = cnsD c := frz_of (isFz_cns c)
theorem cool_cns (c : List Cn) : cool (cnsD c) = cnsD c := cool_fz (isFz_cns c)
theorem cool_mv (c : Mv) : cool c.d = c.d := cool_fz (isFz_mv c)
theorem mv_mk (p : Int) (c : List Cn) (s t : Int) : D.nd .tup [.int p, cnsD c, .int s, .int t] = Mv.d ⟨p, c, s, t⟩ := rfl
theorem gl_mk (p : Int) (c : List Cn) : D.nd .tup [.int p, cnsD c] = Gl.d ⟨p, c⟩ := rfl
theorem mv_app (l : List Mv) (m : Mv) : l.map Mv.d ++ [m.d] = (l ++ [m]).map Mv.d := by simp
theorem gl_app (l : List Gl) (m : Gl) : l.map Gl.d ++ [m.d] = (l ++ [m]).map Gl.d := by simp
theorem int_app (l : List Int) (m : Int) : l.map D.int ++ [D.int m] = (l ++ [m]).map D.int := by simp
theorem mem_app {A : Type} {P : A → Prop} {l : List A} {a : A} (h : ∀ x ∈ l, P x) (h2 : P a) : ∀ x ∈ l ++ [a], P x := by
  intro x hx
  obtain hx | hx := List.mem_append.mp hx
  · exact h x hx
  · cases List.mem_singleton.mp hx
    exact h2
theorem cns_add (c e : List Cn) (h : c.length + e.length ≤ 1000) : gAdd (cnsD c) (cnsD e) = some (cnsD (c ++ e)) := by
  unfold cnsD gAdd
  have k : decide ((c.map Cn.d).length + (e.map Cn.d).length ≤ sizeLine) = true := decide_eq_true (by
    rw [List.length_map, List.length_map]
    unfold sizeLine
    omega)
  simp only [isFzL_map _ isFz_cn, k, Bool.and_self, if_true, List.map_append]
theorem coin (k : Int) : ∃ b : Bool, decide (k = 0) = b := ⟨_, rfl⟩
theorem take_use {Q : D → List D → Prop} {X : XP} {n : Nat} {p : D} (hp : Pen (n + 10) p) (hQ : ∀ (b : Bk) p', b.V → b.mv.length ≤ 20 → Pen n p' → Q (b.d true) [p']) : TF (d_law_taking_book [p]) Q X := by
  unfold d_law_taking_book b_law_taking_book
  simp only [zzS, zzL, zzE, zzA, zzB, zzF, hp.un]
  refine T_comp (fun ds acc e => ∃ (c l : List Int) (p : D), e = [p, .un, .un, .un, .un] ∧ acc = c.map D.int ∧ ds = l.map D.int ∧ (∀ x ∈ c, 0 ≤ x ∧ x ≤ 3) ∧ (∀ x ∈ l, 0 ≤ x ∧ x ≤ 3) ∧ c.length + ds.length ≤ 3 ∧ Pen (n + 7 + ds.length) p) ?_ ?_ ?_
  · rintro d r _ _ ⟨c, l, p, rfl, rfl, hd, hc, hl0, hl, hp⟩
    simp only [List.length_cons] at hl hp
    cases l with
    | nil => cases hd
    | cons a l =>
      cases hd
      simp only [zzS, zzL, zzE, zzA, zzB, hp.un]
      refine draw_use (n := n + 7 + (l.map D.int).length) hp (by omega) (by omega) fun k p' h0 h1 hp => ?_
      simp only [zzS, zzL, zzE, zzA, zzB]
      refine IFd (fun hk => ?_) (fun hk => ?_)
      · simp only [zzS, zzL, zzE, zzA, zzB]
        exact ⟨by simp only [List.length_map] at *; omega, c ++ [a], l, p', rfl, int_app c a, rfl, mem_app hc (hl0 a List.mem_cons_self), fun x h => hl0 x (List.mem_cons_of_mem _ h), by simp only [List.length_append, List.length_cons, List.length_nil]; omega, hp⟩
      · exact ⟨c, l, p', rfl, rfl, rfl, hc, fun x h => hl0 x (List.mem_cons_of_mem _ h), by omega, hp⟩
  · rintro _ _ ⟨c, l, p, rfl, rfl, -, hc, -, hl, hp⟩
    simp only [zzS, zzL, zzE, zzA, zzB, zzF, hp.un]
    refine pick_use (n := n + 6) hp (by rfl) (by decide) (by decide) fun d p' hd hp => ?_
    have hd : ∃ j : Int, d = .int j ∧ 0 ≤ j ∧ j ≤ 3 := by
      simp only [List.mem_cons, List.not_mem_nil, or_false] at hd
      rcases hd with rfl | rfl
      · exact ⟨1, rfl, by omega, by omega⟩
      · exact ⟨2, rfl, by omega, by omega⟩
    obtain ⟨j, rfl, hj⟩ := hd
    have ea : gAdd (.nd (.lst true) (c.map D.int)) (.nd (.lst true) [.int j]) = some (.nd (.lst true) ((c ++ [j]).map D.int)) := by
      rw [← int_app]
      refine if_pos ?_
      simp only [isFzL_ints, isFzL, isFz, List.length_map, List.length_cons, List.length_nil, Bool.and_self, Bool.true_and, decide_eq_true_eq, sizeLine] at *
      omega
    have hc2 := mem_app hc hj
    have hl2 : (c ++ [j]).length ≤ 4 := by
      simp only [List.length_append, List.length_cons, List.length_nil] at *
      omega
    generalize c ++ [j] = c2 at *
    simp only [zzS, zzL, zzE, zzA, zzB, zzF, hp.un, ea, isFzL_ints, frzL_of]
    refine T_loop (fun ds e => ∃ (l : List Int) (mv : List Mv) (x y : D), e = [p', .nd (.lst false) (c2.map D.int), .nd (.lst true) (mv.map Mv.d), x, y] ∧ ds = l.map D.int ∧ (∀ x ∈ l, 0 ≤ x ∧ x ≤ 3) ∧ (∀ m ∈ mv, m.V 2) ∧ mv.length + 2 * ds.length ≤ 8) ?_ ?_ ?_
    · rintro d r _ ⟨l, mv, x, y, rfl, hd, hl, hm, hn⟩
      simp only [List.length_cons] at hn
      cases l with
      | nil => cases hd
      | cons a l =>
        cases hd
        have hr : PI.inR 2 = true := rfl
        simp only [zzS, zzL, zzE, zzA, zzB, zzF, hr]
        refine T_loop (fun ds e => ∃ (lo : Int) (k : Nat) (mv : List Mv) (y : D), e = [p', .nd (.lst false) (c2.map D.int), .nd (.lst true) (mv.map Mv.d), .int a, y] ∧ ds = rng lo k ∧ 0 ≤ lo ∧ lo + k = 2 ∧ (∀ m ∈ mv, m.V 2) ∧ mv.length + k + 2 * l.length ≤ 8) ?_ ?_ ?_
        · rintro d r _ ⟨lo, k, mv, y, rfl, hd, h0, h1, hm, hn⟩
          obtain ⟨k, rfl, rfl, rfl⟩ := rng_cases hd
          simp only [zzS, zzL, zzE, zzA, zzB, zzF, cool_tup, List.length_map]
          refine ⟨by omega, lo + 1, k, mv ++ [⟨lo, [.le a], -a, 1 - lo⟩], .int lo, ?_, rfl, by omega, by omega, mem_app hm ⟨h0, by simp only []; omega, ⟨by simp, by simp [Cn.V]⟩, by simp only []; omega, by simp only []; omega⟩, by simp only [List.length_append, List.length_cons, List.length_nil]; omega⟩
          rw [← mv_app]
          rfl
        · rintro _ ⟨lo, k, mv, y, rfl, hd, h0, h1, hm, hn⟩
          have := rng_nil hd
          exact ⟨l, mv, _, _, rfl, rfl, fun x h => hl x (List.mem_cons_of_mem _ h), hm, by rw [List.length_map]; omega⟩
        · exact ⟨0, 2, mv, _, rfl, rfl, by omega, by omega, hm, by rw [List.length_map] at hn; omega⟩
    · rintro _ ⟨l, mv, x, y, rfl, -, -, hm, hn⟩
      have hn : mv.length ≤ 8 := by omega
      have fin : ∀ (mv : List Mv) p', (∀ m ∈ mv, m.V 2) → mv.length ≤ 9 → Pen n p' → Q (.nd (.dk true [(.inr "sides"), (.inr "moves"), (.inr "goals")]) [.nd (.lst false) [.int 0, .int 1], .nd (.lst false) (mv.map Mv.d), .nd (.lst false) []]) [p'] := fun mv p' hm hn hp =>
        hQ ⟨[0, 1], mv, []⟩ p' ⟨by show 0 < 2; omega, by show 2 ≤ 4; omega, by simp, hm, fun m h => (List.not_mem_nil h).elim, by show mv.length ≤ 21; omega, by show 0 ≤ 2; omega⟩ (by show mv.length ≤ 20; omega) hp
      simp only [zzS, zzL, zzE, zzA, zzB, zzF, hp.un]
      refine draw_use (n := n + 5) hp (by omega) (by omega) fun k p' h0 h1 hp => ?_
      simp only [zzS, zzL, zzE, zzA, zzB, zzF]
      refine IFd (fun hk => ?_) (fun hk => ?_)
      · simp only [zzS, zzL, zzE, zzA, zzB, zzF, hp.un]
        refine draw_use (n := n + 4) hp (by omega) (by omega) fun k1 p' h2 h3 hp => ?_
        simp only [zzS, zzL, zzE, zzA, zzB, zzF, hp.un, cool_tup]
        refine pick_use (n := n + 3) hp (by rfl) (by decide) (by decide) fun d p' hd hp => ?_
        have hd : ∃ c, d = cnsD c ∧ CnsV c := by
          simp only [List.mem_cons, List.not_mem_nil, or_false] at hd
          rcases hd with rfl | rfl
          · exact ⟨[], rfl, by decide, fun x h => (List.not_mem_nil h).elim⟩
          · exact ⟨[.re 2 1], rfl, by decide, fun x h => by
              cases List.mem_singleton.mp h
              exact ⟨by decide, by decide⟩⟩
        obtain ⟨c, rfl, hc⟩ := hd
        simp only [zzS, zzL, zzE, zzA, zzB, zzF, hp.un]
        refine draw_use (n := n + 2) hp (by omega) (by omega) fun k2 p' h4 h5 hp => ?_
        simp only [zzS, zzL, zzE, zzA, zzB, zzF, cool_cns, mv_mk, mv_app, List.length_map, frzL_of, isFzL_map _ isFz_mv]
        exact ⟨by omega, fin _ _ (mem_app hm ⟨h2, h3, hc, h4, h5⟩) (by simp only [List.length_append, List.length_cons, List.length_nil]; omega) (hp.less (by omega))⟩
      · simp only [zzS, zzL, zzE, zzA, zzB, zzF, frzL_of, isFzL_map _ isFz_mv]
        exact fin _ _ hm (by omega) (hp.less (by omega))
    · exact ⟨c2, [], _, _, rfl, rfl, hc2, fun m h => (List.not_mem_nil h).elim, by simp only [List.length_map, List.length_nil]; omega⟩
  · refine ⟨[], [1, 2, 3], p, rfl, rfl, rfl, fun x h => (List.not_mem_nil h).elim, by decide, by decide, hp⟩
end Lw
set_option maxHeartbeats 3900000
namespace Lw
open PySem PySem.Spec PyProof.Rows L2 PI
theorem some_use {Q : D → List D → Prop} {X : XP} {n : Nat} {p : D} (hp : Pen (n + 200) p) (hQ : ∀ (b : Bk) p', b.V → b.mv.length ≤ 20 → Pen n p' → Q (b.d true) [p']) : TF (d_law_some_book [p]) Q X := by
  unfold d_law_some_book b_law_some_book
  simp only [zzS, zzL, zzE, zzA, zzB, zzF, hp.un]
  refine draw_use (n := n + 199) hp (by omega) (by omega) fun k p' h0 h1 hp => ?_
  simp only [zzS, zzL, zzE, zzA, zzB, zzF, hp.un]
  refine draw_use (n := n + 198) hp (by omega) (by omega) fun w p' w0 w1 hp => ?_
  obtain ⟨pl, hpl⟩ : ∃ pl : Nat, 1 + k = (pl : Int) := ⟨(1 + k).toNat, by omega⟩
  have l0 : 0 < pl := by omega
  have l4 : pl ≤ 4 := by omega
  clear h0 h1
  simp only [zzS, zzL, zzE, zzA, zzB, zzF, hp.un, hpl]
  clear hpl k
  have hR : PI.inR (pl : Int) = true := decide_eq_true ⟨by omega, by omega⟩
  refine IF_mk (fun _ => ?_) (fun _ => ?_) <;>
  · simp only [zzS, zzL, zzE, zzA, zzB, zzF, hp.un]
    refine pick_use (n := n + 197) hp (by rfl) (by decide) (by decide) fun d p' hd hp => ?_
    have hd : ∃ m : Int, d = .int m ∧ 0 < m ∧ m < 5 := by
      simp only [List.mem_cons, List.not_mem_nil, or_false] at hd
      rcases hd with rfl | rfl | rfl | rfl | rfl
      · exact ⟨1, rfl, by omega, by omega⟩
      · exact ⟨1, rfl, by omega, by omega⟩
      · exact ⟨1, rfl, by omega, by omega⟩
      · exact ⟨2, rfl, by omega, by omega⟩
      · exact ⟨_, rfl, by omega, by omega⟩
    obtain ⟨m, rfl, m0, m1⟩ := hd
    simp only [zzS, zzL, zzE, zzA, zzB, zzF, hp.un]
    refine IF_mk (fun _ => ?_) (fun _ => ?_) <;>
    · simp only [zzS, zzL, zzE, zzA, zzB, zzF, hp.un]
      refine pick_use (n := n + 196) hp (by rfl) (by decide) (by decide) fun d p' hd hp => ?_
      have hd2 : ∃ xs : List Int, d = .nd (.lst false) (xs.map D.int) ∧ 0 < xs.length ∧ xs.length ≤ 4 := by
        rcases List.mem_cons.mp hd with h | hd
        · exact ⟨[-1, 0, 1], h, by decide, by decide⟩
        rcases List.mem_cons.mp hd with h | hd
        · exact ⟨[-1, 1, -1], h, by decide, by decide⟩
        rcases List.mem_cons.mp hd with h | hd
        · exact ⟨[-1, 1, 0, -1], h, by decide, by decide⟩
        rcases List.mem_cons.mp hd with h | hd
        · first | exact ⟨[-2, 1, -1], h, by decide, by decide⟩ | exact ⟨[-1, 1], h, by decide, by decide⟩
        cases hd
      clear hd
      cases hd2 with | intro sh hd2 => ?_
      cases hd2 with | intro e1 hd2 => ?_
      have s0 := hd2.1
      have s4 := hd2.2
      subst e1
      simp only [zzS, zzL, zzE, zzA, zzB, zzF, hp.un, hR, Int.toNat_natCast]
      refine T_comp (fun ds acc e => ∃ (c : List Int) (p : D), e = [p, .int pl, .int w, .int m, .nd (.lst false) (sh.map D.int), .un, .un, .un, .un, .un, .un] ∧ acc = c.map D.int ∧ (∀ x ∈ c, x = 0 ∨ x = 1) ∧ c.length + ds.length = pl ∧ Pen (n + 190 + ds.length) p) ?_ ?_ ?_
      · rintro d r _ _ ⟨c, p, rfl, rfl, hc, hl, hp⟩
        simp only [List.length_cons] at hl hp
        simp only [zzS, zzL, zzE, zzA, zzB, zzF, hp.un]
        refine draw_use (n := n + 190 + r.length) hp (by omega) (by omega) fun k p' h0 h1 hp => ?_
        simp only [zzS, zzL, zzE, zzA, zzB, zzF, List.length_map]
        exact ⟨by omega, c ++ [k], p', rfl, int_app c k, mem_app hc (by omega), by simp only [List.length_append, List.length_cons, List.length_nil]; omega, hp⟩
      · rintro _ _ ⟨sd, p, rfl, rfl, hs, hl, hp⟩
        have hl : sd.length = pl := hl
        have eg : gMul (.int 2) (.int pl) = some (.int (2 * pl)) := gMul_ii (by omega) (by omega)
        simp only [zzS, zzL, zzE, zzA, zzB, zzF, hp.un, eg]
        refine draw_use (n := n + 189) hp (by omega) (by omega) fun j p' h0 h1 hp => ?_
        obtain ⟨tot, ht⟩ : ∃ t : Nat, (pl : Int) + j = (t : Int) := ⟨(pl + j).toNat, by omega⟩
        have t20 : tot ≤ 13 := by omega
        have hR2 : PI.inR (tot : Int) = true := decide_eq_true ⟨by omega, by omega⟩
        clear h0 h1
        simp only [zzS, zzL, zzE, zzA, zzB, zzF, hp.un, ht, hR2, Int.toNat_natCast]
        clear ht j
        refine T_loop (fun ds e => ∃ (lo : Int) (k : Nat) (mv : List Mv) (p x y z : D), e = [p, .int pl, .int w, .int m, .nd (.lst false) (sh.map D.int), .nd (.lst true) (sd.map D.int), .nd (.lst true) (mv.map Mv.d), .nd (.lst true) [], x, y, z] ∧ ds = rng lo k ∧ 0 ≤ lo ∧ (∀ m ∈ mv, m.V sd.length) ∧ mv.length + k ≤ 13 ∧ Pen (n + 50 + 10 * k) p) ?_ ?_ ?_
        · rintro d r _ ⟨lo, k, mv, p, x, y, z, rfl, hd, h0, hm, hn, hp⟩
          obtain ⟨k, rfl, rfl, rfl⟩ := rng_cases hd
          refine T_gset.mpr ?_
          simp only [zzL]
          refine T_cut (fun e' => ∃ (i : Int) (q : D), e' = [q, .int pl, .int w, .int m, .nd (.lst false) (sh.map D.int), .nd (.lst true) (sd.map D.int), .nd (.lst true) (mv.map Mv.d), .nd (.lst true) [], .int lo, .int i, z] ∧ 0 ≤ i ∧ i < pl ∧ Pen (n + 50 + 10 * k + 9) q) ?_ ?_
          · simp only [zzS, zzL, zzE, zzA, zzB, zzF, hp.un]
            refine IFd (fun hlo => ?_) (fun hlo => ?_)
            · simp only [zzS, zzL, zzE, zzA, zzB, zzF]
              exact ⟨lo, p, rfl, h0, hlo, hp.less (by omega)⟩
            · simp only [zzS, zzL, zzE, zzA, zzB, zzF, hp.un]
              refine draw_use (n := n + 50 + 10 * k + 9) hp (by omega) (by omega) fun i p' h2 h3 hp => ?_
              simp only [zzS, zzL, zzE, zzA, zzB, zzF]
              exact ⟨i, p', rfl, h2, h3, hp⟩
          rintro _ ⟨i, q, rfl, i0, i1, hp⟩
          refine T_cut (fun e' => ∃ (c : List Cn) (q : D), e' = [q, .int pl, .int w, .int m, .nd (.lst false) (sh.map D.int), .nd (.lst true) (sd.map D.int), .nd (.lst true) (mv.map Mv.d), .nd (.lst true) [], .int lo, .int i, cnsD c] ∧ CnsV c ∧ Pen (n + 50 + 10 * k + 2) q) ?_ ?_
          · simp only [zzS, zzL, zzE, zzA, zzB, zzF, hp.un]
            refine draw_use (n := n + 50 + 10 * k + 8) hp (by omega) (by omega) fun k1 p' h2 h3 hp => ?_
            simp only [zzS, zzL, zzE, zzA, zzB, zzF, hp.un]
            refine IF_mk (fun _ => ?_) (fun _ => ?_)
            · simp only [zzS, zzL, zzE, zzA, zzB, zzF, hp.un]
              refine conds_use (n := n + 50 + 10 * k + 3) hp w0 (by omega) m0 (by omega) fun c p' hc hcl hp => ?_
              simp only [zzS, zzL, zzE, zzA, zzB, zzF]
              exact ⟨c, p', rfl, ⟨by omega, hc⟩, hp.less (by omega)⟩
            · simp only [zzS, zzL, zzE, zzA, zzB, zzF]
              exact ⟨[], p', rfl, ⟨by decide, fun x h => (List.not_mem_nil h).elim⟩, hp.less (by omega)⟩
          rintro _ ⟨c, q, rfl, hc, hp⟩
          simp only [zzS, zzL, zzE, zzA, zzB, zzF, hp.un, isUn_cns]
          refine pick_use (n := n + 50 + 10 * k + 1) hp (isFzL_ints sh) (by rw [List.length_map]; omega) (by rw [List.length_map]; omega) fun d p' hd hp => ?_
          obtain ⟨s, -, e1⟩ := List.mem_map.mp hd
          subst e1
          simp only [zzS, zzL, zzE, zzA, zzB, zzF, hp.un]
          refine draw_use (n := n + 50 + 10 * k) hp (by omega) (by omega) fun t p' t0 t1 hp => ?_
          simp only [zzS, zzL, zzE, zzA, zzB, zzF, isFz_cns, cool_cns, mv_mk, mv_app, List.length_map]
          exact ⟨by omega, lo + 1, k, mv ++ [⟨i, c, s, t⟩], p', .int lo, .int i, cnsD c, rfl, rfl, by omega, mem_app hm ⟨i0, by simp only [hl]; omega, hc, t0, by simp only [hl]; omega⟩, by simp only [List.length_append, List.length_cons, List.length_nil]; omega, hp⟩
        · rintro _ ⟨lo, k, mv, p, x, y, z, rfl, hd, h0, hm, hn, hp⟩
          have hp : Pen (n + 50) p := hp.less (by omega)
          simp only [zzS, zzL, zzE, zzA, zzB, zzF, hp.un]
          refine pick_use (n := n + 49) hp (by rfl) (by decide) (by decide) fun d p' hd hp => ?_
          have hd : ∃ j : Nat, d = .int j ∧ j ≤ 2 := by
            simp only [List.mem_cons, List.not_mem_nil, or_false] at hd
            rcases hd with rfl | rfl | rfl | rfl
            · exact ⟨0, rfl, by omega⟩
            · exact ⟨1, rfl, by omega⟩
            · exact ⟨1, rfl, by omega⟩
            · exact ⟨2, rfl, by omega⟩
          obtain ⟨gn, rfl, g2⟩ := hd
          have hR3 : PI.inR (gn : Int) = true := decide_eq_true ⟨by omega, by omega⟩
          simp only [zzS, zzL, zzE, zzA, zzB, zzF, hp.un, hR3, Int.toNat_natCast]
          refine T_loop (fun ds e => ∃ (gl : List Gl) (p x y : D), e = [p, .int pl, .int w, .int m, .nd (.lst false) (sh.map D.int), .nd (.lst true) (sd.map D.int), .nd (.lst true) (mv.map Mv.d), .nd (.lst true) (gl.map Gl.d), x, y, z] ∧ (∀ m ∈ gl, m.V sd.length) ∧ gl.length + ds.length ≤ 2 ∧ Pen (n + 10 * ds.length) p) ?_ ?_ ?_
          · rintro d r _ ⟨gl, p, x, y, rfl, hg, hn2, hp⟩
            simp only [List.length_cons] at hn2 hp
            simp only [zzS, zzL, zzE, zzA, zzB, zzF, hp.un]
            refine draw_use (n := n + 10 * r.length + 9) hp (by omega) (by omega) fun i p' i0 i1 hp => ?_
            simp only [zzS, zzL, zzE, zzA, zzB, zzF, hp.un]
            refine conds_use (n := n + 10 * r.length + 4) hp w0 (by omega) m0 (by omega) fun c p' hc hcl hp => ?_
            simp only [zzS, zzL, zzE, zzA, zzB, zzF, hp.un]
            refine pick_use (n := n + 10 * r.length + 3) hp (by rfl) (by decide) (by decide) fun d2 p' hd hp => ?_
            have hd : ∃ c, d2 = cnsD c ∧ c.length ≤ 1 ∧ ∀ x ∈ c, x.V := by
              simp only [List.mem_cons, List.not_mem_nil, or_false] at hd
              rcases hd with rfl | rfl
              · exact ⟨[], rfl, by decide, fun x h => (List.not_mem_nil h).elim⟩
              · exact ⟨[.eq 0], rfl, by decide, fun x h => by
                  cases List.mem_singleton.mp h
                  trivial⟩
            obtain ⟨c2, rfl, hc2l, hc2⟩ := hd
            simp only [zzS, zzL, zzE, zzA, zzB, zzF, cns_add c c2 (by omega), cool_cns, gl_mk, gl_app, List.length_map]
            exact ⟨by omega, gl ++ [⟨i, c ++ c2⟩], p', d, .int i, rfl, mem_app hg ⟨i0, by simp only [hl]; omega, by simp only [List.length_append]; omega, fun x hx => (List.mem_append.mp hx).elim (hc x) (hc2 x)⟩, by simp only [List.length_append, List.length_cons, List.length_nil]; omega, hp.less (by omega)⟩
          · rintro _ ⟨gl, p, x, y, rfl, hg, hn2, hp⟩
            simp only [zzS, zzL, zzE, zzA, zzB, zzF, frzL_of, isFzL_map _ isFz_mv, isFzL_map _ isFz_gl]
            exact hQ ⟨sd, mv, gl⟩ p ⟨by simp only [hl]; omega, by simp only [hl]; omega, hs, hm, hg, by simp only []; omega, hn2⟩ (by show mv.length ≤ 20; omega) hp
          · exact ⟨[], p', x, y, rfl, fun m h => (List.not_mem_nil h).elim, by rw [len_rng]; exact (by omega : 0 + gn ≤ 2), hp.less (by rw [len_rng]; omega)⟩
        · exact ⟨0, tot, [], p', _, _, _, rfl, rfl, by omega, fun m h => (List.not_mem_nil h).elim, by show 0 + tot ≤ 13; omega, hp.less (by omega)⟩
      · exact ⟨[], p', rfl, rfl, fun x h => (List.not_mem_nil h).elim, by rw [len_rng]; exact Nat.zero_add _, hp.less (by rw [len_rng]; omega)⟩
theorem book_use {Q : D → List D → Prop} {X : XP} {n : Nat} {p : D} (hp : Pen (n + 201) p) (hQ : ∀ (b : Bk) p', b.V → b.mv.length ≤ 20 → Pen n p' → Q (b.d true) [p']) : TF (d_law_drawn_book [p]) Q X := by
  unfold d_law_drawn_book b_law_drawn_book
  simp only [zzS, zzL, zzE, zzA, zzB, zzF, hp.un]
  refine draw_use (n := n + 200) hp (by omega) (by omega) fun k p' h0 h1 hp => ?_
  simp only [zzS, zzL, zzE, zzA, zzB, zzF, hp.un]
  refine IF_mk (fun _ => ?_) (fun _ => ?_)
  · simp only [zzS, zzL, zzE, zzA, zzB, zzF, hp.un]
    refine take_use (n := n + 190) hp fun b p' hb h20 hp => ?_
    simp only [zzS, zzL, zzE, zzA, zzB, zzF]
    exact hQ b p' hb h20 (hp.less (by omega))
  · simp only [zzS, zzL, zzE, zzA, zzB, zzF, hp.un]
    refine some_use (n := n) hp fun b p' hb h20 hp => ?_
    simp only [zzS, zzL, zzE, zzA, zzB, zzF]
    exact hQ b p' hb h20 hp
end Lw
set_option maxHeartbeats 3900000
namespace Lw
open PySem PySem.Spec PyProof.Rows L2 PI
theorem ir_tup (xs : List D) : gIsA csI tbI (.nd .tup xs) (.nd .tup [.ty "tuple", .ty "list"]) = some (.bl true) := by kernel_rfl
theorem ir_lst (xs : List D) : gIsA csI tbI (.nd (.lst false) xs) (.nd .tup [.ty "tuple", .ty "list"]) = some (.bl true) := by kernel_rfl
theorem ir_int (i : Int) : gIsA csI tbI (.int i) (.nd .tup [.ty "tuple", .ty "list"]) = some (.bl false) := by kernel_rfl
theorem ir_str (i : Str) : gIsA csI tbI (.str i) (.nd .tup [.ty "tuple", .ty "list"]) = some (.bl false) := by kernel_rfl
theorem ii_int (i : Int) : gIsA csI tbI (.int i) (.ty "int") = some (.bl true) := by kernel_rfl
theorem ib_int (i : Int) : gIsA csI tbI (.int i) (.ty "bool") = some (.bl false) := by kernel_rfl
theorem ii_bl (i : Bool) : gIsA csI tbI (.bl i) (.ty "int") = some (.bl true) := by kernel_rfl
theorem ib_bl (i : Bool) : gIsA csI tbI (.bl i) (.ty "bool") = some (.bl true) := by kernel_rfl
theorem ii_str (i : Str) : gIsA csI tbI (.str i) (.ty "int") = some (.bl false) := by kernel_rfl
theorem ii_non : gIsA csI tbI .non (.ty "int") = some (.bl false) := by kernel_rfl
theorem ii_tup (xs : List D) : gIsA csI tbI (.nd .tup xs) (.ty "int") = some (.bl false) := by kernel_rfl
theorem ii_lst (xs : List D) : gIsA csI tbI (.nd (.lst false) xs) (.ty "int") = some (.bl false) := by kernel_rfl
theorem is_str (i : Str) : gIsA csI tbI (.str i) (.ty "str") = some (.bl true) := by kernel_rfl
theorem is_Move (o : Bool) (ns : List Str) (xs : List D) : gIsA csI tbI (.nd (.ob o "Move" ns) xs) (.fn "Move") = some (.bl true) := by kernel_rfl
theorem is_Goal (o : Bool) (ns : List Str) (xs : List D) : gIsA csI tbI (.nd (.ob o "Goal" ns) xs) (.fn "Goal") = some (.bl true) := by kernel_rfl
theorem row_tup {Q : D → List D → Prop} {X : XP} {xs : List D} (hz : isFzL xs = true) (hQ : Q (.bl true) [.nd .tup xs]) : TF (d_is_row [.nd .tup xs]) Q X := by
  unfold d_is_row b_is_row
  simp only [zzS, zzL, zzE, zzA, zzB, zzF, ir_tup]
  exact hQ
theorem row_lst {Q : D → List D → Prop} {X : XP} {xs : List D} (hz : isFzL xs = true) (hQ : Q (.bl true) [.nd (.lst false) xs]) : TF (d_is_row [.nd (.lst false) xs]) Q X := by
  unfold d_is_row b_is_row
  simp only [zzS, zzL, zzE, zzA, zzB, zzF, ir_lst]
  exact hQ
theorem row_int {Q : D → List D → Prop} {X : XP} {i : Int} (hQ : Q (.bl false) [.int i]) : TF (d_is_row [.int i]) Q X := by
  unfold d_is_row b_is_row
  simp only [zzS, zzL, zzE, zzA, zzB, zzF, ir_int]
  exact hQ
theorem row_str {Q : D → List D → Prop} {X : XP} {i : Str} (hQ : Q (.bl false) [.str i]) : TF (d_is_row [.str i]) Q X := by
  unfold d_is_row b_is_row
  simp only [zzS, zzL, zzE, zzA, zzB, zzF, ir_str]
  exact hQ
theorem int_int {Q : D → List D → Prop} {X : XP} {i : Int} (hQ : Q (.bl true) []) : TF (d_is_int [.int i]) Q X := by
  unfold d_is_int b_is_int
  simp only [zzS, zzL, zzE, zzA, zzB, zzF, ii_int, ib_int]
  exact hQ
theorem int_bl {Q : D → List D → Prop} {X : XP} {i : Bool} (hQ : Q (.bl false) []) : TF (d_is_int [.bl i]) Q X := by
  unfold d_is_int b_is_int
  simp only [zzS, zzL, zzE, zzA, zzB, zzF, ii_bl, ib_bl]
  exact hQ
/-- what is no integer -/
def Odd (d : D) : Prop := isUn d = false ∧ isFz d = true ∧ ∀ (Q : D → List D → Prop) (X : XP), Q (.bl false) [] → TF (d_is_int [d]) Q X
theorem odd_bl (b : Bool) : Odd (.bl b) := ⟨rfl, rfl, fun Q X => int_bl⟩
theorem odd_non : Odd .non := ⟨rfl, rfl, fun Q X hQ => by
  unfold d_is_int b_is_int
  simp only [zzS, zzL, zzE, zzA, zzB, zzF, ii_non]
  exact hQ⟩
theorem odd_str (s : Str) : Odd (.str s) := ⟨rfl, rfl, fun Q X hQ => by
  unfold d_is_int b_is_int
  simp only [zzS, zzL, zzE, zzA, zzB, zzF, ii_str]
  exact hQ⟩
theorem odd_tup (xs : List D) (h : isFzL xs = true) : Odd (.nd .tup xs) := ⟨rfl, by simp only [isFz, Kd.own, h]; rfl, fun Q X hQ => by
  unfold d_is_int b_is_int
  simp only [zzS, zzL, zzE, zzA, zzB, zzF, ii_tup, h]
  exact hQ⟩
theorem odd_lst (xs : List D) (h : isFzL xs = true) : Odd (.nd (.lst false) xs) := ⟨rfl, by simp only [isFz, Kd.own, h]; rfl, fun Q X hQ => by
  unfold d_is_int b_is_int
  simp only [zzS, zzL, zzE, zzA, zzB, zzF, ii_lst, h]
  exact hQ⟩
def lsD (b : Bool) (xs : List D) : D := bif b then .nd .tup xs else .nd (.lst false) xs
theorem un_ls (b : Bool) (xs : List D) : isUn (lsD b xs) = false := by cases b <;> rfl
theorem fz_ls {b : Bool} {xs : List D} (h : isFzL xs = true) : isFz (lsD b xs) = true := by cases b <;> simp only [lsD, cond_true, cond_false, isFz, Kd.own, h] <;> rfl
theorem cool_ls {b : Bool} {xs : List D} (h : isFzL xs = true) : cool (lsD b xs) = lsD b xs := cool_fz (fz_ls h)
theorem frz_ls {b : Bool} {xs : List D} (h : isFzL xs = true) : frz (lsD b xs) = lsD b xs := frz_of (fz_ls h)
theorem len_ls (b : Bool) (xs : List D) : gLen (lsD b xs) = some (.int xs.length) := by cases b <;> rfl
theorem tup_ls {b : Bool} {xs : List D} (h : isFzL xs = true) : gTuple (lsD b xs) = some (.nd .tup xs) := by cases b <;> exact if_pos h
theorem lst_ls {b : Bool} {xs : List D} (h : isFzL xs = true) : gList (lsD b xs) = some (.nd (.lst true) xs) := by cases b <;> exact if_pos h
theorem items_ls {b : Bool} {xs : List D} (h : isFzL xs = true) : items (lsD b xs) = some xs := by cases b <;> exact if_pos h
theorem row_ls {Q : D → List D → Prop} {X : XP} {b : Bool} {xs : List D} (hz : isFzL xs = true) (hQ : Q (.bl true) [lsD b xs]) : TF (d_is_row [lsD b xs]) Q X := by
  cases b with
  | true => exact row_tup hz hQ
  | false => exact row_lst hz hQ
theorem tup_tup {xs : List D} (h : isFzL xs = true) : gTuple (.nd .tup xs) = some (.nd .tup xs) := if_pos h
theorem tup_lst {o : Bool} {xs : List D} (h : isFzL xs = true) : gTuple (.nd (.lst o) xs) = some (.nd .tup xs) := if_pos h
theorem listed_use {Q : D → List D → Prop} {X : XP} {n : Nat} {p : D} {b : Bool} {xs : List D} (hp : Pen (n + 1) p) (hz : isFzL xs = true) (hQ : ∀ b p', Pen n p' → Q (lsD b xs) [p']) : TF (d_law_listed [p, lsD b xs]) Q X := by
  unfold d_law_listed b_law_listed
  simp only [zzS, zzL, zzE, zzA, zzB, zzF, hp.un, un_ls, tup_ls hz, lst_ls hz, frzL_of hz]
  refine pick_use hp (by simp only [isFzL, isFz, Kd.own, hz]; rfl) (by show 0 < 2; omega) (by show 2 < 1000000000; omega) fun d p' hd hp => ?_
  simp only [zzS, zzL, zzE, zzA, zzB, zzF]
  obtain rfl | hd := List.mem_cons.mp hd
  · exact hQ true p' hp
  · cases List.mem_singleton.mp hd
    exact hQ false p' hp
def Cn.xs : Cn → List D
  | .le k => [.str "least", .int k]
  | .mo k => [.str "most", .int k]
  | .eq k => [.str "is", .int k]
  | .ne k => [.str "not", .int k]
  | .re m r => [.str "rest", .int m, .int r]
theorem cn_eq (c : Cn) : c.d = .nd .tup c.xs := by cases c <;> rfl
theorem fz_cx (c : Cn) : isFzL c.xs = true := by cases c <;> rfl
theorem as_int {Q : D → List D → Prop} {X : XP} {n : Nat} {i : Int} (hQ : Q (.int i) [.int i]) : TF (r_as_tuples (n + 1) [.int i]) Q X := by
  unfold r_as_tuples b_as_tuples
  simp only [zzS, zzL, zzE, zzA, zzB, zzF]
  refine row_int ?_
  simp only [zzS, zzL, zzE, zzA, zzB, zzF, gTru]
  exact hQ
theorem as_str {Q : D → List D → Prop} {X : XP} {n : Nat} {i : Str} (hQ : Q (.str i) [.str i]) : TF (r_as_tuples (n + 1) [.str i]) Q X := by
  unfold r_as_tuples b_as_tuples
  simp only [zzS, zzL, zzE, zzA, zzB, zzF]
  refine row_str ?_
  simp only [zzS, zzL, zzE, zzA, zzB, zzF, gTru]
  exact hQ
def isO : D → Bool
  | .nd (.lst true) _ => true
  | _ => false
theorem isO_ls (b : Bool) (xs : List D) : isO (lsD b xs) = false := by cases b <;> rfl
theorem T_lcO {own : List Nat} {i : Nat} {g : D → M Unit} {t : M Bool} {fe : M Op} {e : List D} {Q : Op → List D → Prop} {X : XP} (h : isO (e.getD i .un) = false) : T (dLcO own i g t fe) e Q X ↔ T (dLc own (iSeq (dName i)) g t fe) e Q X := by
  unfold T dLcO
  revert h
  cases e.getD i .un with
  | nd k xs =>
    cases k with
    | lst o =>
      cases o with
      | true => exact fun h => nomatch h
      | false => exact fun _ => Iff.rfl
    | _ => exact fun _ => Iff.rfl
  | _ => exact fun _ => Iff.rfl
/-- a row, each item of which goes over -/
theorem as_row {A : Type} {f g : A → D} (hf : ∀ a, isUn (f a) = false ∧ isFz (f a) = true) (hg : ∀ a, isFz (g a) = true) {n : Nat} (hs : ∀ (a : A) (Q : D → List D → Prop) (X : XP), Q (g a) [f a] → TF (r_as_tuples n [f a]) Q X)
    {Q : D → List D → Prop} {X : XP} {b : Bool} {l : List A} (hl : l.length < 1000) (hQ : Q (.nd .tup (l.map g)) [lsD b (l.map f)]) : TF (r_as_tuples (n + 1) [lsD b (l.map f)]) Q X := by
  have hz : isFzL (l.map f) = true := isFzL_map f (fun a => (hf a).2) l
  unfold r_as_tuples b_as_tuples
  simp only [zzS, zzL, zzE, zzA, zzB, zzF, un_ls, cool_ls hz, fz_ls hz]
  refine row_ls hz ?_
  simp only [zzS, zzL, zzE, zzA, zzB, zzF, gTru, un_ls, cool_ls hz, fz_ls hz, items_ls hz, T_lcO, isO_ls]
  refine T_comp (fun ds acc e => ∃ l1 l2 : List A, e = [lsD b (l.map f), .un] ∧ l = l1 ++ l2 ∧ acc = l1.map g ∧ ds = l2.map f) ?_ ?_ ?_
  · rintro d r acc _ ⟨l1, l2, rfl, e2, rfl, e4⟩
    cases l2 with
    | nil => cases e4
    | cons a l2 =>
      cases e4
      simp only [zzS, zzL, zzE, zzA, zzB, zzF, (hf a).1, (hf a).2, cool_fz (hf a).2]
      refine hs a _ _ ?_
      simp only [zzS, zzL, zzE, zzA, zzB, zzF, List.length_map, (hf a).2]
      refine ⟨?_, l1 ++ [a], l2, by rw [e2]; simp, by simp, rfl⟩
      have := congrArg List.length e2
      simp only [List.length_append, List.length_cons] at this
      omega
  · rintro acc _ ⟨l1, l2, rfl, e2, rfl, e4⟩
    cases l2 with
    | cons a l2 => cases e4
    | nil =>
      rw [List.append_nil] at e2
      subst e2
      simp only [zzS, zzL, zzE, zzA, zzB, zzF, tup_lst (isFzL_map g hg l)]
      exact hQ
  · exact ⟨[], l, rfl, rfl, rfl, rfl⟩
inductive Lf where
  | i (k : Int) | s (k : Str)
def Lf.d : Lf → D
  | .i k => .int k
  | .s k => .str k
def Cn.fs : Cn → List Lf
  | .le k => [.s "least", .i k]
  | .mo k => [.s "most", .i k]
  | .eq k => [.s "is", .i k]
  | .ne k => [.s "not", .i k]
  | .re m r => [.s "rest", .i m, .i r]
theorem cn_fs (c : Cn) : c.xs = c.fs.map Lf.d := by cases c <;> rfl
/-- a condition, passed as a tuple or a list -/
def cq (q : Cn × Bool) : D := lsD q.2 q.1.xs
theorem fz_cq (q : Cn × Bool) : isFz (cq q) = true := fz_ls (fz_cx _)
theorem as_cond {Q : D → List D → Prop} {X : XP} {n : Nat} (q : Cn × Bool) (hQ : Q q.1.d [cq q]) : TF (r_as_tuples (n + 2) [cq q]) Q X := by
  have h := as_row (f := Lf.d) (g := Lf.d) (n := n + 1) (by intro a; cases a <;> exact ⟨rfl, rfl⟩) (by intro a; cases a <;> rfl) (fun a Q X h => by
    cases a with
    | i k => exact as_int h
    | s k => exact as_str h) (Q := Q) (X := X) (b := q.2) (l := q.1.fs) (by cases q.1 <;> simp only [Cn.fs, List.length_cons, List.length_nil] <;> omega) (by rw [← cn_fs, ← cn_eq]; exact hQ)
  rw [← cn_fs] at h
  exact h
theorem as_conds {Q : D → List D → Prop} {X : XP} {n : Nat} {b : Bool} {l : List (Cn × Bool)} (hl : l.length < 1000) (hQ : Q (cnsD (l.map (·.1))) [lsD b (l.map cq)]) : TF (r_as_tuples (n + 3) [lsD b (l.map cq)]) Q X := by
  refine as_row (f := cq) (g := fun q => q.1.d) (n := n + 2) (fun a => ⟨un_ls _ _, fz_cq a⟩) (fun a => isFz_cn _) (fun a Q X h => as_cond a h) hl ?_
  have e : cnsD (l.map (·.1)) = .nd .tup (l.map fun q => q.1.d) := by
    unfold cnsD
    rw [List.map_map]
    rfl
  rw [← e]
  exact hQ
end Lw
set_option maxHeartbeats 3900000
namespace Lw
open PySem PySem.Spec PyProof.Rows L2 PI
theorem eW_least_least : gEq (.str "least") (.str "least") = some (.bl true) := by kernel_rfl
theorem eW_least_most : gEq (.str "least") (.str "most") = some (.bl false) := by kernel_rfl
theorem eW_least_is : gEq (.str "least") (.str "is") = some (.bl false) := by kernel_rfl
theorem eW_least_not : gEq (.str "least") (.str "not") = some (.bl false) := by kernel_rfl
theorem eW_least_rest : gEq (.str "least") (.str "rest") = some (.bl false) := by kernel_rfl
theorem eW_most_least : gEq (.str "most") (.str "least") = some (.bl false) := by kernel_rfl
theorem eW_most_most : gEq (.str "most") (.str "most") = some (.bl true) := by kernel_rfl
theorem eW_most_is : gEq (.str "most") (.str "is") = some (.bl false) := by kernel_rfl
theorem eW_most_not : gEq (.str "most") (.str "not") = some (.bl false) := by kernel_rfl
theorem eW_most_rest : gEq (.str "most") (.str "rest") = some (.bl false) := by kernel_rfl
theorem eW_is_least : gEq (.str "is") (.str "least") = some (.bl false) := by kernel_rfl
theorem eW_is_most : gEq (.str "is") (.str "most") = some (.bl false) := by kernel_rfl
theorem eW_is_is : gEq (.str "is") (.str "is") = some (.bl true) := by kernel_rfl
theorem eW_is_not : gEq (.str "is") (.str "not") = some (.bl false) := by kernel_rfl
theorem eW_is_rest : gEq (.str "is") (.str "rest") = some (.bl false) := by kernel_rfl
theorem eW_not_least : gEq (.str "not") (.str "least") = some (.bl false) := by kernel_rfl
theorem eW_not_most : gEq (.str "not") (.str "most") = some (.bl false) := by kernel_rfl
theorem eW_not_is : gEq (.str "not") (.str "is") = some (.bl false) := by kernel_rfl
theorem eW_not_not : gEq (.str "not") (.str "not") = some (.bl true) := by kernel_rfl
theorem eW_not_rest : gEq (.str "not") (.str "rest") = some (.bl false) := by kernel_rfl
theorem eW_rest_least : gEq (.str "rest") (.str "least") = some (.bl false) := by kernel_rfl
theorem eW_rest_most : gEq (.str "rest") (.str "most") = some (.bl false) := by kernel_rfl
theorem eW_rest_is : gEq (.str "rest") (.str "is") = some (.bl false) := by kernel_rfl
theorem eW_rest_not : gEq (.str "rest") (.str "not") = some (.bl false) := by kernel_rfl
theorem eW_rest_rest : gEq (.str "rest") (.str "rest") = some (.bl true) := by kernel_rfl
theorem ix2_0 (a b : D) : gIx (.nd .tup [a, b]) (.int 0) = fzO (some a) := by kernel_rfl
theorem jx2_0 (a b : D) : gIx (.nd (.lst false) [a, b]) (.int 0) = fzO (some a) := by kernel_rfl
theorem ix2_1 (a b : D) : gIx (.nd .tup [a, b]) (.int 1) = fzO (some b) := by kernel_rfl
theorem jx2_1 (a b : D) : gIx (.nd (.lst false) [a, b]) (.int 1) = fzO (some b) := by kernel_rfl
theorem ix3_0 (a b c : D) : gIx (.nd .tup [a, b, c]) (.int 0) = fzO (some a) := by kernel_rfl
theorem jx3_0 (a b c : D) : gIx (.nd (.lst false) [a, b, c]) (.int 0) = fzO (some a) := by kernel_rfl
theorem ix3_1 (a b c : D) : gIx (.nd .tup [a, b, c]) (.int 1) = fzO (some b) := by kernel_rfl
theorem jx3_1 (a b c : D) : gIx (.nd (.lst false) [a, b, c]) (.int 1) = fzO (some b) := by kernel_rfl
theorem ix3_2 (a b c : D) : gIx (.nd .tup [a, b, c]) (.int 2) = fzO (some c) := by kernel_rfl
theorem jx3_2 (a b c : D) : gIx (.nd (.lst false) [a, b, c]) (.int 2) = fzO (some c) := by kernel_rfl
theorem ix4_0 (a b c d : D) : gIx (.nd .tup [a, b, c, d]) (.int 0) = fzO (some a) := by kernel_rfl
theorem ix4_1 (a b c d : D) : gIx (.nd .tup [a, b, c, d]) (.int 1) = fzO (some b) := by kernel_rfl
theorem ix4_2 (a b c d : D) : gIx (.nd .tup [a, b, c, d]) (.int 2) = fzO (some c) := by kernel_rfl
theorem ix4_3 (a b c d : D) : gIx (.nd .tup [a, b, c, d]) (.int 3) = fzO (some d) := by kernel_rfl
theorem fzO_int (i : Int) : fzO (some (.int i)) = some (.int i) := rfl
theorem fzO_str (i : Str) : fzO (some (.str i)) = some (.str i) := rfl
theorem ln2 (a b : D) : gLen (.nd .tup [a, b]) = some (.int 2) := rfl
theorem ln3 (a b c : D) : gLen (.nd .tup [a, b, c]) = some (.int 3) := rfl
theorem kn2 (a b : D) : gLen (.nd (.lst false) [a, b]) = some (.int 2) := rfl
theorem kn3 (a b c : D) : gLen (.nd (.lst false) [a, b, c]) = some (.int 3) := rfl
theorem tr_bl (b : Bool) : gTru (.bl b) = some b := rfl
theorem fzO_some {d : D} (h : isFz d = true) : fzO (some d) = some d := if_pos h
theorem pM_place (x : D) : putO ["Move"] "place" x (.nd (.ob true "Move" []) []) = some (.nd (.ob true "Move" ["place"]) [x]) := by kernel_rfl
theorem pM_conditions (a x : D) : putO ["Move"] "conditions" x (.nd (.ob true "Move" ["place"]) [a]) = some (.nd (.ob true "Move" ["place", "conditions"]) [a, x]) := by kernel_rfl
theorem pM_shift (a b x : D) : putO ["Move"] "shift" x (.nd (.ob true "Move" ["place", "conditions"]) [a, b]) = some (.nd (.ob true "Move" ["place", "conditions", "shift"]) [a, b, x]) := by kernel_rfl
theorem pM_target (a b c x : D) : putO ["Move"] "target" x (.nd (.ob true "Move" ["place", "conditions", "shift"]) [a, b, c]) = some (.nd (.ob true "Move" ["place", "conditions", "shift", "target"]) [a, b, c, x]) := by kernel_rfl
theorem pG_place (x : D) : putO ["Goal"] "place" x (.nd (.ob true "Goal" []) []) = some (.nd (.ob true "Goal" ["place"]) [x]) := by kernel_rfl
theorem pG_conditions (a x : D) : putO ["Goal"] "conditions" x (.nd (.ob true "Goal" ["place"]) [a]) = some (.nd (.ob true "Goal" ["place", "conditions"]) [a, x]) := by kernel_rfl
theorem pB_sides (x : D) : putO ["Book"] "sides" x (.nd (.ob true "Book" []) []) = some (.nd (.ob true "Book" ["sides"]) [x]) := by kernel_rfl
theorem pB_places (a x : D) : putO ["Book"] "places" x (.nd (.ob true "Book" ["sides"]) [a]) = some (.nd (.ob true "Book" ["sides", "places"]) [a, x]) := by kernel_rfl
theorem pB_moves (a b x : D) : putO ["Book"] "moves" x (.nd (.ob true "Book" ["sides", "places"]) [a, b]) = some (.nd (.ob true "Book" ["sides", "places", "moves"]) [a, b, x]) := by kernel_rfl
theorem pB_goals (a b c x : D) : putO ["Book"] "goals" x (.nd (.ob true "Book" ["sides", "places", "moves"]) [a, b, c]) = some (.nd (.ob true "Book" ["sides", "places", "moves", "goals"]) [a, b, c, x]) := by kernel_rfl
def Mv.o (o : Bool) (m : Mv) : D := .nd (.ob o "Move" ["place", "conditions", "shift", "target"]) [.int m.p, cnsD m.cs, .int m.s, .int m.t]
def Gl.o (o : Bool) (m : Gl) : D := .nd (.ob o "Goal" ["place", "conditions"]) [.int m.p, cnsD m.cs]
def Bk.o (o : Bool) (b : Bk) : D := .nd (.ob o "Book" ["sides", "places", "moves", "goals"]) [.nd .tup (b.sides.map D.int), .int b.sides.length, .nd .tup (b.mv.map (Mv.o false)), .nd .tup (b.gl.map (Gl.o false))]
theorem frz_mo (o : Bool) (m : Mv) : frz (m.o o) = m.o false := by
  unfold Mv.o
  simp only [frz, frzL, Kd.frz, frz_cns]
theorem frz_go (o : Bool) (m : Gl) : frz (m.o o) = m.o false := by
  unfold Gl.o
  simp only [frz, frzL, Kd.frz, frz_cns]
theorem fz_mo (m : Mv) : isFz (m.o false) = true := by
  unfold Mv.o
  simp only [isFz, isFzL, Kd.own, isFz_cns, Bool.not_false, Bool.and_self]
theorem fz_go (m : Gl) : isFz (m.o false) = true := by
  unfold Gl.o
  simp only [isFz, isFzL, Kd.own, isFz_cns, Bool.not_false, Bool.and_self]
theorem fz_mo1 (m : Mv) : isFz (m.o true) = false := rfl
theorem fz_go1 (m : Gl) : isFz (m.o true) = false := rfl
theorem fz_bo (b : Bk) : isFz (b.o false) = true := by
  unfold Bk.o
  simp only [isFz, isFzL, Kd.own, isFzL_ints, isFzL_map _ fz_mo, isFzL_map _ fz_go, Bool.not_false, Bool.and_self]
theorem un_mo (o : Bool) (m : Mv) : isUn (m.o o) = false := rfl
theorem un_go (o : Bool) (m : Gl) : isUn (m.o o) = false := rfl
theorem un_bo (o : Bool) (m : Bk) : isUn (m.o o) = false := rfl
theorem mf_place (o : Bool) (m : Mv) : gFld ["Move", "Goal"] "place" (m.o o) = some (.int m.p) := by kernel_rfl
theorem mf_conds (o : Bool) (m : Mv) : gFld ["Move", "Goal"] "conditions" (m.o o) = some (cnsD m.cs) :=
  (by kernel_rfl : gFld ["Move", "Goal"] "conditions" (m.o o) = fzO (some (cnsD m.cs))).trans (if_pos (isFz_cns _))
theorem mf_shift (o : Bool) (m : Mv) : gFld ["Move"] "shift" (m.o o) = some (.int m.s) := by kernel_rfl
theorem mf_target (o : Bool) (m : Mv) : gFld ["Move"] "target" (m.o o) = some (.int m.t) := by kernel_rfl
theorem gf_place (o : Bool) (m : Gl) : gFld ["Move", "Goal"] "place" (m.o o) = some (.int m.p) := by kernel_rfl
theorem gf_conds (o : Bool) (m : Gl) : gFld ["Move", "Goal"] "conditions" (m.o o) = some (cnsD m.cs) :=
  (by kernel_rfl : gFld ["Move", "Goal"] "conditions" (m.o o) = fzO (some (cnsD m.cs))).trans (if_pos (isFz_cns _))
theorem fz_tup {xs : List D} (h : isFzL xs = true) : isFz (.nd .tup xs) = true := by simp only [isFz, Kd.own, h]; rfl
theorem bf_moves (o : Bool) (b : Bk) : gFld ["Book"] "moves" (b.o o) = some (.nd .tup (b.mv.map (Mv.o false))) :=
  (by kernel_rfl : gFld ["Book"] "moves" (b.o o) = fzO (some (.nd .tup (b.mv.map (Mv.o false))))).trans (if_pos (fz_tup (isFzL_map _ fz_mo _)))
theorem bf_goals (o : Bool) (b : Bk) : gFld ["Book"] "goals" (b.o o) = some (.nd .tup (b.gl.map (Gl.o false))) :=
  (by kernel_rfl : gFld ["Book"] "goals" (b.o o) = fzO (some (.nd .tup (b.gl.map (Gl.o false))))).trans (if_pos (fz_tup (isFzL_map _ fz_go _)))
theorem bf_places (o : Bool) (b : Bk) : gFld ["Book"] "places" (b.o o) = some (.int b.sides.length) := by kernel_rfl
theorem bf_sides1 (a : D) (h : isFz a = true) : gFld ["Book"] "sides" (.nd (.ob true "Book" ["sides"]) [a]) = some a :=
  (by kernel_rfl : gFld ["Book"] "sides" (.nd (.ob true "Book" ["sides"]) [a]) = fzO (some a)).trans (if_pos h)
theorem bf_places2 (a : D) (i : Int) : gFld ["Book"] "places" (.nd (.ob true "Book" ["sides", "places"]) [a, .int i]) = some (.int i) := by kernel_rfl
theorem ni_2 : gNotIn (.int 2) (.nd (.lst true) [.int 2, .int 3]) = some (.bl false) := by kernel_rfl
theorem ni_3 : gNotIn (.int 3) (.nd (.lst true) [.int 2, .int 3]) = some (.bl false) := by kernel_rfl
theorem ni_s0 : gNotIn (.int 0) (.nd (.lst true) [.int 0, .int 1]) = some (.bl false) := by kernel_rfl
theorem ni_s1 : gNotIn (.int 1) (.nd (.lst true) [.int 0, .int 1]) = some (.bl false) := by kernel_rfl
theorem ow_least : gInK tbK (.str "least") (.fn "OTHER_WORDS") = some (.bl true) := by kernel_rfl
theorem ow_most : gInK tbK (.str "most") (.fn "OTHER_WORDS") = some (.bl true) := by kernel_rfl
theorem ow_is : gInK tbK (.str "is") (.fn "OTHER_WORDS") = some (.bl true) := by kernel_rfl
theorem ow_not : gInK tbK (.str "not") (.fn "OTHER_WORDS") = some (.bl true) := by kernel_rfl
theorem un_tup (xs : List D) : isUn (.nd .tup xs) = false := rfl
theorem place_yes {Q : D → List D → Prop} {X : XP} {i k : Int} (h0 : 0 ≤ i) (h1 : i < k) (hQ : Q (.bl true) []) : TF (d_is_place_of [.int i, .int k]) Q X := by
  unfold d_is_place_of b_is_place_of
  simp only [zzS, zzL, zzE, zzA, zzB, zzF]
  refine int_int ?_
  simp only [zzS, zzL, zzE, zzA, zzB, zzF, decide_eq_true h0, decide_eq_true h1]
  exact hQ
theorem cond_yes {Q : D → List D → Prop} {X : XP} (c : Cn) (h : c.V) (hQ : Q (.bl true) []) : TF (d_is_condition [c.d]) Q X := by
  unfold d_is_condition b_is_condition
  cases c with
  | re m r =>
    have h0 : 0 ≤ r := h.1
    have h1 : r < m := h.2
    simp only [zzS, zzL, zzE, zzA, zzB, zzF, Cn.d]
    refine row_tup rfl ?_
    simp only [zzS, zzL, zzE, zzA, zzB, zzF, zzI, zzW, ni_3, is_str]
    refine int_int ?_
    simp only [zzS, zzL, zzE, zzA, zzB, zzF, zzI, zzW]
    refine int_int ?_
    simp only [zzS, zzL, zzE, zzA, zzB, zzF, zzI, zzW, decide_eq_true h0, decide_eq_true h1]
    exact hQ
  | _ k =>
    simp only [zzS, zzL, zzE, zzA, zzB, zzF, Cn.d]
    refine row_tup rfl ?_
    simp only [zzS, zzL, zzE, zzA, zzB, zzF, zzI, zzW, ni_2, is_str, ow_least, ow_most, ow_is, ow_not]
    refine int_int ?_
    simp only [zzS, zzL, zzE, zzA, zzB, zzF, zzI, zzW]
    exact hQ
theorem conds_yes {Q : D → List D → Prop} {X : XP} (cs : List Cn) (h : CnsV cs) (hQ : Q (.bl true) []) : TF (d_are_conditions [cnsD cs]) Q X := by
  have hz : isFzL (cs.map Cn.d) = true := isFzL_map _ isFz_cn cs
  unfold d_are_conditions b_are_conditions cnsD
  simp only [zzS, zzL, zzE, zzA, zzB, zzF, zzI, hz]
  refine row_tup hz ?_
  simp only [zzS, zzL, zzE, zzA, zzB, zzF, zzI, hz]
  refine T_comp (fun ds acc e => ∃ (l : List Cn) (k : Nat), e = [.nd .tup (cs.map Cn.d), .un] ∧ ds = l.map Cn.d ∧ (∀ c ∈ l, c.V) ∧ acc = List.replicate k (.bl true) ∧ k + l.length ≤ 4) ?_ ?_ ?_
  · rintro d r acc _ ⟨l, k, rfl, hd, hl, rfl, hk⟩
    cases l with
    | nil => cases hd
    | cons c l =>
      cases hd
      simp only [zzS, zzL, zzE, zzA, zzB, zzF, zzI, hz, isUn_cn, isFz_cn, cool_fz (isFz_cn c)]
      refine cond_yes c (hl c List.mem_cons_self) ?_
      simp only [List.length_cons] at hk
      simp only [zzS, zzL, zzE, zzA, zzB, zzF, zzI, hz, isFz_cn, List.length_replicate]
      exact ⟨by omega, l, k + 1, rfl, fun x h => hl x (List.mem_cons_of_mem _ h), by rw [List.replicate_succ'], by omega⟩
  · rintro acc _ ⟨l, k, rfl, hd, hl, rfl, hk⟩
    have e : ∀ k : Nat, blsOf (List.replicate k (.bl true)) = some (List.replicate k true) := fun k => by
      induction k with
      | zero => rfl
      | succ k ih => simp only [List.replicate_succ, blsOf, ih, Option.map_some]
    have e2 : gAll (.nd (.lst true) (List.replicate k (.bl true))) = some (.bl true) := by
      unfold gAll gBls lstOf
      simp only [e]
      simp
    simp only [zzS, zzL, zzE, zzA, zzB, zzF, zzI, hz, e2]
    exact hQ
  · exact ⟨cs, 0, rfl, rfl, h.2, rfl, by have := h.1; omega⟩
theorem mv_yes {Q : D → List D → Prop} {X : XP} {k : Nat} (m : Mv) (h : m.V k) (hQ : Q (.bl true) []) : TF (d_is_move_of [m.o false, .int k]) Q X := by
  obtain ⟨h0, h1, h2, h3, h4⟩ := h
  have ei : gIsA csI tbI (m.o false) (.fn "Move") = some (.bl true) := is_Move _ _ _
  unfold d_is_move_of b_is_move_of
  simp only [zzS, zzL, zzE, zzA, zzB, zzF, zzI, un_mo, fz_mo, ei, mf_place]
  refine place_yes h0 h1 ?_
  simp only [zzS, zzL, zzE, zzA, zzB, zzF, zzI, un_mo, fz_mo, mf_conds, cool_cns]
  refine conds_yes _ h2 ?_
  simp only [zzS, zzL, zzE, zzA, zzB, zzF, zzI, un_mo, fz_mo, mf_shift]
  refine int_int ?_
  simp only [zzS, zzL, zzE, zzA, zzB, zzF, zzI, un_mo, fz_mo, mf_target]
  refine place_yes h3 h4 ?_
  simp only [zzS, zzL, zzE, zzA, zzB, zzF, zzI]
  exact hQ
theorem gl_yes {Q : D → List D → Prop} {X : XP} {k : Nat} (m : Gl) (h : m.V k) (hQ : Q (.bl true) []) : TF (d_is_goal_of [m.o false, .int k]) Q X := by
  obtain ⟨h0, h1, h2⟩ := h
  have ei : gIsA csI tbI (m.o false) (.fn "Goal") = some (.bl true) := is_Goal _ _ _
  unfold d_is_goal_of b_is_goal_of
  simp only [zzS, zzL, zzE, zzA, zzB, zzF, zzI, un_go, fz_go, ei, gf_place]
  refine place_yes h0 h1 ?_
  simp only [zzS, zzL, zzE, zzA, zzB, zzF, zzI, un_go, fz_go, gf_conds, cool_cns]
  refine conds_yes _ h2 ?_
  simp only [zzS, zzL, zzE, zzA, zzB, zzF, zzI]
  exact hQ
theorem lk_m : ((("is_move_of", ([false, false], d_is_move_of)) :: (("is_goal_of", ([false, false], d_is_goal_of)) :: [])) : List (Str × (List Bool × (List D → OF)))).lookup ("is_move_of" : Str) = some ([false, false], d_is_move_of) := by kernel_rfl
theorem lk_g : ((("is_move_of", ([false, false], d_is_move_of)) :: (("is_goal_of", ([false, false], d_is_goal_of)) :: [])) : List (Str × (List Bool × (List D → OF)))).lookup ("is_goal_of" : Str) = some ([false, false], d_is_goal_of) := by kernel_rfl
/-- a check of items that are all good -/
theorem items_good {A : Type} {f : A → D} (hf : ∀ a, isUn (f a) = false ∧ isFz (f a) = true) {c : Str} {g : List D → OF} (hlk : ((("is_move_of", ([false, false], d_is_move_of)) :: (("is_goal_of", ([false, false], d_is_goal_of)) :: [])) : List (Str × (List Bool × (List D → OF)))).lookup c = some ([false, false], g)) {k : Nat} {P : A → Prop}
    (hg : ∀ a, P a → ∀ (Q : D → List D → Prop) (X : XP), Q (.bl true) [] → TF (g [f a, .int k]) Q X) {Q : D → List D → Prop} {X : XP} {w : Str} {b : Bool} {l : List A} (hl : ∀ a ∈ l, P a) (hQ : Q .non []) : TF (d_check_items [.str w, lsD b (l.map f), .int k, .fn c]) Q X := by
  have hz : isFzL (l.map f) = true := isFzL_map f (fun a => (hf a).2) l
  unfold d_check_items b_check_items
  simp only [zzS, zzL, zzE, zzA, zzB, zzF, zzI, un_ls, cool_ls hz, fz_ls hz]
  refine row_ls hz ?_
  simp only [zzS, zzL, zzE, zzA, zzB, zzF, zzI, un_ls, cool_ls hz, fz_ls hz, items_ls hz]
  refine T_loop (fun ds e => ∃ (l1 : List A) (i : Nat) (x y : D), e = [.str w, lsD b (l.map f), .int k, .fn c, x, y] ∧ ds = enumD i (l1.map f) ∧ (∀ a ∈ l1, P a)) ?_ ?_ ?_
  · rintro d r _ ⟨l1, i, x, y, rfl, hd, hl⟩
    cases l1 with
    | nil => cases hd
    | cons a l1 =>
      cases hd
      refine (T_gtup2 rfl (hf a).2).mpr ?_
      simp only [zzS, zzL, zzE, zzA, zzB, zzF, zzI, un_ls, cool_ls hz, fz_ls hz, (hf a).1, (hf a).2, cool_fz (hf a).2, hlk]
      refine hg a (hl a List.mem_cons_self) _ _ ?_
      simp only [zzS, zzL, zzE, zzA, zzB, zzF, zzI, (hf a).2]
      exact ⟨l1, i + 1, _, _, rfl, rfl, fun x h => hl x (List.mem_cons_of_mem _ h)⟩
  · rintro _ ⟨l1, i, x, y, rfl, -, -⟩
    simp only [zzS, zzL, zzE, zzA, zzB, zzF, zzI]
    exact hQ
  · exact ⟨l, 0, _, _, rfl, rfl, hl⟩
end Lw
set_option maxHeartbeats 3900000
namespace Lw
open PySem PySem.Spec PyProof.Rows L2 PI
theorem map_cq {A : Type} (l : List A) (f : A → D) (h : ∀ a, isFz (f a) = true) : isFzL (l.map f) = true := isFzL_map f h l
theorem mv_init {Q : D → List D → Prop} {X : XP} {p s t : Int} {b : Bool} {l : List (Cn × Bool)} (hl : l.length < 1000) (hQ : Q .non [Mv.o true ⟨p, l.map (·.1), s, t⟩, lsD b (l.map cq)]) : TF (d_Move_init [.nd (.ob true "Move" []) [], .int p, lsD b (l.map cq), .int s, .int t]) Q X := by
  have hz : isFzL (l.map cq) = true := isFzL_map cq fz_cq l
  unfold d_Move_init b_Move_init d_as_tuples
  simp only [zzS, zzL, zzE, zzA, zzB, zzF, zzI, un_ls, cool_ls hz, fz_ls hz, pM_place]
  refine as_conds (n := 5) hl ?_
  simp only [zzS, zzL, zzE, zzA, zzB, zzF, zzI, un_ls, cool_ls hz, fz_ls hz, cool_cns, pM_conditions, pM_shift, pM_target]
  exact hQ
theorem gl_init {Q : D → List D → Prop} {X : XP} {p : Int} {b : Bool} {l : List (Cn × Bool)} (hl : l.length < 1000) (hQ : Q .non [Gl.o true ⟨p, l.map (·.1)⟩]) : TF (d_Goal_init [.nd (.ob true "Goal" []) [], .int p, lsD b (l.map cq)]) Q X := by
  have hz : isFzL (l.map cq) = true := isFzL_map cq fz_cq l
  unfold d_Goal_init b_Goal_init d_as_tuples
  simp only [zzS, zzL, zzE, zzA, zzB, zzF, zzI, un_ls, cool_ls hz, fz_ls hz, pG_place]
  refine as_conds (n := 5) hl ?_
  simp only [zzS, zzL, zzE, zzA, zzB, zzF, zzI, un_ls, cool_ls hz, fz_ls hz, cool_cns, pG_conditions]
  exact hQ
theorem bk_init {Q : D → List D → Prop} {X : XP} {b : Bk} (hb : b.V) {b1 b2 b3 : Bool} (hQ : Q .non [b.o true]) : TF (d_Book_init [.nd (.ob true "Book" []) [], lsD b1 (b.sides.map D.int), lsD b2 (b.mv.map (Mv.o false)), lsD b3 (b.gl.map (Gl.o false))]) Q X := by
  have z1 : isFzL (b.sides.map D.int) = true := isFzL_ints _
  have z2 : isFzL (b.mv.map (Mv.o false)) = true := isFzL_map _ fz_mo _
  have z3 : isFzL (b.gl.map (Gl.o false)) = true := isFzL_map _ fz_go _
  have hs0 : ¬(((b.sides.map D.int).length : Int) = 0) := by
    have := hb.s0
    rw [List.length_map]
    omega
  unfold d_Book_init b_Book_init
  simp only [zzS, zzL, zzE, zzA, zzB, zzF, zzI, un_ls, cool_ls z1, fz_ls z1, cool_ls z2, fz_ls z2, cool_ls z3, fz_ls z3]
  refine row_ls z1 ?_
  simp only [zzS, zzL, zzE, zzA, zzB, zzF, zzI, un_ls, cool_ls z1, fz_ls z1, len_ls, hs0, items_ls z1]
  refine T_loop (fun ds e => ∃ (l1 : List Int) (i : Nat) (x y : D), e = [.nd (.ob true "Book" []) [], lsD b1 (b.sides.map D.int), lsD b2 (b.mv.map (Mv.o false)), lsD b3 (b.gl.map (Gl.o false)), x, y] ∧ ds = enumD i (l1.map D.int) ∧ (∀ a ∈ l1, a = 0 ∨ a = 1)) ?_ ?_ ?_
  · rintro d r _ ⟨l1, i, x, y, rfl, hd, hl⟩
    cases l1 with
    | nil => cases hd
    | cons a l1 =>
      cases hd
      refine (T_gtup2 rfl rfl).mpr ?_
      simp only [zzS, zzL, zzE, zzA, zzB, zzF, zzI]
      refine int_int ?_
      simp only [zzS, zzL, zzE, zzA, zzB, zzF, zzI]
      rcases hl a List.mem_cons_self with rfl | rfl
      · simp only [zzS, zzL, zzE, zzA, zzB, zzF, zzI, ni_s0]
        exact ⟨l1, i + 1, _, _, rfl, rfl, fun x h => hl x (List.mem_cons_of_mem _ h)⟩
      · simp only [zzS, zzL, zzE, zzA, zzB, zzF, zzI, ni_s1]
        exact ⟨l1, i + 1, _, _, rfl, rfl, fun x h => hl x (List.mem_cons_of_mem _ h)⟩
  · rintro _ ⟨l1, i, x, y, rfl, -, -⟩
    have e1 : ∀ (q : D), gFld ["Book"] "sides" (.nd (.ob true "Book" ["sides"]) [.nd .tup (b.sides.map D.int)]) = some (.nd .tup (b.sides.map D.int)) := fun _ => bf_sides1 _ (fz_tup z1)
    have hm := hb.mv
    have hg := hb.gl
    simp only [zzS, zzL, zzE, zzA, zzB, zzF, zzI, un_ls, tup_ls z1, cool_tup z1, pB_sides, e1 .un, len_tup, pB_places, cool_ls z2, fz_ls z2, cool_ls z3, fz_ls z3, bf_places2, List.length_map]
    refine items_good (f := Mv.o false) (P := fun m => m.V b.sides.length) (k := b.sides.length) (fun a => ⟨rfl, fz_mo a⟩) lk_m (fun a ha Q X h => mv_yes a ha h) hm ?_
    simp only [zzS, zzL, zzE, zzA, zzB, zzF, zzI, un_ls, cool_ls z2, fz_ls z2, cool_ls z3, fz_ls z3, bf_places2]
    refine items_good (f := Gl.o false) (P := fun m => m.V b.sides.length) (k := b.sides.length) (fun a => ⟨rfl, fz_go a⟩) lk_g (fun a ha Q X h => gl_yes a ha h) hg ?_
    simp only [zzS, zzL, zzE, zzA, zzB, zzF, zzI, un_ls, tup_ls z2, tup_ls z3, cool_tup z2, cool_tup z3, fz_ls z3, pB_moves, pB_goals]
    exact hQ
  · exact ⟨b.sides, 0, _, _, rfl, rfl, hb.s01⟩
/-- a row of conditions, each passed as a tuple or a list -/
theorem listed_conds {Q : List D → List D → Prop} {n : Nat} {v : Nat} {env : D → D → List D} {fe : M Op} (cs : List Cn) (hc : cs.length ≤ 4)
    (hs : ∀ (c : Cn) (p : D) (Q : Op → List D → Prop) (n : Nat), Pen (n + 1) p → (∀ b p', Pen n p' → Q (.v (cq (c, b))) (env p' c.d)) → T fe (env p c.d) Q xF)
    (hw : ∀ p d, wipeD (env p d) [v] = env p .un) (hv : ∀ p d, (env p .un).set v d = env p d) {p : D} (hp : Pen (n + 4) p)
    (hQ : ∀ (l : List (Cn × Bool)) p', l.map (·.1) = cs → Pen n p' → Q (l.map cq) (env p' .un)) : T (loopC [v] (gSet v) tYesD fe (cs.map Cn.d) []) (env p .un) Q xF := by
  refine T_comp (fun ds acc e => ∃ (l : List (Cn × Bool)) (r : List Cn) (p : D), e = env p .un ∧ cs = l.map (·.1) ++ r ∧ ds = r.map Cn.d ∧ acc = l.map cq ∧ Pen (n + r.length) p) ?_ ?_ ?_
  · rintro d r acc _ ⟨l, r2, p, rfl, e1, e2, rfl, hp⟩
    cases r2 with
    | nil => cases e2
    | cons c r2 =>
      cases e2
      refine T_gset.mpr (T_yes.mpr (IF_true.mpr ?_))
      rw [hv]
      refine hs c p _ (n + r2.length) hp fun b p' hp => ?_
      have := congrArg List.length e1
      simp only [List.length_append, List.length_map, List.length_cons] at this
      simp only [escD, escE, hw, List.length_map, sizeLine]
      exact ⟨by omega, l ++ [(c, b)], r2, p', rfl, by rw [e1]; simp, rfl, by simp, hp⟩
  · rintro acc _ ⟨l, r2, p, rfl, e1, e2, rfl, hp⟩
    cases r2 with
    | cons c r2 => cases e2
    | nil =>
      rw [List.append_nil] at e1
      exact hQ l p e1.symm hp
  · exact ⟨[], cs, p, rfl, rfl, rfl, rfl, hp.less (by omega)⟩
theorem made_mv {Q : D → List D → Prop} {X : XP} {n : Nat} {p : D} (m : Mv) (hm : CnsV m.cs) (hp : Pen (n + 5) p) (hQ : ∀ p', Pen n p' → Q (m.o true) [p']) : TF (d_law_made_move [p, m.d]) Q X := by
  have hz : isFzL (m.cs.map Cn.d) = true := isFzL_map _ isFz_cn _
  unfold d_law_made_move b_law_made_move
  have ed : m.d = .nd .tup [.int m.p, cnsD m.cs, .int m.s, .int m.t] := rfl
  have ec : cnsD m.cs = .nd .tup (m.cs.map Cn.d) := rfl
  simp only [zzS, zzL, zzE, zzA, zzB, zzF, zzI, hp.un, isUn_mv, isFz_mv]
  rw [ed]
  simp only [zzS, zzL, zzE, zzA, zzB, zzF, zzI, hp.un, isFz_cns]
  rw [ec]
  simp only [zzS, zzL, zzE, zzA, zzB, zzF, zzI, hz]
  refine (listed_conds (n := n + 1) (v := 3) (env := fun p d => [p, .nd .tup [.int m.p, .nd .tup (m.cs.map Cn.d), .int m.s, .int m.t], .un, d]) m.cs hm.1 ?_ (fun _ _ => rfl) (fun _ _ => rfl) hp ?_).mono (fun _ _ h => h) fun _ _ _ _ h => h
  · intro c p Q n hp hQ
    simp only [zzS, zzL, zzE, zzA, zzB, zzF, zzI, hp.un, isUn_cn, isFz_cn, cool_fz (isFz_cn c)]
    have e : c.d = lsD true c.xs := cn_eq c
    rw [e]
    refine listed_use hp (fz_cx c) fun b p' hp => ?_
    rw [← e]
    simp only [zzS, zzL, zzE, zzA, zzB, zzF, zzI, isFz_cn]
    exact hQ b p' hp
  · intro l p' hl hp
    have hz2 : isFzL (l.map cq) = true := isFzL_map _ fz_cq _
    have hl2 : l.length ≤ 4 := by
      have := hm.1
      rw [← hl, List.length_map] at this
      exact this
    simp only [zzS, zzL, zzE, zzA, zzB, zzF, zzI, hp.un, hz2, frzL_of hz2]
    refine listed_use (b := false) hp hz2 fun b p' hp => ?_
    simp only [zzS, zzL, zzE, zzA, zzB, zzF, zzI, hz, cool_ls hz2]
    refine mv_init (l := l) (by omega) ?_
    simp only [zzS, zzL, zzE, zzA, zzB, zzF, zzI]
    rw [hl]
    exact hQ p' hp
theorem made_gl {Q : D → List D → Prop} {X : XP} {n : Nat} {p : D} (m : Gl) (hm : CnsV m.cs) (hp : Pen (n + 5) p) (hQ : ∀ p', Pen n p' → Q (m.o true) [p']) : TF (d_law_made_goal [p, m.d]) Q X := by
  have hz : isFzL (m.cs.map Cn.d) = true := isFzL_map _ isFz_cn _
  unfold d_law_made_goal b_law_made_goal
  have ed : m.d = .nd .tup [.int m.p, cnsD m.cs] := rfl
  have ec : cnsD m.cs = .nd .tup (m.cs.map Cn.d) := rfl
  simp only [zzS, zzL, zzE, zzA, zzB, zzF, zzI, hp.un, isUn_gl, isFz_gl]
  rw [ed]
  simp only [zzS, zzL, zzE, zzA, zzB, zzF, zzI, hp.un, isFz_cns]
  rw [ec]
  simp only [zzS, zzL, zzE, zzA, zzB, zzF, zzI, hz]
  refine (listed_conds (n := n + 1) (v := 2) (env := fun p d => [p, .nd .tup [.int m.p, .nd .tup (m.cs.map Cn.d)], d]) m.cs hm.1 ?_ (fun _ _ => rfl) (fun _ _ => rfl) hp ?_).mono (fun _ _ h => h) fun _ _ _ _ h => h.elim
  · intro c p Q n hp hQ
    simp only [zzS, zzL, zzE, zzA, zzB, zzF, zzI, hp.un, isUn_cn, isFz_cn, cool_fz (isFz_cn c)]
    have e : c.d = lsD true c.xs := cn_eq c
    rw [e]
    refine listed_use hp (fz_cx c) fun b p' hp => ?_
    rw [← e]
    simp only [zzS, zzL, zzE, zzA, zzB, zzF, zzI, isFz_cn]
    exact hQ b p' hp
  · intro l p' hl hp
    have hz2 : isFzL (l.map cq) = true := isFzL_map _ fz_cq _
    have hl2 : l.length ≤ 4 := by
      have := hm.1
      rw [← hl, List.length_map] at this
      exact this
    simp only [zzS, zzL, zzE, zzA, zzB, zzF, zzI, hp.un, hz2, frzL_of hz2]
    refine listed_use (b := false) hp hz2 fun b p' hp => ?_
    simp only [zzS, zzL, zzE, zzA, zzB, zzF, zzI, hz, cool_ls hz2]
    refine gl_init (l := l) (by omega) ?_
    simp only [zzS, zzL, zzE, zzA, zzB, zzF, zzI]
    rw [hl]
    exact hQ p' hp
theorem frzL_mo (l : List Mv) : frzL (l.map (Mv.o true)) = l.map (Mv.o false) := by
  rw [frzL_map, List.map_map]
  exact List.map_congr_left fun m _ => frz_mo _ _
theorem frzL_go (l : List Gl) : frzL (l.map (Gl.o true)) = l.map (Gl.o false) := by
  rw [frzL_map, List.map_map]
  exact List.map_congr_left fun m _ => frz_go _ _
theorem fz_bd (b : Bk) : isFz (b.d false) = true := by
  unfold Bk.d
  simp only [isFz, isFzL, Kd.own, isFzL_ints, isFzL_map _ isFz_mv, isFzL_map _ isFz_gl, Bool.not_false, Bool.and_self]
theorem un_bd (o : Bool) (b : Bk) : isUn (b.d o) = false := rfl
theorem bd_sides (o : Bool) (b : Bk) : gIx (b.d o) (.str "sides") = some (.nd (.lst false) (b.sides.map D.int)) :=
  (by kernel_rfl : gIx (b.d o) (.str "sides") = fzO (some (.nd (.lst false) (b.sides.map D.int)))).trans (if_pos (by simp only [isFz, Kd.own, isFzL_ints]; rfl))
theorem bd_moves (o : Bool) (b : Bk) : gIx (b.d o) (.str "moves") = some (.nd (.lst false) (b.mv.map Mv.d)) :=
  (by kernel_rfl : gIx (b.d o) (.str "moves") = fzO (some (.nd (.lst false) (b.mv.map Mv.d)))).trans (if_pos (by simp only [isFz, Kd.own, isFzL_map _ isFz_mv]; rfl))
theorem bd_goals (o : Bool) (b : Bk) : gIx (b.d o) (.str "goals") = some (.nd (.lst false) (b.gl.map Gl.d)) :=
  (by kernel_rfl : gIx (b.d o) (.str "goals") = fzO (some (.nd (.lst false) (b.gl.map Gl.d)))).trans (if_pos (by simp only [isFz, Kd.own, isFzL_map _ isFz_gl]; rfl))
theorem made_bk {Q : D → List D → Prop} {X : XP} {n : Nat} {p : D} (b : Bk) (hb : b.V) (hp : Pen (n + 120) p) (hQ : ∀ p', Pen n p' → Q (b.o true) [p']) : TF (d_law_made_book [p, b.d false]) Q X := by
  have z1 : isFzL (b.mv.map Mv.d) = true := isFzL_map _ isFz_mv _
  have z2 : isFzL (b.gl.map Gl.d) = true := isFzL_map _ isFz_gl _
  have z3 : isFzL (b.sides.map D.int) = true := isFzL_ints _
  have z4 : isFzL (b.mv.map (Mv.o false)) = true := isFzL_map _ fz_mo _
  have z5 : isFzL (b.gl.map (Gl.o false)) = true := isFzL_map _ fz_go _
  unfold d_law_made_book b_law_made_book
  simp only [zzS, zzL, zzE, zzA, zzB, zzF, zzI, hp.un, un_bd, fz_bd, bd_moves, z1]
  refine T_comp (fun ds acc e => ∃ (l r : List Mv) (p : D), e = [p, b.d false, .un, .un, .un, .un] ∧ b.mv = l ++ r ∧ ds = r.map Mv.d ∧ acc = l.map (Mv.o true) ∧ Pen (n + 15 + 5 * r.length) p) ?_ ?_ ?_
  · rintro d r acc _ ⟨l, r2, p, rfl, e1, e2, rfl, hp⟩
    cases r2 with
    | nil => cases e2
    | cons m r2 =>
      cases e2
      have hl := congrArg List.length e1
      have hm20 := hb.m20
      simp only [List.length_append, List.length_cons] at hl hp
      have hm : m ∈ b.mv := by rw [e1]; simp
      simp only [zzS, zzL, zzE, zzA, zzB, zzF, zzI, hp.un, un_bd, fz_bd, isUn_mv, isFz_mv, cool_mv]
      refine made_mv (n := n + 15 + 5 * r2.length) m (hb.mv m hm).2.2.1 (hp.less (by omega)) fun p' hp => ?_
      simp only [zzS, zzL, zzE, zzA, zzB, zzF, zzI, isFz_mv, List.length_map]
      exact ⟨by omega, l ++ [m], r2, p', rfl, by rw [e1]; simp, rfl, by simp, hp⟩
  · rintro acc _ ⟨l, r2, p, rfl, e1, e2, rfl, hp⟩
    cases r2 with
    | cons m r2 => cases e2
    | nil =>
      rw [List.append_nil] at e1
      subst e1
      simp only [zzS, zzL, zzE, zzA, zzB, zzF, zzI, hp.un, un_bd, fz_bd, bd_goals, z2]
      refine T_comp (fun ds acc e => ∃ (l r : List Gl) (p : D), e = [p, b.d false, .nd (.lst true) (b.mv.map (Mv.o true)), .un, .un, .un] ∧ b.gl = l ++ r ∧ ds = r.map Gl.d ∧ acc = l.map (Gl.o true) ∧ Pen (n + 5 + 5 * r.length) p) ?_ ?_ ?_
      · rintro d r acc _ ⟨l, r2, p, rfl, e1, e2, rfl, hp⟩
        cases r2 with
        | nil => cases e2
        | cons m r2 =>
          cases e2
          have hl := congrArg List.length e1
          have hm20 := hb.g2
          simp only [List.length_append, List.length_cons] at hl hp
          have hm : m ∈ b.gl := by rw [e1]; simp
          simp only [zzS, zzL, zzE, zzA, zzB, zzF, zzI, hp.un, un_bd, fz_bd, isUn_gl, isFz_gl, cool_fz (isFz_gl m)]
          refine made_gl (n := n + 5 + 5 * r2.length) m (hb.gl m hm).2.2 (hp.less (by omega)) fun p' hp => ?_
          simp only [zzS, zzL, zzE, zzA, zzB, zzF, zzI, isFz_gl, List.length_map]
          exact ⟨by omega, l ++ [m], r2, p', rfl, by rw [e1]; simp, rfl, by simp, hp⟩
      · rintro acc _ ⟨l, r2, p, rfl, e1, e2, rfl, hp⟩
        cases r2 with
        | cons m r2 => cases e2
        | nil =>
          rw [List.append_nil] at e1
          subst e1
          simp only [zzS, zzL, zzE, zzA, zzB, zzF, zzI, hp.un, un_bd, fz_bd, bd_sides, z3]
          refine listed_use (n := n + 4) (b := false) hp z3 fun b1 p' hp => ?_
          simp only [zzS, zzL, zzE, zzA, zzB, zzF, zzI, hp.un, un_bd, fz_bd, frzL_mo, z4]
          refine listed_use (n := n + 3) (b := false) hp z4 fun b2 p' hp => ?_
          simp only [zzS, zzL, zzE, zzA, zzB, zzF, zzI, hp.un, un_bd, fz_bd, frzL_go, z5]
          refine listed_use (n := n + 2) (b := false) hp z5 fun b3 p' hp => ?_
          simp only [zzS, zzL, zzE, zzA, zzB, zzF, zzI, hp.un, un_bd, fz_bd, frzL_go, z5, cool_ls z3, cool_ls z4, cool_ls z5]
          refine bk_init hb ?_
          simp only [zzS, zzL, zzE, zzA, zzB, zzF, zzI]
          exact hQ p' (hp.less (by omega))
      · exact ⟨[], b.gl, p, rfl, rfl, rfl, rfl, hp.less (by have := hb.g2; simp only [List.length_nil]; omega)⟩
  · exact ⟨[], b.mv, p, rfl, rfl, rfl, rfl, hp.less (by have := hb.m20; omega)⟩
end Lw
set_option maxHeartbeats 3900000
namespace PI
open L2 PySem PyProof.Rows PySem.Spec
mutual
theorem eqv_D : ∀ d : D, PyData.eqv (toPy d) (toPy d) = true
  | .un => rfl
  | .non => rfl
  | .bl b => by cases b <;> rfl
  | .int i => by simp [toPy, PyData.eqv]
  | .str x => by simp [toPy, PyData.eqv]
  | .ty _ => rfl
  | .fn _ => rfl
  | .nd .tup xs => by simp only [toPy, PyData.eqv, eqv_DL xs]
  | .nd .rol xs => by simp only [toPy, PyData.eqv, eqv_DL xs]
  | .nd (.lst _) xs => by simp only [toPy, PyData.eqv, eqv_DL xs]
  | .nd (.dk _ _) _ => rfl
  | .nd (.dt _ _) _ => rfl
  | .nd (.ob _ _ _) _ => rfl
theorem eqv_DL : ∀ xs : List D, PyData.eqvAll (toPyL xs) (toPyL xs) = true
  | [] => by simp [toPyL, PyData.eqvAll]
  | x :: xs => by simp only [toPyL, PyData.eqvAll, eqv_D x, eqv_DL xs, Bool.and_self]
end
theorem gNe_self {d : D} (h : PI.plain 60 d = true) : gNe d d = some (.bl false) := by
  unfold gNe
  simp only [h, eqv_D d, Bool.and_self, if_true, Bool.not_true]
theorem gEq_self {d : D} (h : PI.plain 60 d = true) : gEq d d = some (.bl true) := by
  unfold gEq
  simp only [h, eqv_D d, Bool.and_self, if_true]
theorem plain_ints (n : Nat) (l : List Int) : plainL n (l.map D.int) = true := by
  induction l with
  | nil => rfl
  | cons a r ih => simp only [List.map_cons, plainL, PI.plain, ih, Bool.and_self]
theorem gEq_nil {l : List Int} : gEq (.nd .tup (l.map D.int)) (.nd .tup []) = some (.bl l.isEmpty) := by
  unfold gEq
  cases l with
  | nil => rfl
  | cons a l => simp only [PI.plain, plain_ints, plainL, Bool.and_self, if_true, toPy, toPyL, List.map_cons, PyData.eqv, PyData.eqvAll, List.isEmpty_cons]
theorem gNe_nil {l : List D} (h : plainL 59 l = true) : gNe (.nd (.lst true) l) (.nd (.lst true) []) = some (.bl (!l.isEmpty)) := by
  unfold gNe
  cases l with
  | nil => rfl
  | cons a l =>
    have e : PI.plain 60 (.nd (.lst true) (a :: l)) = true := h
    have e2 : PI.plain 60 (.nd (.lst true) []) = true := rfl
    simp only [e, e2, Bool.and_self, if_true, toPy, toPyL, PyData.eqv, PyData.eqvAll, List.isEmpty_cons]
theorem gEqQ_pl {cs : List (Str × (List D → OF))} {d e r : D} (h : gEq d e = some r) : gEqQ cs d e = some r := by unfold gEqQ; rw [h]; rfl
theorem gNeQ_pl {cs : List (Str × (List D → OF))} {d e r : D} (h : gNe d e = some r) : gNeQ cs d e = some r := by unfold gNeQ; rw [h]; rfl
theorem gEqQ_top {cs : List (Str × (List D → OF))} {d e : D} {r : Bool} (h : PI.plain 60 d = false) (h2 : gTop cs d e = some r) : gEqQ cs d e = some (.bl r) := by
  unfold gEqQ gEq
  rw [h, h2]
  rfl
theorem gNeQ_top {cs : List (Str × (List D → OF))} {d e : D} {r : Bool} (h : PI.plain 60 d = false) (h2 : gTop cs d e = some r) : gNeQ cs d e = some (.bl (!r)) := by
  unfold gNeQ gNe
  rw [h, h2]
  rfl
theorem gEqQ_self {cs : List (Str × (List D → OF))} {d : D} (h : gTop cs d d = some true) : gEqQ cs d d = some (.bl true) := by
  unfold gEqQ gEq
  rw [h, eqv_D]
  cases PI.plain 60 d <;> rfl
theorem gEqX_q {isA : D → D → Option D} {cs : List (Str × (List D → OF))} {dc : List Str} {d e r : D} (h : gEqQ cs d e = some r) : gEqX isA cs dc d e = some r := by unfold gEqX; rw [h]; rfl
theorem gNeX_q {cs : List (Str × (List D → OF))} {d e r : D} (h : gNeQ cs d e = some r) : gNeX cs d e = some r := by unfold gNeX; rw [h]; rfl
section
variable {cs : List (Str × (List D → OF))} {n : Nat}
theorem gQ_mk {d : D} (h1 : shp d = true) (h2 : gQ1 cs (gQ cs n) d d = some true) : gQ cs (n + 1) d d = some true := by
  unfold gQ
  rw [h1, h2]
  simp
theorem gQ_shp {d : D} (h : gQ cs n d d = some true) : shp d = true := by
  cases n with
  | zero => cases h
  | succ n =>
    letI : Tb := ⟨[]⟩
    exact (gQ_of h).1
theorem gQ_int (i : Int) : gQ cs (n + 1) (.int i) (.int i) = some true := gQ_mk rfl (by show some (PyData.eqv (toPy (.int i)) (toPy (.int i))) = _; rw [eqv_D])
theorem gQ_str (i : Str) : gQ cs (n + 1) (.str i) (.str i) = some true := gQ_mk rfl (by show some (PyData.eqv (toPy (.str i)) (toPy (.str i))) = _; rw [eqv_D])
theorem gQL_self {g : D → D → Option Bool} {xs : List D} (h : ∀ x ∈ xs, g x x = some true) : gQL g xs xs = some true := by
  induction xs with
  | nil => rfl
  | cons a r ih =>
    unfold gQL
    rw [h a List.mem_cons_self]
    exact ih fun x hx => h x (List.mem_cons_of_mem _ hx)
theorem shpL_all {xs : List D} (h : ∀ x ∈ xs, shp x = true) : shpL xs = true := by
  induction xs with
  | nil => rfl
  | cons a r ih =>
    unfold shpL
    rw [h a List.mem_cons_self, ih fun x hx => h x (List.mem_cons_of_mem _ hx)]
    rfl
theorem gQ_tup {xs : List D} (h : ∀ x ∈ xs, gQ cs n x x = some true) : gQ cs (n + 1) (.nd .tup xs) (.nd .tup xs) = some true :=
  gQ_mk (shpL_all fun x hx => gQ_shp (h x hx)) (gQL_self h)
theorem gQ_ob {c : Str} {ns : List Str} {xs : List D} {f : List D → OF} {bk : List D} (hs : shpL xs = true) (hl : cs.lookup c = some f) (hf : f [.nd (.ob false c ns) xs, .nd (.ob false c ns) xs] = .ok (.bl true) bk) : gQ cs (n + 1) (.nd (.ob false c ns) xs) (.nd (.ob false c ns) xs) = some true := by
  refine gQ_mk hs ?_
  unfold gQ1
  simp only [if_true, hl, hf]
theorem gTop_ob {c : Str} {ns : List Str} {xs ys : List D} {f : List D → OF} {bk : List D} {r : Bool} (hs : shpL xs = true) (hs2 : shpL ys = true) (hl : cs.lookup c = some f) (hf : f [.nd (.ob false c ns) xs, .nd (.ob false c ns) ys] = .ok (.bl r) bk) : gTop cs (.nd (.ob false c ns) xs) (.nd (.ob false c ns) ys) = some r := by
  have e1 : shp (.nd (.ob false c ns) xs) = true := hs
  have e2 : shp (.nd (.ob false c ns) ys) = true := hs2
  unfold gTop gQ1
  simp only [e1, e2, Bool.and_self, if_true, hl, hf]
theorem gTop_tup {xs : List D} (h : ∀ x ∈ xs, gQ cs 20 x x = some true) : gTop cs (.nd .tup xs) (.nd .tup xs) = some true := by
  have e1 : shp (.nd .tup xs) = true := shpL_all fun x hx => gQ_shp (h x hx)
  have e2 : gQ1 cs (gQ cs 20) (.nd .tup xs) (.nd .tup xs) = some true := gQL_self h
  unfold gTop
  simp only [e1, e2, Bool.and_self, if_true]
end
theorem eqvAll_len : ∀ {xs ys : List PyData}, xs.length ≠ ys.length → PyData.eqvAll xs ys = false
  | [], [], h => (h rfl).elim
  | [], _ :: _, _ => by simp [PyData.eqvAll]
  | _ :: _, [], _ => by simp [PyData.eqvAll]
  | x :: xs, y :: ys, h => by
    have := eqvAll_len (xs := xs) (ys := ys) (by simpa using h)
    simp [PyData.eqvAll, this]
theorem toPyL_len : ∀ l : List D, (toPyL l).length = l.length
  | [] => rfl
  | _ :: r => by simp only [toPyL, List.length_cons, toPyL_len r]
end PI
namespace Lw
open PySem PySem.Spec PyProof.Rows L2 PI
theorem plain_cn (n : Nat) (c : Cn) : PI.plain (n + 1) c.d = true := by cases c <;> kernel_rfl
theorem plain_cns (n : Nat) (cs : List Cn) : PI.plain (n + 2) (cnsD cs) = true := by
  unfold cnsD
  show plainL (n + 1) (cs.map Cn.d) = true
  induction cs with
  | nil => rfl
  | cons a r ih => simp only [List.map_cons, plainL, plain_cn, ih, Bool.and_self]
theorem plain_gls (l : List Gl) : plainL 59 (l.map Gl.d) = true := by
  induction l with
  | nil => rfl
  | cons a r ih =>
    have : PI.plain 59 a.d = true := by
      show plainL 58 [.int a.p, cnsD a.cs] = true
      simp only [plainL, PI.plain, plain_cns 56, Bool.and_self]
    simp only [List.map_cons, plainL, this, ih, Bool.and_self]
theorem T_flt {m : M Op} {e : List D} {X : XP} {Q : Op → List D → Prop} : T (fun en => resA_law_fault (m en)) e Q X ↔ T m e (fun _ e' => Q (.v .non) e') (fun c ns xs e' => EX (hres (handle q_law_fault c ns xs (List.replicate 3 .un)) 1) fun d => Q (.v d) e') := by
  unfold T EX
  show wpO (PI.resB 3 1 q_law_fault (m e)) Q X ↔ _
  unfold PI.resB
  cases m e with
  | ok o e' => rfl
  | ex c ns xs e' =>
    simp only [wpO]
    cases hres (handle q_law_fault c ns xs (List.replicate 3 .un)) 1 <;> simp [wpO]
  | st => rfl
theorem cool_bo (b : Bk) : cool (b.o false) = b.o false := cool_fz (fz_bo b)
theorem cool_mo (b : Mv) : cool (b.o false) = b.o false := cool_fz (fz_mo b)
theorem cool_go (b : Gl) : cool (b.o false) = b.o false := cool_fz (fz_go b)
theorem cool_gl (b : Gl) : cool b.d = b.d := cool_fz (isFz_gl b)
theorem cool_cn (b : Cn) : cool b.d = b.d := cool_fz (isFz_cn b)
theorem cool_bd (b : Bk) : cool (b.d false) = b.d false := cool_fz (fz_bd b)
theorem bf_sides (o : Bool) (b : Bk) : gFld ["Book"] "sides" (b.o o) = some (.nd .tup (b.sides.map D.int)) :=
  (by kernel_rfl : gFld ["Book"] "sides" (b.o o) = fzO (some (.nd .tup (b.sides.map D.int)))).trans (if_pos (fz_tup (isFzL_ints _)))
theorem frz_bd (b : Bk) : frz (b.d true) = b.d false := by
  unfold Bk.d
  simp only [frz, frzL, Kd.frz, frzL_of (isFzL_ints _), frzL_of (isFzL_map _ isFz_mv _), frzL_of (isFzL_map _ isFz_gl _)]
theorem fz_bd1 (b : Bk) : isFz (b.d true) = false := rfl
theorem fz_bo1 (b : Bk) : isFz (b.o true) = false := rfl
theorem cool_bd1 (b : Bk) : cool (b.d true) = b.d false := (if_neg (by rw [fz_bd1]; decide)).trans (frz_bd b)
theorem frz_bo (b : Bk) : frz (b.o true) = b.o false := by
  unfold Bk.o
  simp only [frz, frzL, Kd.frz, frzL_of (isFzL_ints _), frzL_of (isFzL_map _ fz_mo _), frzL_of (isFzL_map _ fz_go _)]
theorem cool_bo1 (b : Bk) : cool (b.o true) = b.o false := (if_neg (by rw [fz_bo1]; decide)).trans (frz_bo b)
theorem shp_ints (l : List Int) : shpL (l.map D.int) = true := shpL_all fun x hx => by
  obtain ⟨i, _, rfl⟩ := List.mem_map.mp hx
  rfl
theorem shp_cn (c : Cn) : shp c.d = true := by cases c <;> rfl
theorem shp_cns (c : List Cn) : shp (cnsD c) = true := shpL_all fun x hx => by
  obtain ⟨i, _, rfl⟩ := List.mem_map.mp hx
  exact shp_cn i
theorem shp_mo (m : Mv) : shp (m.o false) = true := by
  show shpL [.int m.p, cnsD m.cs, .int m.s, .int m.t] = true
  simp only [shpL, shp_cns]
  rfl
theorem shp_go (m : Gl) : shp (m.o false) = true := by
  show shpL [.int m.p, cnsD m.cs] = true
  simp only [shpL, shp_cns]
  rfl
theorem shp_tupm {A : Type} (f : A → D) (h : ∀ a, shp (f a) = true) (l : List A) : shp (.nd .tup (l.map f)) = true := shpL_all fun x hx => by
  obtain ⟨i, _, rfl⟩ := List.mem_map.mp hx
  exact h i
theorem shp_boL (b : Bk) : shpL [D.nd .tup (b.sides.map D.int), .int b.sides.length, .nd .tup (b.mv.map (Mv.o false)), .nd .tup (b.gl.map (Gl.o false))] = true := by
  have e1 : shp (.nd .tup (b.sides.map D.int)) = true := shp_ints _
  simp only [shpL, shp_tupm _ shp_mo, shp_tupm _ shp_go, e1]
  rfl
theorem pl_mvq (m : Mv) : PI.plain 60 (.nd .tup [.int m.p, cnsD m.cs, .int m.s, .int m.t]) = true := by
  show plainL 59 [.int m.p, cnsD m.cs, .int m.s, .int m.t] = true
  simp only [plainL, PI.plain, plain_cns 57, Bool.and_self]
theorem pl_glq (m : Gl) : PI.plain 60 (.nd .tup [.int m.p, cnsD m.cs]) = true := by
  show plainL 59 [.int m.p, cnsD m.cs] = true
  simp only [plainL, PI.plain, plain_cns 57, Bool.and_self]
theorem meq (m : Mv) : d_Move___eq__ [m.o false, m.o false] = .ok (.bl true) [] := by
  have ei : gIsA csI tbI (m.o false) (.fn "Move") = some (.bl true) := is_Move _ _ _
  refine TF.eq ?_
  unfold d_Move___eq__ b_Move___eq__
  simp only [zzS, zzL, zzE, zzA, zzB, zzF, zzI, zzO, ei, mf_place, mf_conds, mf_shift, mf_target, gEq_self (pl_mvq m), and_self]
theorem geq (m : Gl) : d_Goal___eq__ [m.o false, m.o false] = .ok (.bl true) [] := by
  have ei : gIsA csI tbI (m.o false) (.fn "Goal") = some (.bl true) := is_Goal _ _ _
  refine TF.eq ?_
  unfold d_Goal___eq__ b_Goal___eq__
  simp only [zzS, zzL, zzE, zzA, zzB, zzF, zzI, zzO, ei, gf_place, gf_conds, gEq_self (pl_glq m), and_self]
theorem beq_ (b : Bk) : d_Book___eq__ [b.o false, b.o false] = .ok (.bl true) [] := by
  have ei : gIsA csI tbI (b.o false) (.fn "Book") = some (.bl true) := by kernel_rfl
  have z1 : isFz (.nd .tup (b.sides.map D.int)) = true := fz_tup (isFzL_ints _)
  have z2 : isFz (.nd .tup (b.mv.map (Mv.o false))) = true := fz_tup (isFzL_map _ fz_mo _)
  have z3 : isFz (.nd .tup (b.gl.map (Gl.o false))) = true := fz_tup (isFzL_map _ fz_go _)
  have t : gTop eqs_2 (.nd .tup [.nd .tup (b.sides.map D.int), .nd .tup (b.mv.map (Mv.o false)), .nd .tup (b.gl.map (Gl.o false))]) (.nd .tup [.nd .tup (b.sides.map D.int), .nd .tup (b.mv.map (Mv.o false)), .nd .tup (b.gl.map (Gl.o false))]) = some true := by
    refine gTop_tup fun x hx => ?_
    (rcases List.mem_cons.mp hx with rfl | hx)
    · refine gQ_tup fun y hy => ?_
      obtain ⟨i, _, rfl⟩ := List.mem_map.mp hy
      exact gQ_int i
    (rcases List.mem_cons.mp hx with rfl | hx)
    · refine gQ_tup fun y hy => ?_
      obtain ⟨i, _, rfl⟩ := List.mem_map.mp hy
      exact gQ_ob (f := d_Move___eq__) (shp_mo i) (by kernel_rfl) (meq i)
    · cases List.mem_singleton.mp hx
      refine gQ_tup fun y hy => ?_
      obtain ⟨i, _, rfl⟩ := List.mem_map.mp hy
      exact gQ_ob (f := d_Goal___eq__) (shp_go i) (by kernel_rfl) (geq i)
  refine TF.eq ?_
  unfold d_Book___eq__ b_Book___eq__
  simp only [zzS, zzL, zzE, zzA, zzB, zzF, zzI, zzO, ei, bf_sides, bf_moves, bf_goals, cool_fz z1, cool_fz z2, cool_fz z3, gEqQ_self t, and_self]
end Lw
set_option maxHeartbeats 3900000
namespace Lw
open PySem PySem.Spec PyProof.Rows L2 PI
theorem told_use {Q : D → List D → Prop} {X : XP} (b : Bk) (h20 : b.mv.length ≤ 30) (h2 : b.gl.length ≤ 30) (hQ : Q (b.d true) []) : TF (d_law_told_book [b.o false]) Q X := by
  have z4 : isFzL (b.mv.map (Mv.o false)) = true := isFzL_map _ fz_mo _
  have z5 : isFzL (b.gl.map (Gl.o false)) = true := isFzL_map _ fz_go _
  have z6 : isFzL (b.mv.map Mv.d) = true := isFzL_map _ isFz_mv _
  have z7 : isFzL (b.gl.map Gl.d) = true := isFzL_map _ isFz_gl _
  unfold d_law_told_book b_law_told_book
  simp only [zzS, zzL, zzE, zzA, zzB, zzF, zzI, zzO, bf_moves, z4, cool_tup z4]
  refine T_comp (fun ds acc e => ∃ (l r : List Mv), e = [b.o false, .un, .un, .un, .un] ∧ b.mv = l ++ r ∧ ds = r.map (Mv.o false) ∧ acc = l.map Mv.d) ?_ ?_ ?_
  · rintro d r acc _ ⟨l, r2, rfl, e1, e2, rfl⟩
    cases r2 with
    | nil => cases e2
    | cons m r2 =>
      cases e2
      have hl := congrArg List.length e1
      simp only [List.length_append, List.length_cons] at hl
      simp only [zzS, zzL, zzE, zzA, zzB, zzF, zzI, zzO, mf_place, mf_conds, mf_shift, mf_target, mv_mk, List.length_map]
      exact ⟨by omega, l ++ [m], r2, by rw [e1]; simp, rfl, by rw [List.map_append]; rfl⟩
  · rintro acc _ ⟨l, r2, rfl, e1, e2, rfl⟩
    cases r2 with
    | cons m r2 => cases e2
    | nil =>
      rw [List.append_nil] at e1
      subst e1
      simp only [zzS, zzL, zzE, zzA, zzB, zzF, zzI, zzO, bf_goals, z5, z6, cool_tup z5]
      refine T_comp (fun ds acc e => ∃ (l r : List Gl), e = [b.o false, .nd (.lst true) (b.mv.map Mv.d), .un, .un, .un] ∧ b.gl = l ++ r ∧ ds = r.map (Gl.o false) ∧ acc = l.map Gl.d) ?_ ?_ ?_
      · rintro d r acc _ ⟨l, r2, rfl, e1, e2, rfl⟩
        cases r2 with
        | nil => cases e2
        | cons m r2 =>
          cases e2
          have hl := congrArg List.length e1
          simp only [List.length_append, List.length_cons] at hl
          simp only [zzS, zzL, zzE, zzA, zzB, zzF, zzI, zzO, gf_place, gf_conds, gl_mk, List.length_map]
          exact ⟨by omega, l ++ [m], r2, by rw [e1]; simp, rfl, by rw [List.map_append]; rfl⟩
      · rintro acc _ ⟨l, r2, rfl, e1, e2, rfl⟩
        cases r2 with
        | cons m r2 => cases e2
        | nil =>
          rw [List.append_nil] at e1
          subst e1
          have z8 : isFzL (b.sides.map D.int) = true := isFzL_ints _
          simp only [zzS, zzL, zzE, zzA, zzB, zzF, zzI, zzO, bf_sides, z6, z7, z8, tup_lst, if_pos, gList, seqOf, frzL_of z6, frzL_of z7, frzL_of z8]
          exact hQ
      · exact ⟨[], b.gl, rfl, rfl, rfl, rfl⟩
  · exact ⟨[], b.mv, rfl, rfl, rfl, rfl⟩
end Lw
set_option maxHeartbeats 3900000
namespace PI
open L2 PySem PyProof.Rows PySem.Spec
theorem eqv_ii (i j : Int) : PyData.eqv (.int i) (.int j) = decide (i = j) := by
  unfold PyData.eqv
  first | rfl | (by_cases h : i = j <;> simp [h])
section
variable {cs : List (Str × (List D → OF))} {n : Nat}
theorem gEqQ_no {d e : D} (h : PyData.eqv (toPy d) (toPy e) = false) (h2 : gTop cs d e = some false) : gEqQ cs d e = some (.bl false) := by
  unfold gEqQ gEq
  rw [h, h2]
  split <;> rfl
theorem eqTL_len : ∀ {xs ys : List D}, xs.length ≠ ys.length → eqTL xs ys = false
  | [], [], h => (h rfl).elim
  | [], _ :: _, _ => by simp [eqTL]
  | _ :: _, [], _ => by simp [eqTL]
  | x :: xs, y :: ys, h => by
    have := eqTL_len (xs := xs) (ys := ys) (by simpa using h)
    simp [eqTL, this]
theorem eqTL_ints : ∀ a b : List Int, eqTL (a.map D.int) (b.map D.int) = decide (a = b)
  | [], [] => rfl
  | [], _ :: _ => rfl
  | _ :: _, [] => rfl
  | x :: a, y :: b => by
    simp only [List.map_cons, eqTL, eqT, eqTL_ints a b]
    by_cases h : x = y <;> by_cases h2 : a = b <;> simp [h, h2]
theorem gQ_ii (i j : Int) : gQ cs (n + 1) (.int i) (.int j) = some (decide (i = j)) := by
  have e : PyData.eqv (toPy (.int i)) (toPy (.int j)) = decide (i = j) := eqv_ii i j
  have e2 : eqT (.int i) (.int j) = (i == j) := rfl
  have e4 : gQ1 cs (gQ cs n) (.int i) (.int j) = some (decide (i = j)) := by
    show some (PyData.eqv (toPy (.int i)) (toPy (.int j))) = _
    rw [e]
  show (if shp (.int i) && shp (.int j) then (match gQ1 cs (gQ cs n) (.int i) (.int j) with
    | some r => if eqT (.int i) (.int j) && !r then none else some r
    | none => none) else none) = _
  rw [e2, e4]
  by_cases h : i = j <;> simp [h, shp]
theorem gQL_ints : ∀ a b : List Int, gQL (gQ cs (n + 1)) (a.map D.int) (b.map D.int) = some (decide (a = b))
  | [], [] => rfl
  | [], _ :: _ => rfl
  | _ :: _, [] => rfl
  | x :: a, y :: b => by
    simp only [List.map_cons, gQL, gQ_ii, gQL_ints a b]
    by_cases h : x = y <;> by_cases h2 : a = b <;> simp [h, h2]
theorem gQ_ints (a b : List Int) (h1 : shpL (a.map D.int) = true) (h2 : shpL (b.map D.int) = true) : gQ cs (n + 2) (.nd .tup (a.map D.int)) (.nd .tup (b.map D.int)) = some (decide (a = b)) := by
  have e1 : shp (.nd .tup (a.map D.int)) = true := h1
  have e2 : shp (.nd .tup (b.map D.int)) = true := h2
  have e3 : eqT (.nd .tup (a.map D.int)) (.nd .tup (b.map D.int)) = decide (a = b) := eqTL_ints a b
  have e4 : gQ1 cs (gQ cs (n + 1)) (.nd .tup (a.map D.int)) (.nd .tup (b.map D.int)) = some (decide (a = b)) := gQL_ints a b
  show (if shp (.nd .tup (a.map D.int)) && shp (.nd .tup (b.map D.int)) then (match gQ1 cs (gQ cs (n + 1)) (.nd .tup (a.map D.int)) (.nd .tup (b.map D.int)) with
    | some r => if eqT (.nd .tup (a.map D.int)) (.nd .tup (b.map D.int)) && !r then none else some r
    | none => none) else none) = _
  rw [e1, e2, e3, e4]
  by_cases h : a = b <;> simp [h]
theorem gQL_pre {g : D → D → Option Bool} {xs : List D} {y : D} (h : ∀ x ∈ xs, g x x = some true) : gQL g xs (xs ++ [y]) = some false := by
  induction xs with
  | nil => rfl
  | cons a r ih =>
    show gQL g (a :: r) (a :: (r ++ [y])) = _
    unfold gQL
    rw [h a List.mem_cons_self]
    exact ih fun x hx => h x (List.mem_cons_of_mem _ hx)
theorem gQ_pre {xs : List D} {y : D} (hy : shp y = true) (h : ∀ x ∈ xs, gQ cs n x x = some true) : gQ cs (n + 1) (.nd .tup xs) (.nd .tup (xs ++ [y])) = some false := by
  have hs : shpL xs = true := shpL_all fun x hx => gQ_shp (h x hx)
  have e1 : shp (.nd .tup xs) = true := hs
  have e2 : shp (.nd .tup (xs ++ [y])) = true := shpL_all fun x hx => by
    obtain hx | hx := List.mem_append.mp hx
    · exact gQ_shp (h x hx)
    · cases List.mem_singleton.mp hx; exact hy
  have e3 : eqT (.nd .tup xs) (.nd .tup (xs ++ [y])) = false := eqTL_len (by simp)
  have e4 : gQ1 cs (gQ cs n) (.nd .tup xs) (.nd .tup (xs ++ [y])) = some false := gQL_pre h
  show (if shp (.nd .tup xs) && shp (.nd .tup (xs ++ [y])) then (match gQ1 cs (gQ cs n) (.nd .tup xs) (.nd .tup (xs ++ [y])) with
    | some r => if eqT (.nd .tup xs) (.nd .tup (xs ++ [y])) && !r then none else some r
    | none => none) else none) = _
  rw [e1, e2, e3, e4]
  rfl
theorem gTop3 {a b c a' b' c' : D} {r : Bool} (h1 : shpL [a, b, c] = true) (h2 : shpL [a', b', c'] = true) (h : gQL (gQ cs 20) [a, b, c] [a', b', c'] = some r) : gTop cs (.nd .tup [a, b, c]) (.nd .tup [a', b', c']) = some r := by
  have e1 : shp (.nd .tup [a, b, c]) = true := h1
  have e2 : shp (.nd .tup [a', b', c']) = true := h2
  have e3 : gQ1 cs (gQ cs 20) (.nd .tup [a, b, c]) (.nd .tup [a', b', c']) = some r := h
  unfold gTop
  simp only [e1, e2, Bool.and_self, if_true, e3]
end
theorem eqvAll_ints : ∀ a b : List Int, PyData.eqvAll (toPyL (a.map D.int)) (toPyL (b.map D.int)) = decide (a = b)
  | [], [] => by simp [toPyL, PyData.eqvAll]
  | [], _ :: _ => by simp [toPyL, PyData.eqvAll]
  | _ :: _, [] => by simp [toPyL, PyData.eqvAll]
  | x :: a, y :: b => by
    simp only [List.map_cons, toPyL, toPy, PyData.eqvAll, eqvAll_ints a b, eqv_ii]
    by_cases h : x = y <;> by_cases h2 : a = b <;> simp [h, h2]
end PI
namespace Lw
open PySem PySem.Spec PyProof.Rows L2 PI
theorem beq_no {b b' : Bk} (h : (b.sides = b'.sides ∧ ∃ m, b'.mv = b.mv ++ [m]) ∨ b.sides ≠ b'.sides) : d_Book___eq__ [b.o false, b'.o false] = .ok (.bl false) [] := by
  have ei : ∀ b : Bk, gIsA csI tbI (b.o false) (.fn "Book") = some (.bl true) := fun b => by kernel_rfl
  have z1 : ∀ b : Bk, isFz (.nd .tup (b.sides.map D.int)) = true := fun b => fz_tup (isFzL_ints _)
  have z2 : ∀ b : Bk, isFz (.nd .tup (b.mv.map (Mv.o false))) = true := fun b => fz_tup (isFzL_map _ fz_mo _)
  have z3 : ∀ b : Bk, isFz (.nd .tup (b.gl.map (Gl.o false))) = true := fun b => fz_tup (isFzL_map _ fz_go _)
  have sh : ∀ b : Bk, shpL [D.nd .tup (b.sides.map D.int), .nd .tup (b.mv.map (Mv.o false)), .nd .tup (b.gl.map (Gl.o false))] = true := fun b => by
    have e1 : shp (.nd .tup (b.sides.map D.int)) = true := shp_ints _
    simp only [shpL, shp_tupm _ shp_mo, shp_tupm _ shp_go, e1]
    rfl
  have gs : gQ eqs_2 20 (.nd .tup (b.sides.map D.int)) (.nd .tup (b'.sides.map D.int)) = some (decide (b.sides = b'.sides)) := gQ_ints (n := 18) _ _ (shp_ints _) (shp_ints _)
  have t : gTop eqs_2 (.nd .tup [.nd .tup (b.sides.map D.int), .nd .tup (b.mv.map (Mv.o false)), .nd .tup (b.gl.map (Gl.o false))]) (.nd .tup [.nd .tup (b'.sides.map D.int), .nd .tup (b'.mv.map (Mv.o false)), .nd .tup (b'.gl.map (Gl.o false))]) = some false := by
    refine gTop3 (sh b) (sh b') ?_
    rcases h with ⟨h, m, h2⟩ | h
    · have gm : gQ eqs_2 20 (.nd .tup (b.mv.map (Mv.o false))) (.nd .tup (b'.mv.map (Mv.o false))) = some false := by
        rw [h2, List.map_append]
        refine gQ_pre (n := 19) (shp_mo m) fun y hy => ?_
        obtain ⟨i, _, rfl⟩ := List.mem_map.mp hy
        exact gQ_ob (f := d_Move___eq__) (shp_mo i) (by kernel_rfl) (meq i)
      have gs' := gs.trans (congrArg some (decide_eq_true h))
      simp only [gQL, gs', gm]
    · simp only [gQL, gs, decide_eq_false h]
  have v : PyData.eqv (toPy (.nd .tup [.nd .tup (b.sides.map D.int), .nd .tup (b.mv.map (Mv.o false)), .nd .tup (b.gl.map (Gl.o false))])) (toPy (.nd .tup [.nd .tup (b'.sides.map D.int), .nd .tup (b'.mv.map (Mv.o false)), .nd .tup (b'.gl.map (Gl.o false))])) = false := by
    simp only [toPy, toPyL, PyData.eqv, PyData.eqvAll, eqvAll_ints]
    rcases h with ⟨h, m, h2⟩ | h
    · have : PyData.eqvAll (toPyL (b.mv.map (Mv.o false))) (toPyL (b'.mv.map (Mv.o false))) = false := eqvAll_len (by
        rw [toPyL_len, toPyL_len, h2]
        simp)
      rw [this]
      simp
    · rw [decide_eq_false h]
      rfl
  refine TF.eq ?_
  unfold d_Book___eq__ b_Book___eq__
  simp only [zzS, zzL, zzE, zzA, zzB, zzF, zzI, zzO, ei, bf_sides, bf_moves, bf_goals, cool_fz (z1 _), cool_fz (z2 _), cool_fz (z3 _), gEqQ_no v t, and_self]
theorem pl_bo (b : Bk) : PI.plain 60 (b.o false) = false := rfl
theorem bo_ne (b : Bk) : gNeX eqs_3 (b.o false) (b.o false) = some (.bl false) := gNeX_q (gNeQ_top (pl_bo b) (gTop_ob (f := d_Book___eq__) (shp_boL b) (shp_boL b) (by kernel_rfl) (beq_ b)))
theorem bo_eq (b : Bk) : gEqX (gIsA csI tbI) eqs_3 dcs (b.o false) (b.o false) = some (.bl true) := gEqX_q (gEqQ_top (pl_bo b) (gTop_ob (f := d_Book___eq__) (shp_boL b) (shp_boL b) (by kernel_rfl) (beq_ b)))
theorem bo_no {b b' : Bk} (h : (b.sides = b'.sides ∧ ∃ m, b'.mv = b.mv ++ [m]) ∨ b.sides ≠ b'.sides) : gEqX (gIsA csI tbI) eqs_3 dcs (b.o false) (b'.o false) = some (.bl false) := gEqX_q (gEqQ_top (pl_bo b) (gTop_ob (f := d_Book___eq__) (shp_boL b) (shp_boL b') (by kernel_rfl) (beq_no h)))
theorem bo_dict (b : Bk) : gEqX (gIsA csI tbI) eqs_3 dcs (b.o false) (b.d false) = some (.bl false) := by
  have e0 : shp (b.d false) = false := rfl
  have e9 : gTop eqs_3 (b.o false) (b.d false) = (if shp (b.o false) && shp (b.d false) then gQ1 eqs_3 (gQ eqs_3 20) (b.o false) (b.d false) else none) := rfl
  have e8 : gEq (b.o false) (b.d false) = none := by kernel_rfl
  have e1 : gEqQ eqs_3 (b.o false) (b.d false) = none := by
    unfold gEqQ
    rw [e8, e9, e0, Bool.and_false]
    rfl
  have e2 : gEqK (b.o false) (b.d false) = none := by
    have k : gKE (b.o false) (b.d false) = none := by kernel_rfl
    unfold gEqK
    rw [fz_bo, fz_bd, k]
    rfl
  have e4 : (dcs.contains ("Book" : Str)) = true := by kernel_rfl
  have e5 : isF (gIsA csI tbI (b.d false) (.fn "Book")) = true := by kernel_rfl
  have e3 : gDec (gIsA csI tbI) dcs (b.o false) (b.d false) = some (.bl false) := by
    show (if isFz (b.o false) && isFz (b.d false) && dcs.contains ("Book" : Str) && isF (gIsA csI tbI (b.d false) (.fn "Book")) then some (D.bl false) else none) = _
    rw [fz_bo, fz_bd, e4, e5]
    rfl
  unfold gEqX
  rw [e1, e2, e3]
  rfl
theorem pl_mvs : ∀ l : List Mv, plainL 59 (l.map Mv.d) = true
  | [] => rfl
  | a :: r => by
    have : PI.plain 59 a.d = true := by
      show plainL 58 [.int a.p, cnsD a.cs, .int a.s, .int a.t] = true
      simp only [plainL, PI.plain, plain_cns 56, Bool.and_self]
    simp only [List.map_cons, plainL, this, pl_mvs r, Bool.and_self]
theorem dict_ne (b : Bk) : gNeX eqs_3 (b.d false) (b.d false) = some (.bl false) := by
  have e1 : gNeQ eqs_3 (b.d false) (b.d false) = none := by kernel_rfl
  have p1 : PI.plain 60 (.nd (.lst false) (b.sides.map D.int)) = true := plain_ints 59 _
  have p2 : PI.plain 60 (.nd (.lst false) (b.mv.map Mv.d)) = true := pl_mvs _
  have p3 : PI.plain 60 (.nd (.lst false) (b.gl.map Gl.d)) = true := plain_gls _
  have p : plainL 60 [.nd (.lst false) (b.sides.map D.int), .nd (.lst false) (b.mv.map Mv.d), .nd (.lst false) (b.gl.map Gl.d)] = true := by
    simp only [plainL, p1, p2, p3, Bool.and_self]
  have q : eqK [(.inr "sides"), (.inr "moves"), (.inr "goals")] [.nd (.lst false) (b.sides.map D.int), .nd (.lst false) (b.mv.map Mv.d), .nd (.lst false) (b.gl.map Gl.d)] [(.inr "sides"), (.inr "moves"), (.inr "goals")] [.nd (.lst false) (b.sides.map D.int), .nd (.lst false) (b.mv.map Mv.d), .nd (.lst false) (b.gl.map Gl.d)]
    = some (PyData.eqv (toPy (.nd (.lst false) (b.sides.map D.int))) (toPy (.nd (.lst false) (b.sides.map D.int))) && (PyData.eqv (toPy (.nd (.lst false) (b.mv.map Mv.d))) (toPy (.nd (.lst false) (b.mv.map Mv.d))) && (PyData.eqv (toPy (.nd (.lst false) (b.gl.map Gl.d))) (toPy (.nd (.lst false) (b.gl.map Gl.d))) && true))) := by kernel_rfl
  have e2 : gKE (b.d false) (b.d false) = some true := by
    refine Eq.trans (if_pos ?_ : (if plainL 60 [.nd (.lst false) (b.sides.map D.int), .nd (.lst false) (b.mv.map Mv.d), .nd (.lst false) (b.gl.map Gl.d)] && plainL 60 [.nd (.lst false) (b.sides.map D.int), .nd (.lst false) (b.mv.map Mv.d), .nd (.lst false) (b.gl.map Gl.d)] && decide ((3 : Nat) = 3) then eqK _ _ _ _ else none) = _) ?_
    · rw [p]; rfl
    rw [q, eqv_D, eqv_D, eqv_D]
    rfl
  unfold gNeX gNeK
  rw [e1, fz_bd, e2]
  rfl
end Lw
set_option maxHeartbeats 3900000
namespace PI
open L2 PySem PyProof.Rows PySem.Spec
theorem TF.ex {o : OF} {c : Str} {ns : List Str} {xs bk : List D} (h : TF o (fun _ _ => False) (fun c' n' x' b' => c' = c ∧ n' = ns ∧ x' = xs ∧ b' = bk)) : o = .ex c ns xs bk := by
  rw [TF_def] at h
  unfold wpF at h
  cases o with
  | ok a b => exact h.elim
  | ex a b c d => obtain ⟨rfl, rfl, rfl, rfl⟩ := h; rfl
  | st => exact h.elim
theorem TF.out {o : OF} {P : D → List D → Prop} (h : TF o P xF) : ∃ d bk, o = .ok d bk ∧ P d bk := by
  rw [TF_def] at h
  unfold wpF at h
  cases o with
  | ok a b => exact ⟨a, b, rfl, h⟩
  | ex a b c d => exact h.elim
  | st => exact h.elim
theorem TF_ex {c : Str} {ns : List Str} {xs bk : List D} {Q : D → List D → Prop} {X : XP} : TF (.ex c ns xs bk) Q X ↔ X c ns xs bk := ⟨fun h => h.run, fun h => ⟨h⟩⟩
theorem gAdd_l (o o2 : Bool) (xs ys : List D) : gAdd (.nd (.lst o) xs) (.nd (.lst o2) ys) = if isFzL xs && isFzL ys && decide (xs.length + ys.length ≤ sizeLine) then some (.nd (.lst true) (xs ++ ys)) else none := rfl
end PI
namespace Lw
open PySem PySem.Spec PyProof.Rows L2 PI
def isN : OF → Bool
  | .ok (.bl false) [] => true
  | _ => false
theorem isN_of {o : OF} (h : isN o = true) : o = .ok (.bl false) [] := by
  unfold isN at h
  split at h
  · rfl
  · cases h
def cbad (c : D) : Bool := match d_as_tuples [c] with
  | .ok c' [_] => isFz c' && isN (d_are_conditions [c'])
  | _ => false
def Cbad (c : D) : Prop := isUn c = false ∧ isFz c = true ∧ ∃ c' b, d_as_tuples [c] = .ok c' [b] ∧ isFz c' = true ∧ d_are_conditions [c'] = .ok (.bl false) []
theorem cbad_of {c : D} (h0 : isUn c = false) (h1 : isFz c = true) (h : cbad c = true) : Cbad c := by
  refine ⟨h0, h1, ?_⟩
  unfold cbad at h
  split at h
  · rename_i c' b e
    have ⟨h2, h3⟩ := Bool.and_eq_true_iff.mp h
    exact ⟨c', b, e, h2, isN_of h3⟩
  · cases h
def lodd : List D := [.nd .tup [.str "least"], .nd .tup [.str "least", .str "1"], .nd .tup [.str "least", .bl true], .nd .tup [.str "less", .int 1], .nd .tup [.str "rest", .int 2], .nd .tup [.str "rest", .int 0, .int 0],
  .nd .tup [.str "rest", .int 3, .int 3], .nd .tup [.str "rest", .int 2, .int (-1)], .nd .tup [.str "rest", .int 2, .int 0, .int 0], .nd .tup [.str "least", .int 1, .int 1], .str "least", .int 5, .non, .nd .tup [],
  .nd .tup [.int 1, .str "least"], .nd .tup [.str "rest", .int 2, .non], .nd .tup [.str "not", .str "1"], .nd .tup [.str "LEAST", .int 1], .nd .tup [.nd (.lst false) [.str "least"], .int 1]]
def lall : Bool := lodd.all fun d => isFz d && (!isUn d && (cbad (.nd .tup [d]) && cbad (.nd (.lst false) [.nd .tup [.str "least", .int 2], d])))
theorem lall_ok : lall = true := by kernel_rfl
theorem lodd_ok {d : D} (h : d ∈ lodd) : isFz d = true ∧ isUn d = false ∧ Cbad (.nd .tup [d]) ∧ Cbad (.nd (.lst false) [.nd .tup [.str "least", .int 2], d]) := by
  have := List.all_eq_true.mp lall_ok d h
  simp only [Bool.and_eq_true, Bool.not_eq_true'] at this
  obtain ⟨h1, h2, h3, h4⟩ := this
  refine ⟨h1, h2, cbad_of rfl ?_ h3, cbad_of rfl ?_ h4⟩
  · simp only [isFz, isFzL, Kd.own, h1]; rfl
  · simp only [isFz, isFzL, Kd.own, h1]; rfl
theorem c_non : Cbad .non := cbad_of rfl rfl (by kernel_rfl)
theorem c_str : Cbad (.str "least") := cbad_of rfl rfl (by kernel_rfl)
theorem c_int : Cbad (.int 7) := cbad_of rfl rfl (by kernel_rfl)
theorem c_dk : Cbad (.nd (.dk false [(.inr "least")]) [.int 1]) := cbad_of rfl rfl (by kernel_rfl)
theorem badc_use {Q : D → List D → Prop} {X : XP} {n : Nat} {p : D} (hp : Pen (n + 3) p) (hQ : ∀ c p', Cbad c → Pen n p' → Q c [p']) : TF (d_law_bad_conditions [p]) Q X := by
  unfold d_law_bad_conditions b_law_bad_conditions
  simp only [zzS, zzL, zzE, zzA, zzB, zzF, zzI, zzO, hp.un, gAdd_l, List.length_cons, Nat.reduceLeDiff]
  refine pick_use (n := n + 2) (xs := lodd) hp (by kernel_rfl) (by decide) (by decide) fun d1 p h1 hp => ?_
  obtain ⟨f1, u1, b1, -⟩ := lodd_ok h1
  simp only [zzS, zzL, zzE, zzA, zzB, zzF, zzI, zzO, hp.un, cool_fz f1, frz_of f1]
  refine pick_use (n := n + 1) (xs := lodd) hp (by kernel_rfl) (by decide) (by decide) fun d2 p h2 hp => ?_
  obtain ⟨f2, u2, -, b2⟩ := lodd_ok h2
  simp only [zzS, zzL, zzE, zzA, zzB, zzF, zzI, zzO, hp.un, cool_fz f1, cool_fz f2, frz_of f1, frz_of f2]
  refine pick_use (n := n) hp (by simp only [isFz, isFzL, Kd.own, f1, f2]; rfl) (by simp only [List.length_cons, List.length_nil]; omega) (by simp only [List.length_cons, List.length_nil]; omega) fun c p hc hp => ?_
  simp only [zzS, zzL, zzE, zzA, zzB, zzF, zzI, zzO, hp.un]
  refine hQ c p ?_ hp
  simp only [List.mem_cons, List.not_mem_nil, or_false] at hc
  rcases hc with rfl | rfl | rfl | rfl | rfl | rfl
  · exact b1
  · exact b2
  · exact c_non
  · exact c_str
  · exact c_int
  · exact c_dk
end Lw
set_option maxHeartbeats 3900000
namespace Lw
open PySem PySem.Spec PyProof.Rows L2 PI
def mvD (o : Bool) (a c s t : D) : D := .nd (.ob o "Move" ["place", "conditions", "shift", "target"]) [a, c, s, t]
def glD (o : Bool) (a c : D) : D := .nd (.ob o "Goal" ["place", "conditions"]) [a, c]
section
variable {o : Bool} {a c s t : D}
theorem mvD_un : isUn (mvD o a c s t) = false := rfl
theorem glD_un : isUn (glD o a c) = false := rfl
theorem mvD_fz (h1 : isFz a = true) (h2 : isFz c = true) (h3 : isFz s = true) (h4 : isFz t = true) : isFz (mvD false a c s t) = true := by
  unfold mvD
  simp only [isFz, isFzL, Kd.own, h1, h2, h3, h4]; rfl
theorem glD_fz (h1 : isFz a = true) (h2 : isFz c = true) : isFz (glD false a c) = true := by
  unfold glD
  simp only [isFz, isFzL, Kd.own, h1, h2]; rfl
theorem mvD_frz (h1 : isFz a = true) (h2 : isFz c = true) (h3 : isFz s = true) (h4 : isFz t = true) : frz (mvD true a c s t) = mvD false a c s t := by
  unfold mvD
  simp only [frz, frzL, Kd.frz, frz_of h1, frz_of h2, frz_of h3, frz_of h4]
theorem glD_frz (h1 : isFz a = true) (h2 : isFz c = true) : frz (glD true a c) = glD false a c := by
  unfold glD
  simp only [frz, frzL, Kd.frz, frz_of h1, frz_of h2]
theorem mvD_frzU : frz (mvD true a c s t) = mvD false (frz a) (frz c) (frz s) (frz t) := by
  unfold mvD
  simp only [frz, frzL, Kd.frz]
theorem glD_frzU : frz (glD true a c) = glD false (frz a) (frz c) := by
  unfold glD
  simp only [frz, frzL, Kd.frz]
theorem mvD_fzU : isFz (mvD false a c s t) = (isFz a && (isFz c && (isFz s && (isFz t && true)))) := by
  unfold mvD
  simp only [isFz, isFzL, Kd.own]
  rfl
theorem glD_fzU : isFz (glD false a c) = (isFz a && (isFz c && true)) := by
  unfold glD
  simp only [isFz, isFzL, Kd.own]
  rfl
theorem cool_t0 : cool (.nd .tup []) = .nd .tup [] := cool_fz rfl
theorem md_place (h : isFz a = true) : gFld ["Move", "Goal"] "place" (mvD o a c s t) = some a := (by kernel_rfl : gFld ["Move", "Goal"] "place" (mvD o a c s t) = fzO (some a)).trans (if_pos h)
theorem md_conds (h : isFz c = true) : gFld ["Move", "Goal"] "conditions" (mvD o a c s t) = some c := (by kernel_rfl : gFld ["Move", "Goal"] "conditions" (mvD o a c s t) = fzO (some c)).trans (if_pos h)
theorem md_shift (h : isFz s = true) : gFld ["Move"] "shift" (mvD o a c s t) = some s := (by kernel_rfl : gFld ["Move"] "shift" (mvD o a c s t) = fzO (some s)).trans (if_pos h)
theorem md_target (h : isFz t = true) : gFld ["Move"] "target" (mvD o a c s t) = some t := (by kernel_rfl : gFld ["Move"] "target" (mvD o a c s t) = fzO (some t)).trans (if_pos h)
theorem gd_place (h : isFz a = true) : gFld ["Move", "Goal"] "place" (glD o a c) = some a := (by kernel_rfl : gFld ["Move", "Goal"] "place" (glD o a c) = fzO (some a)).trans (if_pos h)
theorem gd_conds (h : isFz c = true) : gFld ["Move", "Goal"] "conditions" (glD o a c) = some c := (by kernel_rfl : gFld ["Move", "Goal"] "conditions" (glD o a c) = fzO (some c)).trans (if_pos h)
theorem md_isM : gIsA csI tbI (mvD o a c s t) (.fn "Move") = some (.bl true) := is_Move _ _ _
theorem gd_isG : gIsA csI tbI (glD o a c) (.fn "Goal") = some (.bl true) := is_Goal _ _ _
theorem md_isG : gIsA csI tbI (mvD o a c s t) (.fn "Goal") = some (.bl false) := by kernel_rfl
theorem gd_isM : gIsA csI tbI (glD o a c) (.fn "Move") = some (.bl false) := by kernel_rfl
end
theorem mv_gen {Q : D → List D → Prop} {X : XP} {a c s t c' b : D} (ha : isFz a = true) (ua : isUn a = false) (uc : isUn c = false) (hs : isFz s = true) (us : isUn s = false) (ht : isFz t = true) (ut : isUn t = false) (hc : d_as_tuples [c] = .ok c' [b]) (hc' : isFz c' = true) (hQ : Q .non [mvD true a c' s t, b]) : TF (d_Move_init [.nd (.ob true "Move" []) [], a, c, s, t]) Q X := by
  unfold d_Move_init b_Move_init
  simp only [zzS, zzL, zzE, zzA, zzB, zzF, zzI, ha, ua, uc, hs, us, ht, ut, cool_fz ha, cool_fz hs, cool_fz ht, pM_place, hc, TF_ok, cool_fz hc', pM_conditions, pM_shift, pM_target]
  exact hQ
theorem gl_gen {Q : D → List D → Prop} {X : XP} {a c c' b : D} (ha : isFz a = true) (ua : isUn a = false) (fc : isFz c = true) (uc : isUn c = false) (hc : d_as_tuples [c] = .ok c' [b]) (hc' : isFz c' = true) (hQ : Q .non [glD true a c']) : TF (d_Goal_init [.nd (.ob true "Goal" []) [], a, c]) Q X := by
  unfold d_Goal_init b_Goal_init
  simp only [zzS, zzL, zzE, zzA, zzB, zzF, zzI, ha, ua, uc, fc, cool_fz ha, cool_fz fc, pG_place, hc, TF_ok, cool_fz hc', pG_conditions]
  exact hQ
def NoMv (k : Int) (d : D) : Prop := isUn d = false ∧ isFz d = true ∧ d_is_move_of [d, .int k] = .ok (.bl false) []
def NoGl (k : Int) (d : D) : Prop := isUn d = false ∧ isFz d = true ∧ d_is_goal_of [d, .int k] = .ok (.bl false) []
theorem pl_int (i k : Int) : d_is_place_of [.int i, .int k] = .ok (.bl (decide (0 ≤ i) && decide (i < k))) [] := by
  refine TF.eq ?_
  unfold d_is_place_of b_is_place_of
  simp only [zzS, zzL, zzE, zzA, zzB, zzF]
  refine int_int ?_
  simp only [zzS, zzL, zzE, zzA, zzB, zzF]
  refine IFd (fun h => ?_) (fun h => ?_)
  · simp only [zzS, zzL, zzE, zzA, zzB, zzF, h, decide_true, and_self]
  · simp only [zzS, zzL, zzE, zzA, zzB, zzF, h, decide_false, and_self]
theorem pl_odd {d : D} (k : Int) (h : Odd d) : d_is_place_of [d, .int k] = .ok (.bl false) [] := by
  obtain ⟨h1, h2, h3⟩ := h
  refine TF.eq ?_
  unfold d_is_place_of b_is_place_of
  simp only [zzS, zzL, zzE, zzA, zzB, zzF, h1, h2, cool_fz h2]
  refine h3 _ _ ?_
  simp only [zzS, zzL, zzE, zzA, zzB, zzF, and_self]
theorem int_e (i : Int) : d_is_int [.int i] = .ok (.bl true) [] := TF.eq (int_int ⟨rfl, rfl⟩)
theorem odd_e {d : D} (h : Odd d) : d_is_int [d] = .ok (.bl false) [] := TF.eq (h.2.2 _ _ ⟨rfl, rfl⟩)
theorem mv_eval {k : Int} {a c s t : D} {A C S T : Bool} (ha : isFz a = true) (hc : isFz c = true) (hs : isFz s = true) (ht : isFz t = true) (eA : d_is_place_of [a, .int k] = .ok (.bl A) []) (eC : d_are_conditions [c] = .ok (.bl C) []) (eS : d_is_int [s] = .ok (.bl S) []) (eT : d_is_place_of [t, .int k] = .ok (.bl T) []) (h : (A && (C && (S && T))) = false) : NoMv k (mvD false a c s t) := by
  refine ⟨rfl, mvD_fz ha hc hs ht, TF.eq ?_⟩
  unfold d_is_move_of b_is_move_of
  simp only [zzS, zzL, zzE, zzA, zzB, zzF, mvD_un, mvD_fz ha hc hs ht, cool_fz (mvD_fz ha hc hs ht), md_isM, md_place ha, md_conds hc, md_shift hs, md_target ht, cool_fz ha, cool_fz hc, cool_fz hs, cool_fz ht, eA, eC, eS, eT, TF_ok]
  cases A with
  | false => simp only [zzS, zzL, zzE, zzA, zzB, zzF, mvD_un, mvD_fz ha hc hs ht, cool_fz (mvD_fz ha hc hs ht), md_isM, md_place ha, md_conds hc, md_shift hs, md_target ht, cool_fz ha, cool_fz hc, cool_fz hs, cool_fz ht, eA, eC, eS, eT, TF_ok, and_self]
  | true =>
    cases C with
    | false => simp only [zzS, zzL, zzE, zzA, zzB, zzF, mvD_un, mvD_fz ha hc hs ht, cool_fz (mvD_fz ha hc hs ht), md_isM, md_place ha, md_conds hc, md_shift hs, md_target ht, cool_fz ha, cool_fz hc, cool_fz hs, cool_fz ht, eA, eC, eS, eT, TF_ok, and_self]
    | true =>
      cases S with
      | false => simp only [zzS, zzL, zzE, zzA, zzB, zzF, mvD_un, mvD_fz ha hc hs ht, cool_fz (mvD_fz ha hc hs ht), md_isM, md_place ha, md_conds hc, md_shift hs, md_target ht, cool_fz ha, cool_fz hc, cool_fz hs, cool_fz ht, eA, eC, eS, eT, TF_ok, and_self]
      | true =>
        simp only [Bool.true_and] at h
        subst h
        simp only [zzS, zzL, zzE, zzA, zzB, zzF, mvD_un, mvD_fz ha hc hs ht, cool_fz (mvD_fz ha hc hs ht), md_isM, md_place ha, md_conds hc, md_shift hs, md_target ht, cool_fz ha, cool_fz hc, cool_fz hs, cool_fz ht, eA, eC, eS, eT, TF_ok, and_self]
theorem gl_eval {k : Int} {a c : D} {A C : Bool} (ha : isFz a = true) (hc : isFz c = true) (eA : d_is_place_of [a, .int k] = .ok (.bl A) []) (eC : d_are_conditions [c] = .ok (.bl C) []) (h : (A && C) = false) : NoGl k (glD false a c) := by
  refine ⟨rfl, glD_fz ha hc, TF.eq ?_⟩
  unfold d_is_goal_of b_is_goal_of
  simp only [zzS, zzL, zzE, zzA, zzB, zzF, glD_un, glD_fz ha hc, cool_fz (glD_fz ha hc), gd_isG, gd_place ha, gd_conds hc, cool_fz ha, cool_fz hc, eA, eC, TF_ok]
  cases A with
  | false => simp only [zzS, zzL, zzE, zzA, zzB, zzF, glD_un, glD_fz ha hc, cool_fz (glD_fz ha hc), gd_isG, gd_place ha, gd_conds hc, cool_fz ha, cool_fz hc, eA, eC, TF_ok, and_self]
  | true =>
    simp only [Bool.true_and] at h
    subst h
    simp only [zzS, zzL, zzE, zzA, zzB, zzF, glD_un, glD_fz ha hc, cool_fz (glD_fz ha hc), gd_isG, gd_place ha, gd_conds hc, cool_fz ha, cool_fz hc, eA, eC, TF_ok, and_self]
/-- what is no Move at all -/
theorem mv_other {k : Int} {d : D} (h0 : isUn d = false) (h1 : isFz d = true) (h : gIsA csI tbI d (.fn "Move") = some (.bl false)) : NoMv k d := by
  refine ⟨h0, h1, TF.eq ?_⟩
  unfold d_is_move_of b_is_move_of
  simp only [zzS, zzL, zzE, zzA, zzB, zzF, h0, h1, cool_fz h1, h, and_self]
theorem gl_other {k : Int} {d : D} (h0 : isUn d = false) (h1 : isFz d = true) (h : gIsA csI tbI d (.fn "Goal") = some (.bl false)) : NoGl k d := by
  refine ⟨h0, h1, TF.eq ?_⟩
  unfold d_is_goal_of b_is_goal_of
  simp only [zzS, zzL, zzE, zzA, zzB, zzF, h0, h1, cool_fz h1, h, and_self]
def e0 : D := .nd .tup []
theorem as_e0 : d_as_tuples [.nd .tup []] = .ok (.nd .tup []) [.nd .tup []] := by kernel_rfl
theorem cs_e0 : d_are_conditions [.nd .tup []] = .ok (.bl true) [] := by kernel_rfl
end Lw
set_option maxHeartbeats 3900000
namespace Lw
open PySem PySem.Spec PyProof.Rows L2 PI
theorem mv0 {Q : D → List D → Prop} {X : XP} {a s t : D} (ha : isFz a = true) (ua : isUn a = false) (hs : isFz s = true) (us : isUn s = false) (ht : isFz t = true) (ut : isUn t = false) (hQ : Q .non [mvD true a (.nd .tup []) s t, .nd .tup []]) : TF (d_Move_init [.nd (.ob true "Move" []) [], a, .nd .tup [], s, t]) Q X :=
  mv_gen ha ua rfl hs us ht ut as_e0 rfl hQ
theorem gl0 {Q : D → List D → Prop} {X : XP} {a : D} (ha : isFz a = true) (ua : isUn a = false) (hQ : Q .non [glD true a (.nd .tup [])]) : TF (d_Goal_init [.nd (.ob true "Goal" []) [], a, .nd .tup []]) Q X :=
  gl_gen ha ua rfl rfl as_e0 rfl hQ
theorem no_mv0 {k : Int} {a s t : D} {A S T : Bool} (ha : isFz a = true) (hs : isFz s = true) (ht : isFz t = true) (eA : d_is_place_of [a, .int k] = .ok (.bl A) []) (eS : d_is_int [s] = .ok (.bl S) []) (eT : d_is_place_of [t, .int k] = .ok (.bl T) []) (h : (A && (S && T)) = false) : NoMv k (mvD false a (.nd .tup []) s t) :=
  mv_eval ha rfl hs ht eA cs_e0 eS eT (by rw [Bool.true_and]; exact h)
theorem no_gl0 {k : Int} {a : D} (ha : isFz a = true) (eA : d_is_place_of [a, .int k] = .ok (.bl false) []) : NoGl k (glD false a (.nd .tup [])) := gl_eval ha rfl eA cs_e0 rfl
theorem badm_use {n : Nat} {p : D} {k : Int} (hk : 0 < k) (hp : Pen (n + 3) p) : ∃ d bk, d_law_bad_moves [p, .int k] = .ok d bk ∧ ∃ l p', d = .nd (.lst true) l ∧ bk = [p'] ∧ (∀ d ∈ l, NoMv k d) ∧ l.length = 13 ∧ Pen n p' := by
  refine TF.out ?_
  unfold d_law_bad_moves b_law_bad_moves
  simp only [zzS, zzL, zzE, zzA, zzB, zzF, zzI, zzO, hp.un]
  refine mv0 rfl rfl rfl rfl rfl rfl ?_
  simp only [zzS, zzL, zzE, zzA, zzB, zzF, zzI, zzO, hp.un]
  refine mv0 rfl rfl rfl rfl rfl rfl ?_
  simp only [zzS, zzL, zzE, zzA, zzB, zzF, zzI, zzO, hp.un]
  refine mv0 rfl rfl rfl rfl rfl rfl ?_
  simp only [zzS, zzL, zzE, zzA, zzB, zzF, zzI, zzO, hp.un]
  refine mv0 rfl rfl rfl rfl rfl rfl ?_
  simp only [zzS, zzL, zzE, zzA, zzB, zzF, zzI, zzO, hp.un]
  refine mv0 rfl rfl rfl rfl rfl rfl ?_
  simp only [zzS, zzL, zzE, zzA, zzB, zzF, zzI, zzO, hp.un]
  refine mv0 rfl rfl rfl rfl rfl rfl ?_
  simp only [zzS, zzL, zzE, zzA, zzB, zzF, zzI, zzO, hp.un]
  refine mv0 rfl rfl rfl rfl rfl rfl ?_
  simp only [zzS, zzL, zzE, zzA, zzB, zzF, zzI, zzO, hp.un, mvD_frzU, mvD_fzU, glD_frzU, glD_fzU, gAdd_l, cool_t0, isFzL]
  refine gl0 rfl rfl ?_
  simp only [zzS, zzL, zzE, zzA, zzB, zzF, zzI, zzO, hp.un, mvD_frzU, mvD_fzU, glD_frzU, glD_fzU, gAdd_l, cool_t0, isFzL]
  refine mv0 rfl rfl rfl rfl rfl rfl ?_
  simp only [zzS, zzL, zzE, zzA, zzB, zzF, zzI, zzO, hp.un, mvD_frzU, mvD_fzU, glD_frzU, glD_fzU, gAdd_l, cool_t0, isFzL]
  refine mv0 rfl rfl rfl rfl rfl rfl ?_
  simp only [zzS, zzL, zzE, zzA, zzB, zzF, zzI, zzO, hp.un, mvD_frzU, mvD_fzU, glD_frzU, glD_fzU, gAdd_l, cool_t0, isFzL]
  refine badc_use (n := n) hp fun c p hc hp => ?_
  obtain ⟨uc, fc, c', b, e1, f1, e2⟩ := hc
  simp only [zzS, zzL, zzE, zzA, zzB, zzF, zzI, zzO, hp.un, mvD_frzU, mvD_fzU, glD_frzU, glD_fzU, gAdd_l, cool_t0, isFzL, frz_of fc, frz_of f1, uc, fc]
  refine mv_gen rfl rfl uc rfl rfl rfl rfl e1 f1 ?_
  simp only [zzS, zzL, zzE, zzA, zzB, zzF, zzI, zzO, hp.un, mvD_frzU, mvD_fzU, glD_frzU, glD_fzU, gAdd_l, cool_t0, isFzL, frz_of fc, frz_of f1, uc, fc, f1]
  refine ⟨_, _, rfl, rfl, ?_, rfl, hp⟩
  have kk : ¬(k < k) := by omega
  have k0 : ¬(k ≤ 0) := by omega
  have k1 : (0 : Int) ≤ k := by omega
  have pk : d_is_place_of [.int k, .int k] = .ok (.bl false) [] := (pl_int k k).trans (by simp [kk])
  have p0 : d_is_place_of [.int 0, .int k] = .ok (.bl true) [] := (pl_int 0 k).trans (by simp [hk])
  have pm : d_is_place_of [.int (-1), .int k] = .ok (.bl false) [] := (pl_int (-1) k).trans (by simp)
  have i0 := int_e 0
  intro d hd
  simp only [List.mem_cons, List.not_mem_nil, or_false] at hd
  rcases hd with rfl | rfl | rfl | rfl | rfl | rfl | rfl | rfl | rfl | rfl | rfl | rfl | rfl
  · exact no_mv0 rfl rfl rfl pk i0 p0 rfl
  · exact no_mv0 rfl rfl rfl p0 i0 pk rfl
  · exact no_mv0 rfl rfl rfl pm i0 p0 rfl
  · exact no_mv0 rfl rfl rfl p0 (odd_e (odd_str _)) p0 rfl
  · exact no_mv0 rfl rfl rfl (pl_odd k (odd_str _)) i0 p0 rfl
  · exact no_mv0 rfl rfl rfl p0 (odd_e (odd_bl _)) p0 rfl
  · exact no_mv0 rfl rfl rfl (pl_odd k (odd_bl _)) i0 p0 rfl
  · exact mv_other rfl rfl (by kernel_rfl)
  · exact mv_other rfl rfl (by kernel_rfl)
  · exact mv_other rfl rfl (by kernel_rfl)
  · exact no_mv0 rfl rfl rfl p0 (odd_e odd_non) p0 rfl
  · exact no_mv0 rfl rfl rfl p0 i0 (pl_odd k (odd_bl _)) rfl
  · exact mv_eval rfl f1 rfl rfl p0 e2 i0 p0 rfl
theorem badg_use {n : Nat} {p : D} {k : Int} (hk : 0 < k) (hp : Pen (n + 3) p) : ∃ d bk, d_law_bad_goals [p, .int k] = .ok d bk ∧ ∃ l p', d = .nd (.lst true) l ∧ bk = [p'] ∧ (∀ d ∈ l, NoGl k d) ∧ l.length = 9 ∧ Pen n p' := by
  refine TF.out ?_
  unfold d_law_bad_goals b_law_bad_goals
  simp only [zzS, zzL, zzE, zzA, zzB, zzF, zzI, zzO, hp.un]
  refine gl0 rfl rfl ?_
  simp only [zzS, zzL, zzE, zzA, zzB, zzF, zzI, zzO, hp.un]
  refine gl0 rfl rfl ?_
  simp only [zzS, zzL, zzE, zzA, zzB, zzF, zzI, zzO, hp.un]
  refine gl0 rfl rfl ?_
  simp only [zzS, zzL, zzE, zzA, zzB, zzF, zzI, zzO, hp.un]
  refine gl0 rfl rfl ?_
  simp only [zzS, zzL, zzE, zzA, zzB, zzF, zzI, zzO, hp.un]
  refine badc_use (n := n) hp fun c p hc hp => ?_
  obtain ⟨uc, fc, c', b, e1, f1, e2⟩ := hc
  simp only [zzS, zzL, zzE, zzA, zzB, zzF, zzI, zzO, hp.un, mvD_frzU, mvD_fzU, glD_frzU, glD_fzU, gAdd_l, cool_t0, isFzL, frz_of fc, frz_of f1, uc, fc, cool_fz fc]
  refine gl_gen rfl rfl fc uc e1 f1 ?_
  simp only [zzS, zzL, zzE, zzA, zzB, zzF, zzI, zzO, hp.un, mvD_frzU, mvD_fzU, glD_frzU, glD_fzU, gAdd_l, cool_t0, isFzL, frz_of fc, frz_of f1, uc, fc, f1]
  refine mv0 rfl rfl rfl rfl rfl rfl ?_
  simp only [zzS, zzL, zzE, zzA, zzB, zzF, zzI, zzO, hp.un, mvD_frzU, mvD_fzU, glD_frzU, glD_fzU, gAdd_l, cool_t0, isFzL, frz_of fc, frz_of f1, uc, fc, f1]
  refine ⟨_, _, rfl, rfl, ?_, rfl, hp⟩
  have kk : ¬(k < k) := by omega
  have pk : d_is_place_of [.int k, .int k] = .ok (.bl false) [] := (pl_int k k).trans (by simp [kk])
  have p0 : d_is_place_of [.int 0, .int k] = .ok (.bl true) [] := (pl_int 0 k).trans (by simp [hk])
  have pm : d_is_place_of [.int (-1), .int k] = .ok (.bl false) [] := (pl_int (-1) k).trans (by simp)
  intro d hd
  simp only [List.mem_cons, List.not_mem_nil, or_false] at hd
  rcases hd with rfl | rfl | rfl | rfl | rfl | rfl | rfl | rfl | rfl
  · exact no_gl0 rfl pk
  · exact no_gl0 rfl pm
  · exact no_gl0 rfl (pl_odd k odd_non)
  · exact no_gl0 rfl (pl_odd k (odd_bl _))
  · exact gl_other rfl rfl (by kernel_rfl)
  · exact gl_other rfl rfl (by kernel_rfl)
  · exact gl_eval rfl f1 p0 e2 rfl
  · exact gl_other rfl rfl (by kernel_rfl)
  · exact gl_other rfl rfl (by kernel_rfl)
end Lw
set_option maxHeartbeats 3900000
namespace Lw
open PySem PySem.Spec PyProof.Rows L2 PI
theorem row_no {d : D} (h0 : isUn d = false) (h1 : gIsA csI tbI d (.nd .tup [.ty "tuple", .ty "list"]) = some (.bl false)) : d_is_row [d] = .ok (.bl false) [d] := by
  refine TF.eq ?_
  unfold d_is_row b_is_row
  simp only [zzS, zzL, zzE, zzA, zzB, zzF, h0, h1, cool_t0, and_self]
/-- a check that stops at the first wrong item -/
theorem items_bad {A : Type} {f : A → D} (hf : ∀ a, isUn (f a) = false ∧ isFz (f a) = true) {c : Str} {g : List D → OF} (hlk : ((("is_move_of", ([false, false], d_is_move_of)) :: (("is_goal_of", ([false, false], d_is_goal_of)) :: [])) : List (Str × (List Bool × (List D → OF)))).lookup c = some ([false, false], g)) {k : Nat} {P : A → Prop}
    (hg : ∀ a, P a → ∀ (Q : D → List D → Prop) (X : XP), Q (.bl true) [] → TF (g [f a, .int k]) Q X) {w : Str} {b : Bool} {l : List A} (hl : ∀ a ∈ l, P a) {bad : D} {rest : List D} (hz : isFzL (l.map f ++ bad :: rest) = true) (hu : isUn bad = false) (hb : isFz bad = true) (hn : g [bad, .int k] = .ok (.bl false) []) :
    d_check_items [.str w, lsD b (l.map f ++ bad :: rest), .int k, .fn c] = .ex "BadBook" ["index", "what"] [.int (l.length : Nat), .str w] [] := by
  refine TF.ex ?_
  unfold d_check_items b_check_items
  simp only [zzS, zzL, zzE, zzA, zzB, zzF, zzI, un_ls, cool_ls hz, fz_ls hz]
  refine row_ls hz ?_
  simp only [zzS, zzL, zzE, zzA, zzB, zzF, zzI, un_ls, cool_ls hz, fz_ls hz, items_ls hz]
  refine T_loop (fun ds e => ∃ (l0 l1 : List A) (x y : D), e = [.str w, lsD b (l.map f ++ bad :: rest), .int k, .fn c, x, y] ∧ l = l0 ++ l1 ∧ ds = enumD l0.length (l1.map f ++ bad :: rest)) ?_ ?_ ?_
  · rintro d r _ ⟨l0, l1, x, y, rfl, el, hd⟩
    cases l1 with
    | nil =>
      cases hd
      refine (T_gtup2 rfl hb).mpr ?_
      simp only [zzS, zzL, zzE, zzA, zzB, zzF, zzI, un_ls, cool_ls hz, fz_ls hz, hu, hb, cool_fz hb, hlk, hn, TF_ok, List.reverse_cons, List.reverse_nil]
      rw [el, List.append_nil]
    | cons a l1 =>
      cases hd
      refine (T_gtup2 rfl (hf a).2).mpr ?_
      simp only [zzS, zzL, zzE, zzA, zzB, zzF, zzI, un_ls, cool_ls hz, fz_ls hz, (hf a).1, (hf a).2, cool_fz (hf a).2, hlk]
      refine hg a (hl a (by rw [el]; simp)) _ _ ?_
      simp only [zzS, zzL, zzE, zzA, zzB, zzF, zzI, (hf a).2]
      refine ⟨l0 ++ [a], l1, _, _, rfl, by rw [el]; simp, ?_⟩
      rw [List.length_append]
      rfl
  · rintro _ ⟨l0, l1, x, y, rfl, el, hd⟩
    cases l1 <;> cases hd
  · exact ⟨[], l, _, _, rfl, rfl, rfl⟩
theorem items_none {w c : Str} {k : Int} {d : D} (h0 : isUn d = false) (hz : isFz d = true) (h1 : gIsA csI tbI d (.nd .tup [.ty "tuple", .ty "list"]) = some (.bl false)) : d_check_items [.str w, d, .int k, .fn c] = .ex "BadBook" ["index", "what"] [.non, .str w] [] := by
  refine TF.ex ?_
  unfold d_check_items b_check_items
  simp only [zzS, zzL, zzE, zzA, zzB, zzF, zzI, h0, hz, row_no h0 h1, TF_ok, List.reverse_cons, List.reverse_nil, and_self]
theorem items_ok {A : Type} {f : A → D} (hf : ∀ a, isUn (f a) = false ∧ isFz (f a) = true) {c : Str} {g : List D → OF} (hlk : ((("is_move_of", ([false, false], d_is_move_of)) :: (("is_goal_of", ([false, false], d_is_goal_of)) :: [])) : List (Str × (List Bool × (List D → OF)))).lookup c = some ([false, false], g)) {k : Nat} {P : A → Prop}
    (hg : ∀ a, P a → ∀ (Q : D → List D → Prop) (X : XP), Q (.bl true) [] → TF (g [f a, .int k]) Q X) {w : Str} {b : Bool} {l : List A} (hl : ∀ a ∈ l, P a) : d_check_items [.str w, lsD b (l.map f), .int k, .fn c] = .ok .non [] :=
  TF.eq (items_good hf hlk hg hl ⟨rfl, rfl⟩)
section
variable {b : Bk} {b1 : Bool} {M G : D} {c : Str} {ns : List Str} {xs : List D} {Q : D → List D → Prop} {X : XP}
/-- the sides are right; what comes behind raises -/
theorem bk_raise (h0 : 0 < b.sides.length) (h01 : ∀ s ∈ b.sides, s = 0 ∨ s = 1) (uM : isUn M = false) (fM : isFz M = true) (uG : isUn G = false) (fG : isFz G = true)
    (h : d_check_items [.str "moves", M, .int b.sides.length, .fn "is_move_of"] = .ex c ns xs [] ∨ (d_check_items [.str "moves", M, .int b.sides.length, .fn "is_move_of"] = .ok .non [] ∧ d_check_items [.str "goals", G, .int b.sides.length, .fn "is_goal_of"] = .ex c ns xs [])) (hQ : ∀ s, X c ns xs [s]) :
    TF (d_Book_init [.nd (.ob true "Book" []) [], lsD b1 (b.sides.map D.int), M, G]) Q X := by
  have z1 : isFzL (b.sides.map D.int) = true := isFzL_ints _
  have hs0 : ¬(((b.sides.map D.int).length : Int) = 0) := by
    rw [List.length_map]
    omega
  unfold d_Book_init b_Book_init
  simp only [zzS, zzL, zzE, zzA, zzB, zzF, zzI, un_ls, cool_ls z1, fz_ls z1]
  refine row_ls z1 ?_
  simp only [zzS, zzL, zzE, zzA, zzB, zzF, zzI, un_ls, cool_ls z1, fz_ls z1, len_ls, hs0, items_ls z1]
  refine T_loop (fun ds e => ∃ (l1 : List Int) (i : Nat) (x y : D), e = [.nd (.ob true "Book" []) [], lsD b1 (b.sides.map D.int), M, G, x, y] ∧ ds = enumD i (l1.map D.int) ∧ (∀ a ∈ l1, a = 0 ∨ a = 1)) ?_ ?_ ?_
  · rintro d r _ ⟨l1, i, x, y, rfl, hd, hl⟩
    cases l1 with
    | nil => cases hd
    | cons a l1 =>
      cases hd
      refine (T_gtup2 rfl rfl).mpr ?_
      simp only [zzS, zzL, zzE, zzA, zzB, zzF, zzI]
      refine int_int ?_
      simp only [zzS, zzL, zzE, zzA, zzB, zzF, zzI]
      rcases hl a List.mem_cons_self with rfl | rfl
      · simp only [zzS, zzL, zzE, zzA, zzB, zzF, zzI, ni_s0]
        exact ⟨l1, i + 1, _, _, rfl, rfl, fun x h => hl x (List.mem_cons_of_mem _ h)⟩
      · simp only [zzS, zzL, zzE, zzA, zzB, zzF, zzI, ni_s1]
        exact ⟨l1, i + 1, _, _, rfl, rfl, fun x h => hl x (List.mem_cons_of_mem _ h)⟩
  · rintro _ ⟨l1, i, x, y, rfl, -, -⟩
    have e1 : ∀ (q : D), gFld ["Book"] "sides" (.nd (.ob true "Book" ["sides"]) [.nd .tup (b.sides.map D.int)]) = some (.nd .tup (b.sides.map D.int)) := fun _ => bf_sides1 _ (fz_tup z1)
    simp only [zzS, zzL, zzE, zzA, zzB, zzF, zzI, un_ls, tup_ls z1, cool_tup z1, pB_sides, e1 .un, len_tup, pB_places, uM, fM, cool_fz fM, uG, fG, cool_fz fG, bf_places2, List.length_map]
    rcases h with h | ⟨h, h'⟩
    · rw [h]
      simp only [TF_ex, zzS, zzL, zzE]
      exact hQ _
    · rw [h]
      simp only [zzS, zzL, zzE, zzA, zzB, zzF, zzI, un_ls, uM, fM, cool_fz fM, uG, fG, cool_fz fG, bf_places2, TF_ok, h', TF_ex]
      exact hQ _
  · exact ⟨b.sides, 0, _, _, rfl, rfl, h01⟩
/-- a side that is none -/
theorem bk_side {l0 : List Int} {bad : D} {rest : List D} (h01 : ∀ s ∈ l0, s = 0 ∨ s = 1) (hz : isFzL (l0.map D.int ++ bad :: rest) = true) (hu : isUn bad = false) (hb : isFz bad = true) (uM : isUn M = false) (fM : isFz M = true) (uG : isUn G = false) (fG : isFz G = true)
    (h : d_is_int [bad] = .ok (.bl false) [] ∨ (d_is_int [bad] = .ok (.bl true) [] ∧ gNotIn bad (.nd (.lst true) [.int 0, .int 1]) = some (.bl true))) (hQ : ∀ s, X "BadBook" ["index", "what"] [.int (l0.length : Nat), .str "sides"] [s]) :
    TF (d_Book_init [.nd (.ob true "Book" []) [], lsD b1 (l0.map D.int ++ bad :: rest), M, G]) Q X := by
  have hs0 : ¬(((l0.map D.int ++ bad :: rest).length : Int) = 0) := by
    rw [List.length_append, List.length_cons]
    omega
  unfold d_Book_init b_Book_init
  simp only [zzS, zzL, zzE, zzA, zzB, zzF, zzI, un_ls, cool_ls hz, fz_ls hz]
  refine row_ls hz ?_
  simp only [zzS, zzL, zzE, zzA, zzB, zzF, zzI, un_ls, cool_ls hz, fz_ls hz, len_ls, hs0, items_ls hz]
  refine T_loop (fun ds e => ∃ (l2 l1 : List Int) (x y : D), e = [.nd (.ob true "Book" []) [], lsD b1 (l0.map D.int ++ bad :: rest), M, G, x, y] ∧ l0 = l2 ++ l1 ∧ ds = enumD l2.length (l1.map D.int ++ bad :: rest)) ?_ ?_ ?_
  · rintro d r _ ⟨l2, l1, x, y, rfl, el, hd⟩
    cases l1 with
    | nil =>
      cases hd
      refine (T_gtup2 rfl hb).mpr ?_
      rw [List.append_nil] at el
      subst el
      rcases h with h | ⟨h, h'⟩
      · simp only [zzS, zzL, zzE, zzA, zzB, zzF, zzI, hu, hb, cool_fz hb, h, TF_ok, List.reverse_cons, List.reverse_nil]
        exact hQ _
      · simp only [zzS, zzL, zzE, zzA, zzB, zzF, zzI, hu, hb, cool_fz hb, h, h', TF_ok, List.reverse_cons, List.reverse_nil]
        exact hQ _
    | cons a l1 =>
      cases hd
      refine (T_gtup2 rfl rfl).mpr ?_
      simp only [zzS, zzL, zzE, zzA, zzB, zzF, zzI]
      refine int_int ?_
      simp only [zzS, zzL, zzE, zzA, zzB, zzF, zzI]
      rcases h01 a (by rw [el]; simp) with rfl | rfl
      · simp only [zzS, zzL, zzE, zzA, zzB, zzF, zzI, ni_s0]
        exact ⟨l2 ++ [0], l1, _, _, rfl, by rw [el]; simp, by rw [List.length_append]; rfl⟩
      · simp only [zzS, zzL, zzE, zzA, zzB, zzF, zzI, ni_s1]
        exact ⟨l2 ++ [1], l1, _, _, rfl, by rw [el]; simp, by rw [List.length_append]; rfl⟩
  · rintro _ ⟨l2, l1, x, y, rfl, el, hd⟩
    cases l1 <;> cases hd
  · exact ⟨[], l0, _, _, rfl, rfl, rfl⟩
/-- no sides at all -/
theorem bk_none {d : D} (h0 : isUn d = false) (hz : isFz d = true) (h : d_is_row [d] = .ok (.bl false) [d] ∨ (d_is_row [d] = .ok (.bl true) [d] ∧ gLen d = some (.int 0))) (hQ : ∀ s, X "BadBook" ["index", "what"] [.non, .str "sides"] [s]) :
    TF (d_Book_init [.nd (.ob true "Book" []) [], d, M, G]) Q X := by
  unfold d_Book_init b_Book_init
  rcases h with h | ⟨h, h'⟩
  · simp only [zzS, zzL, zzE, zzA, zzB, zzF, zzI, h0, hz, h, TF_ok, List.reverse_cons, List.reverse_nil]
    exact hQ _
  · simp only [zzS, zzL, zzE, zzA, zzB, zzF, zzI, h0, hz, h, h', TF_ok, List.reverse_cons, List.reverse_nil]
    exact hQ _
end
end Lw
set_option maxHeartbeats 3900000
namespace PI
open L2 PySem PyProof.Rows PySem.Spec
theorem add_l {xs ys : List D} {o o2 : Bool} (h : xs.length + ys.length ≤ 5000) (h1 : isFzL xs = true) (h2 : isFzL ys = true) : gAdd (.nd (.lst o) xs) (.nd (.lst o2) ys) = some (.nd (.lst true) (xs ++ ys)) := by
  have e : decide (xs.length + ys.length ≤ sizeLine) = true := decide_eq_true (by
    show _ ≤ sizeLine
    unfold sizeLine
    omega)
  rw [gAdd_l, h1, h2, e]
  rfl
theorem fzL_app {xs ys : List D} (h1 : isFzL xs = true) (h2 : isFzL ys = true) : isFzL (xs ++ ys) = true := (isFzL_iff _).mpr fun x hx => by
  obtain hx | hx := List.mem_append.mp hx
  · exact (isFzL_iff _).mp h1 x hx
  · exact (isFzL_iff _).mp h2 x hx
theorem fzL_one {x : D} (h : isFz x = true) : isFzL [x] = true := by simp only [isFzL, h]; rfl
theorem fzL_cons {x : D} {xs : List D} (h : isFz x = true) (h2 : isFzL xs = true) : isFzL (x :: xs) = true := by simp only [isFzL, h, h2]; rfl
theorem sl_to {xs : List D} {o : Bool} {k : Nat} (hz : isFzL xs = true) (h : k ≤ xs.length) : gSl (.nd (.lst o) xs) none (some (k : Int)) = some (.nd (.lst true) (xs.take k)) := by
  rw [← cut_to xs h]
  exact if_pos hz
theorem sl_from {xs : List D} {o : Bool} {k : Nat} (hz : isFzL xs = true) (h : k ≤ xs.length) : gSl (.nd (.lst o) xs) (some (k : Int)) none = some (.nd (.lst true) (xs.drop k)) := by
  rw [← cut_from xs h]
  exact if_pos hz
theorem set_at {xs : List D} {k : Nat} {v : D} (h : k < xs.length) : setT (.nd (.lst true) xs) (.int (k : Int)) v = some (.nd (.lst true) (xs.set k v)) := by
  have e : ixN xs.length (k : Int) = some k := by
    unfold ixN
    (rw [if_pos (by omega), if_pos (by omega)])
    rfl
  show (ixN xs.length (k : Int)).map _ = _
  rw [e]
  rfl
end PI
namespace Lw
open PySem PySem.Spec PyProof.Rows L2 PI
theorem draw_nat {Q : D → List D → Prop} {X : XP} {n : Nat} {p : D} {m : Int} (hp : Pen (n + 1) p) (h : 0 < m) (h2 : m < 1000000000) (hQ : ∀ (j : Nat) p', (j : Int) < m → Pen n p' → Q (.int j) [p']) : TF (d_law_draw [p, .int m]) Q X :=
  draw_use hp h h2 fun k p' k0 k1 hp => by
    (have e : k = ((k.toNat : Nat) : Int) := by omega)
    rw [e]
    exact hQ k.toNat p' (by omega) hp
theorem flt_ix (w : Str) (i : Int) : hres (handle q_law_fault "BadBook" ["index", "what"] [.int i, .str w] [.un, .un, .un]) 1 = some (.nd .tup [.str w, .int i]) := by kernel_rfl
theorem flt_non (w : Str) : hres (handle q_law_fault "BadBook" ["index", "what"] [.non, .str w] [.un, .un, .un]) 1 = some (.nd .tup [.str w, .non]) := by kernel_rfl
theorem pm_ix (i : Int) : PI.plain 60 (.nd .tup [.str "moves", .int i]) = true := by kernel_rfl
theorem pg_ix (i : Int) : PI.plain 60 (.nd .tup [.str "goals", .int i]) = true := by kernel_rfl
theorem ps_ix (i : Int) : PI.plain 60 (.nd .tup [.str "sides", .int i]) = true := by kernel_rfl
theorem pm_n : PI.plain 60 (.nd .tup [.str "moves", .non]) = true := by kernel_rfl
theorem pg_n : PI.plain 60 (.nd .tup [.str "goals", .non]) = true := by kernel_rfl
theorem ps_n : PI.plain 60 (.nd .tup [.str "sides", .non]) = true := by kernel_rfl
def lside : List D := [.int 2, .int (-1), .bl true, .non, .str "0", .nd (.lst false) [.int 0], .nd .tup [.int 0]]
theorem lside_ok {d : D} (h : d ∈ lside) : isUn d = false ∧ isFz d = true ∧ (d_is_int [d] = .ok (.bl false) [] ∨ (d_is_int [d] = .ok (.bl true) [] ∧ gNotIn d (.nd (.lst true) [.int 0, .int 1]) = some (.bl true))) := by
  simp only [lside, List.mem_cons, List.not_mem_nil, or_false] at h
  rcases h with rfl | rfl | rfl | rfl | rfl | rfl | rfl
  · exact ⟨rfl, rfl, .inr ⟨int_e _, by kernel_rfl⟩⟩
  · exact ⟨rfl, rfl, .inr ⟨int_e _, by kernel_rfl⟩⟩
  · exact ⟨rfl, rfl, .inl (odd_e (odd_bl _))⟩
  · exact ⟨rfl, rfl, .inl (odd_e odd_non)⟩
  · exact ⟨rfl, rfl, .inl (odd_e (odd_str _))⟩
  · exact ⟨rfl, rfl, .inl (odd_e (odd_lst _ rfl))⟩
  · exact ⟨rfl, rfl, .inl (odd_e (odd_tup _ rfl))⟩
def lnone : List D := [.non, .nd .tup [], .nd (.lst false) [], .int 0, .str "01", .nd (.dk false [(.inl 0)]) [.int 1]]
theorem lnone_ok {d : D} (h : d ∈ lnone) : isUn d = false ∧ isFz d = true ∧ (d_is_row [d] = .ok (.bl false) [d] ∨ (d_is_row [d] = .ok (.bl true) [d] ∧ gLen d = some (.int 0))) := by
  simp only [lnone, List.mem_cons, List.not_mem_nil, or_false] at h
  rcases h with rfl | rfl | rfl | rfl | rfl | rfl
  · exact ⟨rfl, rfl, .inl (row_no rfl (by kernel_rfl))⟩
  · exact ⟨rfl, rfl, .inr ⟨TF.eq (row_tup rfl ⟨rfl, rfl⟩), rfl⟩⟩
  · exact ⟨rfl, rfl, .inr ⟨TF.eq (row_lst rfl ⟨rfl, rfl⟩), rfl⟩⟩
  · exact ⟨rfl, rfl, .inl (row_no rfl (by kernel_rfl))⟩
  · exact ⟨rfl, rfl, .inl (row_no rfl (by kernel_rfl))⟩
  · exact ⟨rfl, rfl, .inl (row_no rfl (by kernel_rfl))⟩
def lthing : List D := [.non, .int 3, .str "moves", .nd (.dk false []) []]
theorem lthing_ok {d : D} (h : d ∈ lthing) : isUn d = false ∧ isFz d = true ∧ gIsA csI tbI d (.nd .tup [.ty "tuple", .ty "list"]) = some (.bl false) := by
  simp only [lthing, List.mem_cons, List.not_mem_nil, or_false] at h
  rcases h with rfl | rfl | rfl | rfl
  · exact ⟨rfl, rfl, by kernel_rfl⟩
  · exact ⟨rfl, rfl, by kernel_rfl⟩
  · exact ⟨rfl, rfl, by kernel_rfl⟩
  · exact ⟨rfl, rfl, by kernel_rfl⟩
end Lw
set_option maxHeartbeats 3900000
namespace Lw
open PySem PySem.Spec PyProof.Rows L2 PI
theorem nat_of {k : Int} (h : 0 ≤ k) : ∃ j : Nat, k = (j : Int) := ⟨k.toNat, by omega⟩
theorem faults_use {Q : D → List D → Prop} {X : XP} {n : Nat} {p : D} {b : Bk} (hb : b.V) (hp : Pen (n + 40) p) (hQ : ∀ p', Pen n p' → Q (.bl true) [p']) : TF (d_law_faults_right [p, b.d false, b.o false]) Q X := by
  have z1 : isFzL (b.mv.map (Mv.o false)) = true := isFzL_map _ fz_mo _
  have z2 : isFzL (b.gl.map (Gl.o false)) = true := isFzL_map _ fz_go _
  have z3 : isFzL (b.sides.map D.int) = true := isFzL_ints _
  have l1 : gList (.nd .tup (b.mv.map (Mv.o false))) = some (.nd (.lst true) (b.mv.map (Mv.o false))) := if_pos z1
  have l2 : gList (.nd .tup (b.gl.map (Gl.o false))) = some (.nd (.lst true) (b.gl.map (Gl.o false))) := if_pos z2
  have l3 : gList (.nd (.lst false) (b.sides.map D.int)) = some (.nd (.lst true) (b.sides.map D.int)) := if_pos z3
  have f1 : isFz (.nd (.lst false) (b.mv.map (Mv.o false))) = true := by simp only [isFz, Kd.own, z1]; rfl
  have f2 : isFz (.nd (.lst false) (b.gl.map (Gl.o false))) = true := by simp only [isFz, Kd.own, z2]; rfl
  have f3 : ∀ i : Int, isFz (.nd .tup [.int i, .nd (.lst false) (b.mv.map (Mv.o false)), .nd (.lst false) (b.gl.map (Gl.o false))]) = true := fun i => by simp only [isFz, isFzL, Kd.own, z1, z2]; rfl
  have m20 := hb.m20
  have g2 := hb.g2
  have s0 := hb.s0
  have s4 := hb.s4
  unfold d_law_faults_right b_law_faults_right
  simp only [zzS, zzL, zzE, zzA, zzB, zzF, zzI, zzO, hp.un, bd_sides, bf_moves, bf_goals, len_lst, l1, l2, frzL_of z1, frzL_of z2, List.length_map, cool_fz (f3 _)]
  refine (AS3_tup (isFz_int _) f1 f2).mpr ?_
  simp only [zzS, zzL, zzE, zzA, zzB, zzF, zzI, zzO, hp.un, bd_sides, bf_moves, bf_goals, len_lst, l1, l2, frzL_of z1, frzL_of z2, List.length_map]
  refine draw_nat (n := n + 39) hp (by omega) (by omega) fun j p k1 hp => ?_
  simp only [zzS, zzL, zzE, zzA, zzB, zzF, zzI, zzO, hp.un, bd_sides, bf_moves, bf_goals, len_lst, l1, l2, frzL_of z1, frzL_of z2, List.length_map]
  have hk0 : (0 : Int) < b.sides.length := by omega
  obtain ⟨_, _, em, l, p, rfl, rfl, hl, ll, hp⟩ := badm_use (n := n + 36) hk0 hp
  have zl : isFzL l = true := (isFzL_iff _).mpr fun x hx => (hl x hx).2.1
  simp only [em, TF_ok, zzS, zzL, zzE, zzA, zzB, zzF, zzI, zzO, hp.un, cool_own, frzL_of zl]
  refine pick_use (n := n + 35) hp zl (by omega) (by omega) fun bad p hbad hp => ?_
  have hbad := hl bad hbad
  have hj : j ≤ (b.mv.map (Mv.o false)).length := by rw [List.length_map]; omega
  have zA : isFzL ((b.mv.map (Mv.o false)).take j) = true := (isFzL_iff _).mpr fun x hx => (isFzL_iff _).mp z1 x (List.mem_of_mem_take hx)
  have zB : isFzL ((b.mv.map (Mv.o false)).drop j) = true := (isFzL_iff _).mpr fun x hx => (isFzL_iff _).mp z1 x (List.mem_of_mem_drop hx)
  have lA : ((b.mv.map (Mv.o false)).take j).length ≤ 30 := by rw [List.length_take, List.length_map]; omega
  have lB : ((b.mv.map (Mv.o false)).drop j).length ≤ 30 := by rw [List.length_drop, List.length_map]; omega
  have a1 : gAdd (.nd (.lst true) ((b.mv.map (Mv.o false)).take j)) (.nd (.lst true) [bad]) = some (.nd (.lst true) ((b.mv.map (Mv.o false)).take j ++ [bad])) := add_l (by simp only [List.length_cons, List.length_nil]; omega) zA (fzL_one hbad.2.1)
  have zA2 := fzL_app zA (fzL_one hbad.2.1)
  have a2 : gAdd (.nd (.lst true) ((b.mv.map (Mv.o false)).take j ++ [bad])) (.nd (.lst true) ((b.mv.map (Mv.o false)).drop j)) = some (.nd (.lst true) ((b.mv.map (Mv.o false)).take j ++ [bad] ++ (b.mv.map (Mv.o false)).drop j)) := add_l (by simp only [List.length_append, List.length_cons, List.length_nil]; omega) zA2 zB
  have zA3 := fzL_app zA2 zB
  simp only [zzS, zzL, zzE, zzA, zzB, zzF, zzI, zzO, hp.un, hbad.1, hbad.2.1, cool_fz hbad.2.1, sl_to z1 hj, sl_from z1 hj, a1, a2]
  obtain ⟨_, _, em2, l', p, rfl, rfl, hl', ll', hp⟩ := badm_use (n := n + 32) hk0 hp
  have zl' : isFzL l' = true := (isFzL_iff _).mpr fun x hx => (hl' x hx).2.1
  simp only [em2, TF_ok, zzS, zzL, zzE, zzA, zzB, zzF, zzI, zzO, hp.un, cool_own, frzL_of zl', hbad.1, hbad.2.1, cool_fz hbad.2.1]
  refine pick_use (n := n + 31) hp zl' (by omega) (by omega) fun bad2 p hbad2 hp => ?_
  have hbad2 := hl' bad2 hbad2
  have a3 : gAdd (.nd (.lst true) ((b.mv.map (Mv.o false)).take j ++ [bad] ++ (b.mv.map (Mv.o false)).drop j)) (.nd (.lst true) [bad2]) = some (.nd (.lst true) ((b.mv.map (Mv.o false)).take j ++ [bad] ++ (b.mv.map (Mv.o false)).drop j ++ [bad2])) := add_l (by simp only [List.length_append, List.length_cons, List.length_nil]; omega) zA3 (fzL_one hbad2.2.1)
  have zW := fzL_app zA3 (fzL_one hbad2.2.1)
  have eW : (b.mv.map (Mv.o false)).take j ++ [bad] ++ (b.mv.map (Mv.o false)).drop j ++ [bad2] = (b.mv.take j).map (Mv.o false) ++ bad :: ((b.mv.map (Mv.o false)).drop j ++ [bad2]) := by simp [List.map_take]
  simp only [zzS, zzL, zzE, zzA, zzB, zzF, zzI, zzO, hp.un, hbad.1, hbad.2.1, cool_fz hbad.2.1, hbad2.1, hbad2.2.1, cool_fz hbad2.2.1, a3, bf_goals, len_lst, List.length_map]
  generalize hW : (b.mv.map (Mv.o false)).take j ++ [bad] ++ (b.mv.map (Mv.o false)).drop j ++ [bad2] = W at *
  refine draw_nat (n := n + 30) hp (by omega) (by omega) fun e p ke hp => ?_
  simp only [zzS, zzL, zzE, zzA, zzB, zzF, zzI, zzO, hp.un, hbad.1, hbad.2.1, cool_fz hbad.2.1]
  obtain ⟨_, _, eg, l2', p, rfl, rfl, hl2, ll2, hp⟩ := badg_use (n := n + 27) hk0 hp
  have zl2 : isFzL l2' = true := (isFzL_iff _).mpr fun x hx => (hl2 x hx).2.1
  simp only [eg, TF_ok, zzS, zzL, zzE, zzA, zzB, zzF, zzI, zzO, hp.un, cool_own, frzL_of zl2, hbad.1, hbad.2.1, cool_fz hbad.2.1]
  refine pick_use (n := n + 26) hp zl2 (by omega) (by omega) fun odd p hodd hp => ?_
  have hodd := hl2 odd hodd
  have he : e ≤ (b.gl.map (Gl.o false)).length := by rw [List.length_map]; omega
  have yA : isFzL ((b.gl.map (Gl.o false)).take e) = true := (isFzL_iff _).mpr fun x hx => (isFzL_iff _).mp z2 x (List.mem_of_mem_take hx)
  have yB : isFzL ((b.gl.map (Gl.o false)).drop e) = true := (isFzL_iff _).mpr fun x hx => (isFzL_iff _).mp z2 x (List.mem_of_mem_drop hx)
  have kA : ((b.gl.map (Gl.o false)).take e).length ≤ 30 := by rw [List.length_take, List.length_map]; omega
  have kB : ((b.gl.map (Gl.o false)).drop e).length ≤ 30 := by rw [List.length_drop, List.length_map]; omega
  have c1 : gAdd (.nd (.lst true) ((b.gl.map (Gl.o false)).take e)) (.nd (.lst true) [odd]) = some (.nd (.lst true) ((b.gl.map (Gl.o false)).take e ++ [odd])) := add_l (by simp only [List.length_cons, List.length_nil]; omega) yA (fzL_one hodd.2.1)
  have yA2 := fzL_app yA (fzL_one hodd.2.1)
  have c2 : gAdd (.nd (.lst true) ((b.gl.map (Gl.o false)).take e ++ [odd])) (.nd (.lst true) ((b.gl.map (Gl.o false)).drop e)) = some (.nd (.lst true) ((b.gl.map (Gl.o false)).take e ++ [odd] ++ (b.gl.map (Gl.o false)).drop e)) := add_l (by simp only [List.length_append, List.length_cons, List.length_nil]; omega) yA2 yB
  have zG := fzL_app yA2 yB
  have eG : (b.gl.map (Gl.o false)).take e ++ [odd] ++ (b.gl.map (Gl.o false)).drop e = (b.gl.take e).map (Gl.o false) ++ odd :: (b.gl.map (Gl.o false)).drop e := by simp [List.map_take]
  simp only [zzS, zzL, zzE, zzA, zzB, zzF, zzI, zzO, hp.un, hbad.1, hbad.2.1, cool_fz hbad.2.1, hodd.1, hodd.2.1, cool_fz hodd.2.1, sl_to z2 he, sl_from z2 he, c1, c2, T_flt, bd_sides, frzL_of zW]
  generalize hG : (b.gl.map (Gl.o false)).take e ++ [odd] ++ (b.gl.map (Gl.o false)).drop e = G at *
  simp only [cool_lst zW, frzL_of zG, cool_lst zG, cool_lst z3]
  have fW : isFz (.nd (.lst false) W) = true := fz_ls (b := false) zW
  have fG : isFz (.nd (.lst false) G) = true := fz_ls (b := false) zG
  have zW' : isFzL ((b.mv.take j).map (Mv.o false) ++ bad :: ((b.mv.map (Mv.o false)).drop j ++ [bad2])) = true := by rw [← eW]; exact zW
  have zG' : isFzL ((b.gl.take e).map (Gl.o false) ++ odd :: (b.gl.map (Gl.o false)).drop e) = true := by rw [← eG]; exact zG
  have tj : (b.mv.take j).length = j := by rw [List.length_take]; rw [List.length_map] at hj; omega
  have te : (b.gl.take e).length = e := by rw [List.length_take]; rw [List.length_map] at he; omega
  have cM : d_check_items [.str "moves", .nd (.lst false) W, .int b.sides.length, .fn "is_move_of"] = .ex "BadBook" ["index", "what"] [.int j, .str "moves"] [] := by
    have := items_bad (f := Mv.o false) (g := d_is_move_of) (k := b.sides.length) (P := fun m => m.V b.sides.length) (w := "moves") (b := false) (fun a => ⟨rfl, fz_mo a⟩) lk_m (fun a ha Q X h => mv_yes a ha h) (l := b.mv.take j) (fun a ha => hb.mv a (List.mem_of_mem_take ha)) zW' hbad.1 hbad.2.1 hbad.2.2
    rw [tj, ← eW] at this
    exact this
  have cG : ∀ z : Bool, d_check_items [.str "goals", lsD z G, .int b.sides.length, .fn "is_goal_of"] = .ex "BadBook" ["index", "what"] [.int e, .str "goals"] [] := fun z => by
    have := items_bad (f := Gl.o false) (g := d_is_goal_of) (k := b.sides.length) (P := fun m => m.V b.sides.length) (w := "goals") (b := z) (fun a => ⟨rfl, fz_go a⟩) lk_g (fun a ha Q X h => gl_yes a ha h) (l := b.gl.take e) (fun a ha => hb.gl a (List.mem_of_mem_take ha)) zG' hodd.1 hodd.2.1 hodd.2.2
    rw [te, ← eG] at this
    exact this
  have oM : d_check_items [.str "moves", .nd (.lst false) (b.mv.map (Mv.o false)), .int b.sides.length, .fn "is_move_of"] = .ok .non [] :=
    items_ok (f := Mv.o false) (g := d_is_move_of) (k := b.sides.length) (P := fun m => m.V b.sides.length) (w := "moves") (b := false) (fun a => ⟨rfl, fz_mo a⟩) lk_m (fun a ha Q X h => mv_yes a ha h) hb.mv
  refine bk_raise (b1 := false) (b := b) (M := .nd (.lst false) W) (G := .nd (.lst false) G) s0 hb.s01 rfl fW rfl fG (.inl cM) fun s => ?_
  simp only [zzS, zzL, zzE, zzA, zzB, zzF, zzI, zzO, hp.un, hbad.1, hbad.2.1, cool_fz hbad.2.1, hodd.1, hodd.2.1, cool_fz hodd.2.1, T_flt, bd_sides, zW, zG, z1, z2, z3, frzL_of zW, frzL_of zG, cool_lst zW, cool_lst zG, cool_lst z1, cool_lst z3, flt_ix, flt_non, gNe_self (pm_ix j)]
  refine listed_use (n := n + 25) (b := false) hp zG fun z p hp => ?_
  simp only [zzS, zzL, zzE, zzA, zzB, zzF, zzI, zzO, hp.un, hbad.1, hbad.2.1, cool_fz hbad.2.1, hodd.1, hodd.2.1, cool_fz hodd.2.1, T_flt, bd_sides, zW, zG, z1, z2, z3, frzL_of zW, frzL_of zG, cool_lst zW, cool_lst zG, cool_lst z1, cool_lst z3, flt_ix, flt_non, cool_ls zG]
  refine bk_raise (b1 := false) (b := b) (M := .nd (.lst false) (b.mv.map (Mv.o false))) (G := lsD z G) s0 hb.s01 rfl f1 (un_ls _ _) (fz_ls zG) (.inr ⟨oM, cG z⟩) fun s => ?_
  simp only [zzS, zzL, zzE, zzA, zzB, zzF, zzI, zzO, hp.un, hbad.1, hbad.2.1, cool_fz hbad.2.1, hodd.1, hodd.2.1, cool_fz hodd.2.1, T_flt, bd_sides, zW, zG, z1, z2, z3, frzL_of zW, frzL_of zG, cool_lst zW, cool_lst zG, cool_lst z1, cool_lst z3, flt_ix, flt_non, gNe_self (pg_ix e), l3]
  refine draw_nat (n := n + 24) hp (by omega) (by omega) fun sp p ks hp => ?_
  simp only [zzS, zzL, zzE, zzA, zzB, zzF, zzI, zzO, hp.un, hbad.1, hbad.2.1, cool_fz hbad.2.1, hodd.1, hodd.2.1, cool_fz hodd.2.1, T_flt, bd_sides, zW, zG, z1, z2, z3, frzL_of zW, frzL_of zG, cool_lst zW, cool_lst zG, cool_lst z1, cool_lst z3, flt_ix, flt_non]
  refine pick_use (n := n + 23) (xs := lside) hp (by kernel_rfl) (by decide) (by decide) fun v p hv hp => ?_
  obtain ⟨uv, fv, hv⟩ := lside_ok hv
  have hsp : sp < (b.sides.map D.int).length := by rw [List.length_map]; omega
  have eS : (b.sides.map D.int).set sp v = (b.sides.take sp).map D.int ++ v :: (b.sides.drop (sp + 1)).map D.int := by
    rw [List.set_eq_take_append_cons_drop, if_pos hsp, List.map_take, List.map_drop]
  have zS : isFzL ((b.sides.take sp).map D.int ++ v :: (b.sides.drop (sp + 1)).map D.int) = true := fzL_app (isFzL_ints _) (fzL_cons fv (isFzL_ints _))
  have ts : (b.sides.take sp).length = sp := by rw [List.length_take]; rw [List.length_map] at hsp; omega
  simp only [zzS, zzL, zzE, zzA, zzB, zzF, zzI, zzO, hp.un, hbad.1, hbad.2.1, cool_fz hbad.2.1, hodd.1, hodd.2.1, cool_fz hodd.2.1, T_flt, bd_sides, zW, zG, z1, z2, z3, frzL_of zW, frzL_of zG, cool_lst zW, cool_lst zG, cool_lst z1, cool_lst z3, flt_ix, flt_non, uv, fv, cool_fz fv, set_at hsp, eS, frzL_of zS, cool_lst zS, zS]
  refine bk_side (b1 := false) (M := .nd (.lst false) W) (G := .nd (.lst false) G) (l0 := b.sides.take sp) (fun a ha => hb.s01 a (List.mem_of_mem_take ha)) zS uv fv rfl fW rfl fG hv fun s => ?_
  rw [ts]
  simp only [zzS, zzL, zzE, zzA, zzB, zzF, zzI, zzO, hp.un, hbad.1, hbad.2.1, cool_fz hbad.2.1, hodd.1, hodd.2.1, cool_fz hodd.2.1, T_flt, bd_sides, zW, zG, z1, z2, z3, frzL_of zW, frzL_of zG, cool_lst zW, cool_lst zG, cool_lst z1, cool_lst z3, flt_ix, flt_non, uv, fv, cool_fz fv, gNe_self (ps_ix sp), frzL_of zS, cool_lst zS, zS, cool_t0]
  refine pick_use (n := n + 22) (xs := lnone) hp (by kernel_rfl) (by decide) (by decide) fun v2 p hv2 hp => ?_
  obtain ⟨uv2, fv2, hv2⟩ := lnone_ok hv2
  simp only [zzS, zzL, zzE, zzA, zzB, zzF, zzI, zzO, hp.un, hbad.1, hbad.2.1, cool_fz hbad.2.1, hodd.1, hodd.2.1, cool_fz hodd.2.1, T_flt, bd_sides, zW, zG, z1, z2, z3, frzL_of zW, frzL_of zG, cool_lst zW, cool_lst zG, cool_lst z1, cool_lst z3, flt_ix, flt_non, uv2, fv2, cool_fz fv2, frzL_of zS, cool_lst zS, zS]
  refine bk_none (M := .nd (.lst false) W) (G := .nd (.lst false) G) uv2 fv2 hv2 fun s => ?_
  simp only [zzS, zzL, zzE, zzA, zzB, zzF, zzI, zzO, hp.un, hbad.1, hbad.2.1, cool_fz hbad.2.1, hodd.1, hodd.2.1, cool_fz hodd.2.1, T_flt, bd_sides, zW, zG, z1, z2, z3, frzL_of zW, frzL_of zG, cool_lst zW, cool_lst zG, cool_lst z1, cool_lst z3, flt_ix, flt_non, uv2, fv2, cool_fz fv2, gNe_self ps_n, frzL_of zS, cool_lst zS, zS]
  refine pick_use (n := n + 21) (xs := lthing) hp (by kernel_rfl) (by decide) (by decide) fun v3 p hv3 hp => ?_
  obtain ⟨uv3, fv3, hv3⟩ := lthing_ok hv3
  simp only [zzS, zzL, zzE, zzA, zzB, zzF, zzI, zzO, hp.un, hbad.1, hbad.2.1, cool_fz hbad.2.1, hodd.1, hodd.2.1, cool_fz hodd.2.1, T_flt, bd_sides, zW, zG, z1, z2, z3, frzL_of zW, frzL_of zG, cool_lst zW, cool_lst zG, cool_lst z1, cool_lst z3, flt_ix, flt_non, uv3, fv3, cool_fz fv3, frzL_of zS, cool_lst zS, zS]
  refine bk_raise (b1 := false) (b := b) (M := v3) (G := .nd (.lst false) G) s0 hb.s01 uv3 fv3 rfl fG (.inl (items_none uv3 fv3 hv3)) fun s => ?_
  simp only [zzS, zzL, zzE, zzA, zzB, zzF, zzI, zzO, hp.un, hbad.1, hbad.2.1, cool_fz hbad.2.1, hodd.1, hodd.2.1, cool_fz hodd.2.1, T_flt, bd_sides, zW, zG, z1, z2, z3, frzL_of zW, frzL_of zG, cool_lst zW, cool_lst zG, cool_lst z1, cool_lst z3, flt_ix, flt_non, uv3, fv3, cool_fz fv3, gNe_self pm_n, frzL_of zS, cool_lst zS, zS]
  refine bk_raise (b1 := false) (b := b) (M := .nd (.lst false) (b.mv.map (Mv.o false))) (G := v3) s0 hb.s01 rfl f1 uv3 fv3 (.inr ⟨oM, items_none uv3 fv3 hv3⟩) fun s => ?_
  simp only [zzS, zzL, zzE, zzA, zzB, zzF, zzI, zzO, hp.un, hbad.1, hbad.2.1, cool_fz hbad.2.1, hodd.1, hodd.2.1, cool_fz hodd.2.1, T_flt, bd_sides, zW, zG, z1, z2, z3, frzL_of zW, frzL_of zG, cool_lst zW, cool_lst zG, cool_lst z1, cool_lst z3, flt_ix, flt_non, uv3, fv3, cool_fz fv3, gEq_self pg_n, frzL_of zS, cool_lst zS, zS]
  exact hQ p (hp.less (by omega))
end Lw
set_option maxHeartbeats 3900000
namespace Lw
open PySem PySem.Spec PyProof.Rows L2 PI
theorem rol_fz {l : List Int} : isFz (.nd .rol (l.map D.int)) = true := by simp only [isFz, Kd.own, isFzL_ints]; rfl
theorem lst_rol {l : List Int} : gList (.nd .rol (l.map D.int)) = some (.nd (.lst true) (l.map D.int)) := if_pos (isFzL_ints l)
theorem pen_use {Q : D → List D → Prop} {X : XP} {l : List Int} (hQ : ∀ p, Pen 1000000000000 p → Q p []) : TF (d_law_pen [.nd .rol (l.map D.int)]) Q X := by
  unfold d_law_pen b_law_pen
  simp only [zzS, zzL, zzE, zzA, zzB, zzF, zzI, zzO, rol_fz, cool_fz rol_fz]
  refine T_loop (fun ds e => ∃ (l2 : List Int) (f : Int) (x : D), e = [.nd .rol (l.map D.int), .int f, x] ∧ ds = l2.map D.int ∧ 0 ≤ f ∧ f < 1000000007) ?_ ?_ ?_
  · rintro d r _ ⟨l2, f, x, rfl, hd, h0, h1⟩
    cases l2 with
    | nil => cases hd
    | cons a l2 =>
      cases hd
      have e : gMul (.int f) (.int 43) = some (.int (f * 43)) := gMul_ii (by omega) (by omega)
      have e2 : gMod (.int (f * 43 + a)) (.int 1000000007) = some (.int ((f * 43 + a) % 1000000007)) := gMod_ii (by omega)
      simp only [zzS, zzL, zzE, zzA, zzB, zzF, zzI, zzO, e, e2]
      exact ⟨l2, _, _, rfl, rfl, Int.emod_nonneg _ (by omega), Int.emod_lt_of_pos _ (by omega)⟩
  · rintro _ ⟨l2, f, x, rfl, hd, h0, h1⟩
    simp only [zzS, zzL, zzE, zzA, zzB, zzF, zzI, zzO, lst_rol, frzL_of (isFzL_ints l)]
    exact hQ _ ⟨l, 0, 0, 0, f, rfl, by omega, by omega, by omega, by omega, h0, by omega⟩
  · exact ⟨l, 0, _, rfl, rfl, by omega, by omega⟩
theorem ne_ii (i j : Int) : gNeX eqs_3 (.int i) (.int j) = some (.bl (!decide (i = j))) := gNeX_q (gNeQ_pl (gNe_ii i j))
theorem it_tup (xs : List D) : gIsA csI tbI (.nd .tup xs) (.ty "tuple") = some (.bl true) := by kernel_rfl
theorem ne_nil : gNeX eqs_3 (.nd (.lst false) []) (.nd (.lst false) []) = some (.bl false) := by kernel_rfl
def m0 : Mv := ⟨0, [], 0, 0⟩
def bP (b : Bk) : Bk := ⟨b.sides, b.mv ++ [m0], b.gl⟩
def bQ (b : Bk) : Bk := ⟨b.sides.map fun s => 1 - s, b.mv, b.gl⟩
theorem bP_V {b : Bk} (hb : b.V) (h : b.mv.length ≤ 20) : (bP b).V := by
  have h0 := hb.s0
  refine ⟨hb.s0, hb.s4, hb.s01, fun m hm => ?_, hb.gl, ?_, hb.g2⟩
  · obtain hm | hm := List.mem_append.mp hm
    · exact hb.mv m hm
    · cases List.mem_singleton.mp hm
      exact ⟨Int.le_refl 0, by show (0 : Int) < (b.sides.length : Int); omega, ⟨Nat.zero_le _, fun x h => (List.not_mem_nil h).elim⟩, Int.le_refl 0, by show (0 : Int) < (b.sides.length : Int); omega⟩
  · show (b.mv ++ [m0]).length ≤ 21
    rw [List.length_append]
    (simp only [List.length_cons, List.length_nil])
    omega
theorem bQ_V {b : Bk} (hb : b.V) : (bQ b).V := by
  have e : (bQ b).sides.length = b.sides.length := List.length_map _
  refine ⟨by rw [e]; exact hb.s0, by rw [e]; exact hb.s4, fun s hs => ?_, by rw [e]; exact hb.mv, by rw [e]; exact hb.gl, hb.m20, hb.g2⟩
  obtain ⟨x, hx, rfl⟩ := List.mem_map.mp hs
  rcases hb.s01 x hx with rfl | rfl
  · exact .inr rfl
  · exact .inl rfl
theorem bQ_ne {b : Bk} (hb : b.V) : b.sides ≠ (bQ b).sides := by
  have h0 := hb.s0
  show b.sides ≠ b.sides.map fun s => 1 - s
  intro h
  cases e : b.sides with
  | nil => rw [e] at h0; exact absurd h0 (by decide)
  | cons a r =>
    rw [e] at h
    (simp only [List.map_cons, List.cons.injEq] at h)
    have h1 := h.1
    omega
theorem bP_d (b : Bk) : D.nd (.dk true [(.inr "sides"), (.inr "moves"), (.inr "goals")]) [.nd (.lst false) (b.sides.map D.int), .nd (.lst false) ((b.mv ++ [m0]).map Mv.d), .nd (.lst false) (b.gl.map Gl.d)] = (bP b).d true := rfl
theorem add_m0 {b : Bk} (h : b.mv.length ≤ 20) : gAdd (.nd (.lst false) (b.mv.map Mv.d)) (.nd (.lst true) [.nd .tup [.int 0, .nd .tup [], .int 0, .int 0]]) = some (.nd (.lst true) ((b.mv ++ [m0]).map Mv.d)) := by
  have e := add_l (o := false) (o2 := true) (xs := b.mv.map Mv.d) (ys := [.nd .tup [.int 0, .nd .tup [], .int 0, .int 0]]) (by simp only [List.length_map, List.length_cons, List.length_nil]; omega) (isFzL_map _ isFz_mv _) rfl
  rw [e, List.map_append]
  rfl
def gC : D := .nd .tup [.nd .tup [.str "least", .int 2], .nd .tup [.str "rest", .int 3, .int 1]]
def gC2 : D := .nd .tup [.nd .tup [.str "is", .int 3]]
theorem k1 : d_Move_init [.nd (.ob true "Move" []) [], .int 0, .nd (.lst true) [.nd (.lst true) [.str "least", .int 2], .nd .tup [.str "rest", .int 3, .int 1]], .int 5, .int 1] = .ok .non [mvD true (.int 0) gC (.int 5) (.int 1), .nd (.lst true) [.nd (.lst false) [.str "least", .int 2], .nd .tup [.str "rest", .int 3, .int 1]]] := by kernel_rfl
theorem k2 : d_Move_init [.nd (.ob true "Move" []) [], .int 0, .nd .tup [.nd .tup [.str "least", .int 2], .nd .tup [.str "rest", .int 3, .int 1]], .int 5, .int 1] = .ok .non [mvD true (.int 0) gC (.int 5) (.int 1), gC] := by kernel_rfl
theorem k3 : d_Goal_init [.nd (.ob true "Goal" []) [], .int 0, gC] = .ok .non [glD true (.int 0) gC] := by kernel_rfl
theorem k4 : d_Goal_init [.nd (.ob true "Goal" []) [], .int 1, .nd (.lst false) [.nd (.lst false) [.str "is", .int 3]]] = .ok .non [glD true (.int 1) gC2] := by kernel_rfl
theorem k5 : d_Goal_init [.nd (.ob true "Goal" []) [], .int 1, .nd .tup [.nd .tup [.str "is", .int 3]]] = .ok .non [glD true (.int 1) gC2] := by kernel_rfl
theorem k6 : d_Move_init [.nd (.ob true "Move" []) [], .int 0, .nd .tup [], .int 5, .int 1] = .ok .non [mvD true (.int 0) (.nd .tup []) (.int 5) (.int 1), .nd .tup []] := by kernel_rfl
def kM (o : Bool) : D := mvD o (.int 0) gC (.int 5) (.int 1)
theorem q1 : gNeX eqs_3 gC (.nd .tup [.nd .tup [.str "least", .int 2], .nd .tup [.str "rest", .int 3, .int 1]]) = some (.bl false) := by kernel_rfl
theorem q2 : gNeX eqs_3 (mvD false (.int 0) gC (.int 5) (.int 1)) (mvD false (.int 0) gC (.int 5) (.int 1)) = some (.bl false) := by kernel_rfl
theorem q3 : gEqX (gIsA csI tbI) eqs_3 dcs (mvD false (.int 0) gC (.int 5) (.int 1)) (glD false (.int 0) gC) = some (.bl false) := by kernel_rfl
theorem q4 : gNeX eqs_3 (glD false (.int 1) gC2) (glD false (.int 1) gC2) = some (.bl false) := by kernel_rfl
theorem q5 : gEqX (gIsA csI tbI) eqs_3 dcs (mvD false (.int 0) gC (.int 5) (.int 1)) (mvD false (.int 0) (.nd .tup []) (.int 5) (.int 1)) = some (.bl false) := by kernel_rfl
theorem gC_fz : isFz gC = true := rfl
theorem gC2_fz : isFz gC2 = true := rfl
theorem gC_un : isUn gC = false := rfl
theorem cool_gC : cool gC = gC := cool_fz rfl
theorem fz_k1 (a c s t : D) : isFz (mvD true a c s t) = false := rfl
theorem fz_g1 (a c : D) : isFz (glD true a c) = false := rfl
theorem frz_gC : frz gC = gC := frz_of rfl
theorem cool_kM : cool (mvD true (.int 0) gC (.int 5) (.int 1)) = mvD false (.int 0) gC (.int 5) (.int 1) := (if_neg (by decide)).trans (mvD_frz rfl rfl rfl rfl)
theorem cool_kM0 : cool (mvD false (.int 0) gC (.int 5) (.int 1)) = mvD false (.int 0) gC (.int 5) (.int 1) := cool_fz rfl
theorem cool_k0 : cool (mvD true (.int 0) (.nd .tup []) (.int 5) (.int 1)) = mvD false (.int 0) (.nd .tup []) (.int 5) (.int 1) := (if_neg (by decide)).trans (mvD_frz rfl rfl rfl rfl)
theorem cool_g0 : cool (glD true (.int 0) gC) = glD false (.int 0) gC := (if_neg (by decide)).trans (glD_frz rfl rfl)
theorem cool_g1 : cool (glD true (.int 1) gC2) = glD false (.int 1) gC2 := (if_neg (by decide)).trans (glD_frz rfl rfl)
theorem law_use (ns : List Int) : TF (d_law [.nd .rol (ns.map D.int)]) (fun d bk => d = .bl true) xF := by
  unfold d_law b_law
  simp only [zzS, zzL, zzE, zzA, zzB, zzF, zzI, zzO, rol_fz, cool_fz rol_fz]
  refine pen_use fun p hp => ?_
  simp only [zzS, zzL, zzE, zzA, zzB, zzF, zzI, zzO, hp.un]
  refine book_use (n := 10000) (hp.less (by omega)) fun b p hb h20 hp => ?_
  have m20 := hb.m20
  have hg2 := hb.g2
  have s0 := hb.s0
  have z1 : isFzL (b.mv.map (Mv.o false)) = true := isFzL_map _ fz_mo _
  have z2 : isFzL (b.gl.map (Gl.o false)) = true := isFzL_map _ fz_go _
  have z3 : isFzL (b.sides.map D.int) = true := isFzL_ints _
  simp only [zzS, zzL, zzE, zzA, zzB, zzF, zzI, zzO, hp.un, cool_bd1, fz_bd1, frz_bd]
  refine made_bk (n := 9000) b hb (hp.less (by omega)) fun p hp => ?_
  simp only [zzS, zzL, zzE, zzA, zzB, zzF, zzI, zzO, hp.un, cool_bd1, fz_bd1, frz_bd, cool_bo1, fz_bo1, frz_bo]
  refine told_use b (by omega) (by omega) ?_
  simp only [zzS, zzL, zzE, zzA, zzB, zzF, zzI, zzO, hp.un, cool_bd1, fz_bd1, frz_bd, cool_bo1, fz_bo1, frz_bo, dict_ne]
  simp only [zzS, zzL, zzE, zzA, zzB, zzF, zzI, zzO, hp.un, cool_bd1, fz_bd1, frz_bd, cool_bo1, fz_bo1, frz_bo, bf_places, bf_sides, bf_moves, bf_goals, bd_sides, bd_moves, bd_goals, len_lst, List.length_map, ne_ii, it_tup, z1, z2, z3, items_tup z1, cool_tup z1]
  refine T_comp (fun ds acc e => ∃ (l : List Mv), e = [.nd .rol (ns.map D.int), p, b.d false, b.o false, .un, .un, .un, .un, .un] ∧ ds = l.map (Mv.o false) ∧ acc = []) ?_ ?_ ?_
  · rintro d r acc _ ⟨l, rfl, e2, rfl⟩
    cases l with
    | nil => cases e2
    | cons m l =>
      cases e2
      have ic : gIsA csI tbI (cnsD m.cs) (.ty "tuple") = some (.bl true) := it_tup _
      simp only [zzS, zzL, zzE, zzA, zzB, zzF, zzI, zzO, hp.un, cool_bd1, fz_bd1, frz_bd, cool_bo1, fz_bo1, frz_bo, bf_places, bf_sides, bf_moves, bf_goals, bd_sides, bd_moves, bd_goals, len_lst, List.length_map, ne_ii, it_tup, z1, z2, z3, mf_conds, ic, fz_mo]
      exact ⟨l, rfl⟩
  · rintro acc _ ⟨l, rfl, e2, rfl⟩
    cases l with
    | cons m l => cases e2
    | nil =>
      simp only [zzS, zzL, zzE, zzA, zzB, zzF, zzI, zzO, hp.un, cool_bd1, fz_bd1, frz_bd, cool_bo1, fz_bo1, frz_bo, bf_places, bf_sides, bf_moves, bf_goals, bd_sides, bd_moves, bd_goals, len_lst, List.length_map, ne_ii, it_tup, z1, z2, z3, ne_nil]
      refine made_bk (n := 8800) b hb (hp.less (by omega)) fun p hp => ?_
      simp only [zzS, zzL, zzE, zzA, zzB, zzF, zzI, zzO, hp.un, cool_bd1, fz_bd1, frz_bd, cool_bo1, fz_bo1, frz_bo, bf_places, bf_sides, bf_moves, bf_goals, bd_sides, bd_moves, bd_goals, len_lst, List.length_map, ne_ii, it_tup, z1, z2, z3, bo_eq]
      simp only [zzS, zzL, zzE, zzA, zzB, zzF, zzI, zzO, hp.un, cool_bd1, fz_bd1, frz_bd, cool_bo1, fz_bo1, frz_bo, bf_places, bf_sides, bf_moves, bf_goals, bd_sides, bd_moves, bd_goals, len_lst, List.length_map, ne_ii, it_tup, z1, z2, z3, bo_dict]
      refine made_bk (n := 8600) b hb (hp.less (by omega)) fun p hp => ?_
      simp only [zzS, zzL, zzE, zzA, zzB, zzF, zzI, zzO, hp.un, cool_bd1, fz_bd1, frz_bd, cool_bo1, fz_bo1, frz_bo, bf_places, bf_sides, bf_moves, bf_goals, bd_sides, bd_moves, bd_goals, len_lst, List.length_map, ne_ii, it_tup, z1, z2, z3, bo_ne]
      simp only [zzS, zzL, zzE, zzA, zzB, zzF, zzI, zzO, hp.un, cool_bd1, fz_bd1, frz_bd, cool_bo1, fz_bo1, frz_bo, bf_places, bf_sides, bf_moves, bf_goals, bd_sides, bd_moves, bd_goals, len_lst, List.length_map, ne_ii, it_tup, z1, z2, z3, cool_t0, add_m0 h20, bP_d]
      have zGl : isFzL (b.gl.map Gl.d) = true := isFzL_map _ isFz_gl _
      have zM : isFzL ((b.mv ++ [m0]).map Mv.d) = true := isFzL_map _ isFz_mv _
      simp only [zzS, zzL, zzE, zzA, zzB, zzF, zzI, zzO, hp.un, cool_bd1, fz_bd1, frz_bd, cool_bo1, fz_bo1, frz_bo, bf_places, bf_sides, bf_moves, bf_goals, bd_sides, bd_moves, bd_goals, len_lst, List.length_map, ne_ii, it_tup, z1, z2, z3, cool_lst zM, frzL_of zM, cool_lst zGl, frzL_of zGl, cool_lst z3, frzL_of z3, bP_d]
      refine made_bk (n := 8400) (bP b) (bP_V hb h20) (hp.less (by omega)) fun p hp => ?_
      have nP : gEqX (gIsA csI tbI) eqs_3 dcs (b.o false) ((bP b).o false) = some (.bl false) := bo_no (b := b) (b' := bP b) (.inl ⟨rfl, m0, rfl⟩)
      have nQ : gEqX (gIsA csI tbI) eqs_3 dcs (b.o false) ((bQ b).o false) = some (.bl false) := bo_no (b := b) (b' := bQ b) (.inr (bQ_ne hb))
      simp only [zzS, zzL, zzE, zzA, zzB, zzF, zzI, zzO, hp.un, cool_bd1, fz_bd1, frz_bd, cool_bo1, fz_bo1, frz_bo, bf_places, bf_sides, bf_moves, bf_goals, bd_sides, bd_moves, bd_goals, len_lst, List.length_map, ne_ii, it_tup, z1, z2, z3, cool_lst zM, frzL_of zM, cool_lst zGl, frzL_of zGl, cool_lst z3, frzL_of z3, bP_d, zM, zGl, cool_tup z1, cool_tup z2, cool_tup z3, items_tup z3, nP]
      refine T_comp (fun ds acc e => ∃ (l r : List Int), e = [.nd .rol (ns.map D.int), p, b.d false, b.o false, (bP b).d false, .un, .un, .un, .un] ∧ b.sides = l ++ r ∧ ds = r.map D.int ∧ acc = (l.map fun s => 1 - s).map D.int) ?_ ?_ ?_
      · rintro d r acc _ ⟨l, r2, rfl, e1, e2, rfl⟩
        cases r2 with
        | nil => cases e2
        | cons s r2 =>
          cases e2
          have hl := congrArg List.length e1
          have s4 := hb.s4
          simp only [List.length_append, List.length_cons] at hl
          simp only [zzS, zzL, zzE, zzA, zzB, zzF, zzI, zzO, hp.un, cool_bd1, fz_bd1, frz_bd, cool_bo1, fz_bo1, frz_bo, bf_places, bf_sides, bf_moves, bf_goals, bd_sides, bd_moves, bd_goals, len_lst, List.length_map, ne_ii, it_tup, z1, z2, z3, cool_lst zM, frzL_of zM, cool_lst zGl, frzL_of zGl, cool_lst z3, frzL_of z3, bP_d, zM, zGl, cool_tup z1, cool_tup z2, cool_tup z3, items_tup z3]
          exact ⟨by omega, l ++ [s], r2, by rw [e1]; simp, rfl, by simp⟩
      · rintro acc _ ⟨l, r2, rfl, e1, e2, rfl⟩
        cases r2 with
        | cons s r2 => cases e2
        | nil =>
          rw [List.append_nil] at e1
          subst e1
          have zQ : isFzL ((b.sides.map fun s => 1 - s).map D.int) = true := isFzL_ints _
          simp only [zzS, zzL, zzE, zzA, zzB, zzF, zzI, zzO, hp.un, cool_bd1, fz_bd1, frz_bd, cool_bo1, fz_bo1, frz_bo, bf_places, bf_sides, bf_moves, bf_goals, bd_sides, bd_moves, bd_goals, len_lst, List.length_map, ne_ii, it_tup, z1, z2, z3, cool_lst zM, frzL_of zM, cool_lst zGl, frzL_of zGl, cool_lst z3, frzL_of z3, bP_d, zM, zGl, cool_tup z1, cool_tup z2, cool_tup z3, items_tup z3, cool_lst zQ]
          refine bk_init (b := bQ b) (bQ_V hb) (b1 := false) (b2 := true) (b3 := true) ?_
          simp only [zzS, zzL, zzE, zzA, zzB, zzF, zzI, zzO, hp.un, cool_bd1, fz_bd1, frz_bd, cool_bo1, fz_bo1, frz_bo, bf_places, bf_sides, bf_moves, bf_goals, bd_sides, bd_moves, bd_goals, len_lst, List.length_map, ne_ii, it_tup, z1, z2, z3, TF_ok, k1, k2, k3, k4, k5, k6, q1, q2, q3, q4, q5, mvD_frzU, mvD_fzU, glD_frzU, glD_fzU, mvD_un, glD_un, gC_fz, gC2_fz, gC_un, cool_gC, md_conds gC_fz, cool_kM, cool_kM0, cool_k0, cool_g0, cool_g1, cool_t0, fz_k1, fz_g1, frz_gC, nQ]
          refine faults_use (n := 1000) hb (hp.less (by omega)) fun p hp => ?_
          simp only [zzS, zzL, zzE, zzA, zzB, zzF, zzI, zzO]
      · exact ⟨[], b.sides, rfl, rfl, rfl, rfl⟩
  · exact ⟨b.mv, rfl, rfl, rfl⟩
theorem pure_law (ns : List Int) : ∃ bk, d_law [.nd .rol (ns.map D.int)] = .ok (.bl true) bk := by
  obtain ⟨d, bk, e, rfl⟩ := TF.out (law_use ns)
  exact ⟨bk, e⟩
end Lw
set_option maxHeartbeats 0
namespace Lw
open PySem PySem.Spec PyProof.Rows L2 PI
def dD_law_pen : He.DefD := ⟨("_law_pen", none), "_law_pen", "_law_pen", defArgs s_law_pen, defBody s_law_pen, defScope s_law_pen, [], []⟩
def dD_law_draw : He.DefD := ⟨("_law_draw", none), "_law_draw", "_law_draw", defArgs s_law_draw, defBody s_law_draw, defScope s_law_draw, [], []⟩
def dD_law_pick : He.DefD := ⟨("_law_pick", none), "_law_pick", "_law_pick", defArgs s_law_pick, defBody s_law_pick, defScope s_law_pick, [], []⟩
def dD_law_taking_book : He.DefD := ⟨("_law_taking_book", none), "_law_taking_book", "_law_taking_book", defArgs s_law_taking_book, defBody s_law_taking_book, defScope s_law_taking_book, [], []⟩
def dD_law_some_condition : He.DefD := ⟨("_law_some_condition", none), "_law_some_condition", "_law_some_condition", defArgs s_law_some_condition, defBody s_law_some_condition, defScope s_law_some_condition, [], []⟩
def dD_law_some_conditions : He.DefD := ⟨("_law_some_conditions", none), "_law_some_conditions", "_law_some_conditions", defArgs s_law_some_conditions, defBody s_law_some_conditions, defScope s_law_some_conditions, [], []⟩
def dD_law_some_book : He.DefD := ⟨("_law_some_book", none), "_law_some_book", "_law_some_book", defArgs s_law_some_book, defBody s_law_some_book, defScope s_law_some_book, [], []⟩
def dD_law_drawn_book : He.DefD := ⟨("_law_drawn_book", none), "_law_drawn_book", "_law_drawn_book", defArgs s_law_drawn_book, defBody s_law_drawn_book, defScope s_law_drawn_book, [], []⟩
def dD_is_row : He.DefD := ⟨("is_row", none), "is_row", "is_row", defArgs s_is_row, defBody s_is_row, defScope s_is_row, [], []⟩
def dD_BadBook_init : He.DefD := ⟨("BadBook", some "__init__"), "__init__", "BadBook.__init__", defArgs s_BadBook_init, defBody s_BadBook_init, defScope s_BadBook_init, [], []⟩
def dD_as_tuples : He.DefD := ⟨("as_tuples", none), "as_tuples", "as_tuples", defArgs s_as_tuples, defBody s_as_tuples, defScope s_as_tuples, [], []⟩
def dD_Move_init : He.DefD := ⟨("Move", some "__init__"), "__init__", "Move.__init__", defArgs s_Move_init, defBody s_Move_init, defScope s_Move_init, [], []⟩
def dD_is_int : He.DefD := ⟨("is_int", none), "is_int", "is_int", defArgs s_is_int, defBody s_is_int, defScope s_is_int, [], []⟩
def dD_is_place_of : He.DefD := ⟨("is_place_of", none), "is_place_of", "is_place_of", defArgs s_is_place_of, defBody s_is_place_of, defScope s_is_place_of, [], []⟩
def dD_is_condition : He.DefD := ⟨("is_condition", none), "is_condition", "is_condition", defArgs s_is_condition, defBody s_is_condition, defScope s_is_condition, [], []⟩
def dD_are_conditions : He.DefD := ⟨("are_conditions", none), "are_conditions", "are_conditions", defArgs s_are_conditions, defBody s_are_conditions, defScope s_are_conditions, [], []⟩
def dD_is_move_of : He.DefD := ⟨("is_move_of", none), "is_move_of", "is_move_of", defArgs s_is_move_of, defBody s_is_move_of, defScope s_is_move_of, [], []⟩
def dD_Goal_init : He.DefD := ⟨("Goal", some "__init__"), "__init__", "Goal.__init__", defArgs s_Goal_init, defBody s_Goal_init, defScope s_Goal_init, [], []⟩
def dD_is_goal_of : He.DefD := ⟨("is_goal_of", none), "is_goal_of", "is_goal_of", defArgs s_is_goal_of, defBody s_is_goal_of, defScope s_is_goal_of, [], []⟩
def dD_check_items : He.DefD := ⟨("check_items", none), "check_items", "check_items", defArgs s_check_items, defBody s_check_items, defScope s_check_items, [], []⟩
def dD_Book_init : He.DefD := ⟨("Book", some "__init__"), "__init__", "Book.__init__", defArgs s_Book_init, defBody s_Book_init, defScope s_Book_init, [], []⟩
def dD_law_listed : He.DefD := ⟨("_law_listed", none), "_law_listed", "_law_listed", defArgs s_law_listed, defBody s_law_listed, defScope s_law_listed, [], []⟩
def dD_law_made_move : He.DefD := ⟨("_law_made_move", none), "_law_made_move", "_law_made_move", defArgs s_law_made_move, defBody s_law_made_move, defScope s_law_made_move, [], []⟩
def dD_law_made_goal : He.DefD := ⟨("_law_made_goal", none), "_law_made_goal", "_law_made_goal", defArgs s_law_made_goal, defBody s_law_made_goal, defScope s_law_made_goal, [], []⟩
def dD_law_made_book : He.DefD := ⟨("_law_made_book", none), "_law_made_book", "_law_made_book", defArgs s_law_made_book, defBody s_law_made_book, defScope s_law_made_book, [], []⟩
def dD_law_fault : He.DefD := ⟨("_law_fault", none), "_law_fault", "_law_fault", defArgs s_law_fault, defBody s_law_fault, defScope s_law_fault, [], []⟩
def dD_law_bad_conditions : He.DefD := ⟨("_law_bad_conditions", none), "_law_bad_conditions", "_law_bad_conditions", defArgs s_law_bad_conditions, defBody s_law_bad_conditions, defScope s_law_bad_conditions, [], []⟩
def dD_law_bad_moves : He.DefD := ⟨("_law_bad_moves", none), "_law_bad_moves", "_law_bad_moves", defArgs s_law_bad_moves, defBody s_law_bad_moves, defScope s_law_bad_moves, [], []⟩
def dD_law_bad_goals : He.DefD := ⟨("_law_bad_goals", none), "_law_bad_goals", "_law_bad_goals", defArgs s_law_bad_goals, defBody s_law_bad_goals, defScope s_law_bad_goals, [], []⟩
def dD_law_faults_right : He.DefD := ⟨("_law_faults_right", none), "_law_faults_right", "_law_faults_right", defArgs s_law_faults_right, defBody s_law_faults_right, defScope s_law_faults_right, [], []⟩
def dD_law_told_book : He.DefD := ⟨("_law_told_book", none), "_law_told_book", "_law_told_book", defArgs s_law_told_book, defBody s_law_told_book, defScope s_law_told_book, [], []⟩
def dD_Move___eq__ : He.DefD := ⟨("Move", some "__eq__"), "__eq__", "Move.__eq__", defArgs s_Move___eq__, defBody s_Move___eq__, defScope s_Move___eq__, [], []⟩
def dD_Goal___eq__ : He.DefD := ⟨("Goal", some "__eq__"), "__eq__", "Goal.__eq__", defArgs s_Goal___eq__, defBody s_Goal___eq__, defScope s_Goal___eq__, [], []⟩
def dD_Book___eq__ : He.DefD := ⟨("Book", some "__eq__"), "__eq__", "Book.__eq__", defArgs s_Book___eq__, defBody s_Book___eq__, defScope s_Book___eq__, [], []⟩
def dD_law : He.DefD := ⟨("law", none), "law", "law", defArgs s_law, defBody s_law, defScope s_law, [], []⟩
def fnL : List He.DefD := [dD_law_pen, dD_law_draw, dD_law_pick, dD_law_taking_book, dD_law_some_condition, dD_law_some_conditions, dD_law_some_book, dD_law_drawn_book, dD_is_row, dD_BadBook_init, dD_as_tuples, dD_Move_init, dD_is_int, dD_is_place_of, dD_is_condition, dD_are_conditions, dD_is_move_of, dD_Goal_init, dD_is_goal_of, dD_check_items, dD_Book_init, dD_law_listed, dD_law_made_move, dD_law_made_goal, dD_law_made_book, dD_law_fault, dD_law_bad_conditions, dD_law_bad_moves, dD_law_bad_goals, dD_law_faults_right, dD_law_told_book, dD_Move___eq__, dD_Goal___eq__, dD_Book___eq__, dD_law]
def faL : List He.Fa := [.glo "BadBook", .glo "Book", .glo "Goal", .glo "LeadError", .glo "Move", .glo "OTHER_WORDS", .glo "_law_bad_conditions", .glo "_law_bad_goals", .glo "_law_bad_moves", .glo "_law_draw", .glo "_law_drawn_book", .glo "_law_fault", .glo "_law_faults_right", .glo "_law_listed", .glo "_law_made_book", .glo "_law_made_goal", .glo "_law_made_move", .glo "_law_pen", .glo "_law_pick", .glo "_law_some_book", .glo "_law_some_condition", .glo "_law_some_conditions", .glo "_law_taking_book", .glo "_law_told_book", .glo "are_conditions", .glo "as_tuples", .glo "check_items", .glo "is_condition", .glo "is_goal_of", .glo "is_int", .glo "is_move_of", .glo "is_place_of", .glo "is_row", .glo "law", .free "NotImplemented", .free "all", .free "bool", .free "enumerate", .free "int", .free "isinstance", .free "len", .free "list", .free "range", .free "str", .free "tuple"]
def tsL : List He.Tab := [(fun K => gA K "OTHER_WORDS", ["least", "most", "is", "not"])]
def tfL : List He.Defn := [("_law_faults_right", none)]
def exl (K : PySem.W.Frag) : List Bool := [clsB K (gA K "Move"),
  clsB K (gA K "Goal"),
  clsB K (gA K "Book"),
  binB K (gA K "LeadError"),
  dcB K "Book" dcs,
  dcB K "Goal" dcs,
  dcB K "Move" dcs,
  ownEqB K (gA K "Book") (He.fAd K ("Book", some "__eq__")),
  ownEqB K (gA K "Goal") (He.fAd K ("Goal", some "__eq__")),
  ownEqB K (gA K "Move") (He.fAd K ("Move", some "__eq__")),
  noB K (gA K "Book") "goals",
  noB K (gA K "Book") "moves",
  noB K (gA K "Book") "places",
  noB K (gA K "Book") "sides",
  noB K (gA K "Goal") "conditions",
  noB K (gA K "Goal") "place",
  noB K (gA K "Move") "conditions",
  noB K (gA K "Move") "place",
  noB K (gA K "Move") "shift",
  noB K (gA K "Move") "target",
  mkB K (gA K "Book") (He.fAd K ("Book", some "__init__")),
  mkB K (gA K "Goal") (He.fAd K ("Goal", some "__init__")),
  mkB K (gA K "Move") (He.fAd K ("Move", some "__init__")),
  neB K (gA K "Book") (He.fAd K ("Book", some "__eq__")),
  neB K (gA K "Goal") (He.fAd K ("Goal", some "__eq__")),
  neB K (gA K "Move") (He.fAd K ("Move", some "__eq__")),
  oexB K (gA K "BadBook"),
  decide (PySem.W.typeIn K (.ref (He.fAd K ("BadBook", some "__init__"))) = some (.type "function")),
  decide (PySem.W.findIn K (.ref (gA K "BadBook")) "__init__" = some (some (.ref (He.fAd K ("BadBook", some "__init__"))))),
  noB K (gA K "BadBook") "what",
  noB K (gA K "BadBook") "index",
  xfB K (gA K "BadBook"),
  noB K (gA K "BadBook") "index",
  noB K (gA K "BadBook") "what",
  tbL.all (kitB K),
  tEL.all (exmB K),
  csI.all fun c => seenB K (gA K c),
  decide ((tfL.map fun p => (He.cT K p).2).Nodup)]
def exL (K : PySem.W.Frag) : Bool := (exl K).all id
abbrev Rw : PySem.W.OpenRow := PySem.W.OpenLaw.row PySem.Challenge.rw_anylead_k04_books_made_and_refused
abbrev hkL : PySem.W.Hook := PI.hkY 4 faL fnL tsL tfL exL
def obL (s : PySem.W.SharedT) : He.AlX := PI.obY 4 faL fnL tsL tfL exL (HandSHeadRun.getT s)
theorem obL_eq (s : PySem.W.SharedT) : obL s = hkL.obs s.abs := PI.obY_eq (HandSHeadRun.getT_eq s)
def lo0 : List Str := ["LeadError", "BadBook", "is_int", "is_row", "as_tuples", "OTHER_WORDS", "Move", "Goal", "is_condition", "are_conditions", "is_place_of", "is_move_of", "is_goal_of", "check_items", "Book", "_law_pen", "_law_draw", "_law_pick", "_law_some_condition", "_law_some_conditions", "_law_some_book", "_law_taking_book", "_law_drawn_book", "_law_listed", "_law_made_move", "_law_made_goal", "_law_made_book", "_law_told_book", "_law_fault", "_law_bad_conditions"]
def lo1 : List Str := ["_law_bad_moves", "_law_bad_goals", "_law_faults_right"]
def loL : List Str := lo0 ++ lo1
theorem runL_false (w : World) : HandSHeadRun.RunEq Rw (PySem.W.view Rw.prog [37]) hkL obL 9000 loL (w.withFollow "special-get-raises" false) := by
  intro os
  kernel_rfl
theorem runL_true (w : World) : HandSHeadRun.RunEq Rw (PySem.W.view Rw.prog [37]) hkL obL 9000 loL (w.withFollow "special-get-raises" true) := by
  intro os
  kernel_rfl
theorem runL (w : World) : HandSHeadRun.RunEq Rw (PySem.W.view Rw.prog [37]) hkL obL 9000 loL w := PySem.W.byRow2 "special-get-raises" (P := fun w => HandSHeadRun.RunEq Rw (PySem.W.view Rw.prog [37]) hkL obL 9000 loL w) runL_false runL_true w
def tabL (K : PySem.W.Frag) : List (Addr × Str) := [((He.cT K ("_law_faults_right", none)).2, ("_law_faults_right" : Str) ++ ".<locals>." ++ "<lambda>")]
theorem fx_of [Tb] {w : World} {K : PySem.W.Frag} {h base : Heap} {mg : Str → Option Value} (X : K.In h) (G : h.Ns mainGlobals mg) (c : He.SaysX faL fnL tsL tfL exL w h K) (hT : Tb.T = tabL K) (hTB : ∀ p ∈ tfL.map (He.cT K), LamX.TabB base mg p.1 p.2) : Fx w K mg base := by
  have hcs := gloAll_ok (mg := mg) (K := K) (cs := csI) ⟨(He.glo_ok X G (c.t.d.fact 4 rfl)), (He.glo_ok X G (c.t.d.fact 2 rfl)), (He.glo_ok X G (c.t.d.fact 1 rfl)), trivial⟩
  have hds := gloAll_ok (mg := mg) (K := K) (cs := dcs) ⟨(He.glo_ok X G (c.t.d.fact 4 rfl)), (He.glo_ok X G (c.t.d.fact 2 rfl)), (He.glo_ok X G (c.t.d.fact 1 rfl)), trivial⟩
  have nd : (tfL.map fun p => (He.cT K p).2).Nodup := of_decide_eq_true (ex_at c.more 37 rfl)
  have uq : ∀ (i : Nat) {a : Addr × Str}, (tabL K)[i]? = some a → ∀ p ∈ tabL K, p.1 = a.1 → p.2 = a.2 := fun i a h p hp e => by
    rw [nd_eq (l := tabL K) nd hp (List.mem_of_getElem? h) e]
  exact {
    b_LeadError := binB_ok (ex_at c.more 3 rfl)
    dc_Book := dcFact_of (He.glo_ok X G (c.t.d.fact 1 rfl)) (ex_at c.more 4 rfl) hds
    dc_Goal := dcFact_of (He.glo_ok X G (c.t.d.fact 2 rfl)) (ex_at c.more 5 rfl) hds
    dc_Move := dcFact_of (He.glo_ok X G (c.t.d.fact 4 rfl)) (ex_at c.more 6 rfl) hds
    eq_Book := eqFact_of (He.glo_ok X G (c.t.d.fact 1 rfl)) (ex_at c.more 7 rfl)
    eq_Goal := eqFact_of (He.glo_ok X G (c.t.d.fact 2 rfl)) (ex_at c.more 8 rfl)
    eq_Move := eqFact_of (He.glo_ok X G (c.t.d.fact 4 rfl)) (ex_at c.more 9 rfl)
    f_BadBook := (He.glo_ok X G (c.t.d.fact 0 rfl))
    f_Book := (He.glo_ok X G (c.t.d.fact 1 rfl))
    f_Goal := (He.glo_ok X G (c.t.d.fact 2 rfl))
    f_LeadError := (He.glo_ok X G (c.t.d.fact 3 rfl))
    f_Move := (He.glo_ok X G (c.t.d.fact 4 rfl))
    f_OTHER_WORDS := (He.glo_ok X G (c.t.d.fact 5 rfl))
    f_law_bad_conditions := (He.glo_ok X G (c.t.d.fact 6 rfl))
    f_law_bad_goals := (He.glo_ok X G (c.t.d.fact 7 rfl))
    f_law_bad_moves := (He.glo_ok X G (c.t.d.fact 8 rfl))
    f_law_draw := (He.glo_ok X G (c.t.d.fact 9 rfl))
    f_law_drawn_book := (He.glo_ok X G (c.t.d.fact 10 rfl))
    f_law_fault := (He.glo_ok X G (c.t.d.fact 11 rfl))
    f_law_faults_right := (He.glo_ok X G (c.t.d.fact 12 rfl))
    f_law_listed := (He.glo_ok X G (c.t.d.fact 13 rfl))
    f_law_made_book := (He.glo_ok X G (c.t.d.fact 14 rfl))
    f_law_made_goal := (He.glo_ok X G (c.t.d.fact 15 rfl))
    f_law_made_move := (He.glo_ok X G (c.t.d.fact 16 rfl))
    f_law_pen := (He.glo_ok X G (c.t.d.fact 17 rfl))
    f_law_pick := (He.glo_ok X G (c.t.d.fact 18 rfl))
    f_law_some_book := (He.glo_ok X G (c.t.d.fact 19 rfl))
    f_law_some_condition := (He.glo_ok X G (c.t.d.fact 20 rfl))
    f_law_some_conditions := (He.glo_ok X G (c.t.d.fact 21 rfl))
    f_law_taking_book := (He.glo_ok X G (c.t.d.fact 22 rfl))
    f_law_told_book := (He.glo_ok X G (c.t.d.fact 23 rfl))
    f_are_conditions := (He.glo_ok X G (c.t.d.fact 24 rfl))
    f_as_tuples := (He.glo_ok X G (c.t.d.fact 25 rfl))
    f_check_items := (He.glo_ok X G (c.t.d.fact 26 rfl))
    f_is_condition := (He.glo_ok X G (c.t.d.fact 27 rfl))
    f_is_goal_of := (He.glo_ok X G (c.t.d.fact 28 rfl))
    f_is_int := (He.glo_ok X G (c.t.d.fact 29 rfl))
    f_is_move_of := (He.glo_ok X G (c.t.d.fact 30 rfl))
    f_is_place_of := (He.glo_ok X G (c.t.d.fact 31 rfl))
    f_is_row := (He.glo_ok X G (c.t.d.fact 32 rfl))
    f_law := (He.glo_ok X G (c.t.d.fact 33 rfl))
    a_Book_goals := fld_ok (He.glo_ok X G (c.t.d.fact 1 rfl)) (ex_at c.more 2 rfl) (ex_at c.more 10 rfl)
    a_Book_moves := fld_ok (He.glo_ok X G (c.t.d.fact 1 rfl)) (ex_at c.more 2 rfl) (ex_at c.more 11 rfl)
    a_Book_places := fld_ok (He.glo_ok X G (c.t.d.fact 1 rfl)) (ex_at c.more 2 rfl) (ex_at c.more 12 rfl)
    a_Book_sides := fld_ok (He.glo_ok X G (c.t.d.fact 1 rfl)) (ex_at c.more 2 rfl) (ex_at c.more 13 rfl)
    a_Goal_conditions := fld_ok (He.glo_ok X G (c.t.d.fact 2 rfl)) (ex_at c.more 1 rfl) (ex_at c.more 14 rfl)
    a_Goal_place := fld_ok (He.glo_ok X G (c.t.d.fact 2 rfl)) (ex_at c.more 1 rfl) (ex_at c.more 15 rfl)
    a_Move_conditions := fld_ok (He.glo_ok X G (c.t.d.fact 4 rfl)) (ex_at c.more 0 rfl) (ex_at c.more 16 rfl)
    a_Move_place := fld_ok (He.glo_ok X G (c.t.d.fact 4 rfl)) (ex_at c.more 0 rfl) (ex_at c.more 17 rfl)
    a_Move_shift := fld_ok (He.glo_ok X G (c.t.d.fact 4 rfl)) (ex_at c.more 0 rfl) (ex_at c.more 18 rfl)
    a_Move_target := fld_ok (He.glo_ok X G (c.t.d.fact 4 rfl)) (ex_at c.more 0 rfl) (ex_at c.more 19 rfl)
    m_NotImplemented := He.free_ok X G (c.t.d.fact 34 rfl)
    m_all := He.free_ok X G (c.t.d.fact 35 rfl)
    m_bool := He.free_ok X G (c.t.d.fact 36 rfl)
    m_enumerate := He.free_ok X G (c.t.d.fact 37 rfl)
    m_int := He.free_ok X G (c.t.d.fact 38 rfl)
    m_isinstance := He.free_ok X G (c.t.d.fact 39 rfl)
    m_len := He.free_ok X G (c.t.d.fact 40 rfl)
    m_list := He.free_ok X G (c.t.d.fact 41 rfl)
    m_range := He.free_ok X G (c.t.d.fact 42 rfl)
    m_str := He.free_ok X G (c.t.d.fact 43 rfl)
    m_tuple := He.free_ok X G (c.t.d.fact 44 rfl)
    mk_Book := ⟨_, (He.glo_ok X G (c.t.d.fact 1 rfl)), mkB_ok (ex_at c.more 20 rfl)⟩
    mk_Goal := ⟨_, (He.glo_ok X G (c.t.d.fact 2 rfl)), mkB_ok (ex_at c.more 21 rfl)⟩
    mk_Move := ⟨_, (He.glo_ok X G (c.t.d.fact 4 rfl)), mkB_ok (ex_at c.more 22 rfl)⟩
    ne_Book := neFact_of (He.glo_ok X G (c.t.d.fact 1 rfl)) (ex_at c.more 23 rfl)
    ne_Goal := neFact_of (He.glo_ok X G (c.t.d.fact 2 rfl)) (ex_at c.more 24 rfl)
    ne_Move := neFact_of (He.glo_ok X G (c.t.d.fact 4 rfl)) (ex_at c.more 25 rfl)
    x_BadBook := ⟨oexB_ok (ex_at c.more 26 rfl), of_decide_eq_true (ex_at c.more 27 rfl), of_decide_eq_true (ex_at c.more 28 rfl), of_decide_eq_true (ex_at c.more 29 rfl), of_decide_eq_true (ex_at c.more 30 rfl)⟩
    xf_BadBook_index := xf_ok (He.glo_ok X G (c.t.d.fact 0 rfl)) (ex_at c.more 31 rfl) (ex_at c.more 32 rfl)
    xf_BadBook_what := xf_ok (He.glo_ok X G (c.t.d.fact 0 rfl)) (ex_at c.more 31 rfl) (ex_at c.more 33 rfl)
    d_law_pen := c.t.d.def_ 0 (d := dD_law_pen) rfl
    d_law_draw := c.t.d.def_ 1 (d := dD_law_draw) rfl
    d_law_pick := c.t.d.def_ 2 (d := dD_law_pick) rfl
    d_law_taking_book := c.t.d.def_ 3 (d := dD_law_taking_book) rfl
    d_law_some_condition := c.t.d.def_ 4 (d := dD_law_some_condition) rfl
    d_law_some_conditions := c.t.d.def_ 5 (d := dD_law_some_conditions) rfl
    d_law_some_book := c.t.d.def_ 6 (d := dD_law_some_book) rfl
    d_law_drawn_book := c.t.d.def_ 7 (d := dD_law_drawn_book) rfl
    d_is_row := c.t.d.def_ 8 (d := dD_is_row) rfl
    d_BadBook_init := c.t.d.def_ 9 (d := dD_BadBook_init) rfl
    d_as_tuples := c.t.d.def_ 10 (d := dD_as_tuples) rfl
    d_Move_init := c.t.d.def_ 11 (d := dD_Move_init) rfl
    d_is_int := c.t.d.def_ 12 (d := dD_is_int) rfl
    d_is_place_of := c.t.d.def_ 13 (d := dD_is_place_of) rfl
    d_is_condition := c.t.d.def_ 14 (d := dD_is_condition) rfl
    d_are_conditions := c.t.d.def_ 15 (d := dD_are_conditions) rfl
    d_is_move_of := c.t.d.def_ 16 (d := dD_is_move_of) rfl
    d_Goal_init := c.t.d.def_ 17 (d := dD_Goal_init) rfl
    d_is_goal_of := c.t.d.def_ 18 (d := dD_is_goal_of) rfl
    d_check_items := c.t.d.def_ 19 (d := dD_check_items) rfl
    d_Book_init := c.t.d.def_ 20 (d := dD_Book_init) rfl
    d_law_listed := c.t.d.def_ 21 (d := dD_law_listed) rfl
    d_law_made_move := c.t.d.def_ 22 (d := dD_law_made_move) rfl
    d_law_made_goal := c.t.d.def_ 23 (d := dD_law_made_goal) rfl
    d_law_made_book := c.t.d.def_ 24 (d := dD_law_made_book) rfl
    d_law_fault := c.t.d.def_ 25 (d := dD_law_fault) rfl
    d_law_bad_conditions := c.t.d.def_ 26 (d := dD_law_bad_conditions) rfl
    d_law_bad_moves := c.t.d.def_ 27 (d := dD_law_bad_moves) rfl
    d_law_bad_goals := c.t.d.def_ 28 (d := dD_law_bad_goals) rfl
    d_law_faults_right := c.t.d.def_ 29 (d := dD_law_faults_right) rfl
    d_law_told_book := c.t.d.def_ 30 (d := dD_law_told_book) rfl
    d_Move___eq__ := c.t.d.def_ 31 (d := dD_Move___eq__) rfl
    d_Goal___eq__ := c.t.d.def_ 32 (d := dD_Goal___eq__) rfl
    d_Book___eq__ := c.t.d.def_ 33 (d := dD_Book___eq__) rfl
    d_law := c.t.d.def_ 34 (d := dD_law) rfl
    l_law_faults_right := ⟨(He.cT K ("_law_faults_right", none)).1, (He.cT K ("_law_faults_right", none)).2, fun fd F => code_at F, hTB _ (List.mem_of_getElem? (i := 0) rfl), by rw [hT]; exact List.mem_of_getElem? (i := 0) rfl, by rw [hT]; exact uq 0 rfl⟩
    exm := exm_ok (cs := ["LeadError", "BadBook"]) (ex_at c.more 35 rfl) (by decide +kernel) (gloAll_ok ⟨(He.glo_ok X G (c.t.d.fact 3 rfl)), (He.glo_ok X G (c.t.d.fact 0 rfl)), trivial⟩)
    isi := kit_ok (cs := csI) (ex_at c.more 34 rfl) (by decide +kernel) hcs
    seen := seen_ok (ex_at c.more 36 rfl) hcs
    kd := fun y ks h => by
      have m := lookup_mem h
      cases List.mem_singleton.mp m
      obtain ⟨d, es, n, rfl, h1, h2⟩ := kd_ok (tab_all c.t _ (List.mem_singleton.mpr rfl))
      exact ⟨_, es, n, (He.glo_ok X G (c.t.d.fact 5 rfl)), h1, h2⟩ }
theorem law_at {w : World} {K : PySem.W.Frag} {h : Heap} {mg : Str → Option Value} {fa : Addr} (hpure : ∀ ns : List Int, ns.length ≤ 63 → ∃ bk, d_law [.nd .rol (ns.map D.int)] = .ok (.bl true) bk) (X : K.In h) (G : h.Ns mainGlobals mg) (hfa : mg "law" = some (.ref fa)) (c : He.SaysX faL fnL tsL tfL exL w h K) :
    LamX.LawAtS PySem.Challenge.rw_anylead_k04_books_made_and_refused w K (L2.CX (PySem.Challenge.rw_anylead_k04_books_made_and_refused).prog w) 61 63 "_law_script" mg fa h := by
  letI tbInst : Tb := ⟨tabL K⟩
  obtain ⟨fd, F⟩ := c.t.d.def_ 34 (d := dD_law) rfl
  have e := hfa.symm.trans (He.glo_ok X G (c.t.d.fact 33 rfl))
  cases e
  have b := FunD.bindsA (ps := ["_law_script"]) F fun _ _ _ _ _ _ us hl => match us, hl with | [_], _ => rfl
  refine ⟨fd, tfL.map (He.cT K), spOf K mg 1 [false] d_law, fun p hp => ?_, fun p hp => ?_, fun p hp => ?_, fun s u => b s [u] rfl, fun H a ns hl _ hT hS => ?_, fun base KX GX hTB => ?_⟩
  · obtain ⟨z, hz, rfl⟩ := List.mem_map.mp hp
    exact c.empty z hz
  · obtain ⟨z, hz, rfl⟩ := List.mem_map.mp hp
    exact c.out z hz
  · obtain ⟨z, hz, rfl⟩ := List.mem_map.mp hp
    exact PySem.W.codeHd_of_K X (c.hd z hz)
  · obtain ⟨bk, e⟩ := hpure ns hl
    exact law_start (fun p hp => LamX.TabS.nil (tab_at (l := tabL K) hT rfl hp)) hS e
  · exact fn_law (fx_of X G c rfl hTB) F
end Lw
open PyProof.Rows PySem PySem.Calls PySem.W
theorem PySem.Challenge.cw_anylead_k04_books_made_and_refused_holds : PySem.Challenge.rw_anylead_k04_books_made_and_refused.Holds := by
  w_on; o_law
  refine HandSHeadRun.head_any (r := OpenLaw.row PySem.Challenge.rw_anylead_k04_books_made_and_refused) (q := view (OpenLaw.row PySem.Challenge.rw_anylead_k04_books_made_and_refused).prog [37]) (H := Lw.hkL) (ob := Lw.obL) (M := 9000) (loose := Lw.loL) (d := HandSHeadRun.topDef (OpenLaw.row PySem.Challenge.rw_anylead_k04_books_made_and_refused).prog 37) (kwd := []) Lw.obL_eq
    (by kernel_rfl) (fun s => by kernel_rfl) Lw.runL (by kernel_rfl) (by kernel_rfl) (by kernel_rfl) (by rfl) (by first | assumption | decide +kernel) (by decide +kernel) ⟨rfl, rfl, rfl, rfl, rfl, by decide +kernel⟩ ?hw ?hc
  case hw => w_witness2
  case hc =>
    refine LamX.walk_ofTsE (l := PySem.Challenge.rw_anylead_k04_books_made_and_refused) (n := 63) (k := 61) (x := "_law_script") (CX := fun w => L2.CX (PySem.Challenge.rw_anylead_k04_books_made_and_refused).prog w) rfl (by decide) (by kernel_rfl) ⟨rfl, by decide, by decide⟩ ?F ?hCX
    case F =>
      intro w mg fa h Y G hmg0
      obtain ⟨K, KX, c⟩ := Y
      have hmg : mg ("law" : PySem.Str) = some (Value.ref fa) := by
        have e : (HandSHeadRun.topDef (OpenLaw.row PySem.Challenge.rw_anylead_k04_books_made_and_refused).prog 37).name = ("law" : PySem.Str) := by kernel_rfl
        rw [← e]
        exact hmg0
      exact ⟨K, KX, Lw.law_at (fun ns _ => Lw.pure_law ns) KX G hmg c⟩
    case hCX =>
      intro w H s e s' h
      exact PI.cx_false h
