import PyProof.Rows.All
import Wide.All
import OpenK.AllK
import Wide.FinOn
import HandS.ForMost
import HandS.Exc
import HandS.ExcInit
import HandS.TryMany
import HandS.ExcField
import HandS.IsInst
import HandS.MakeKw
import HandS.CallRecv
import HandS.OwnEq
import HandS.CallSlots
import HandS.HeadHook4
import HandS.Head2
import HandS.HeadWalk
import HandS.Flow
import HandS.TupAny
import HandS.NoneIn
import HandS.Zip
import KE.GoesMore
import PyProof.EnumMake
import HandS.Conv
import HandS.HeadEnd
import PySem.Challenge.RW_lexiconlines_k03_books_refused
set_option Elab.async false
set_option linter.all false
set_option maxRecDepth 100000
set_option maxHeartbeats 4000000
namespace Z
open PySem PySem.Spec PyProof.Rows L2

/-! ## rows up to their order -/
def psd (α : Type) : Setoid (List α) := ⟨List.Perm, List.Perm.refl, List.Perm.symm, List.Perm.trans⟩
def MU (α : Type) := Quotient (psd α)
def mu {α : Type} (l : List α) : MU α := Quotient.mk (psd α) l
def muAdd {α : Type} (a b : MU α) : MU α := Quotient.lift₂ (fun l m => mu (l ++ m)) (fun _ _ _ _ h1 h2 => Quotient.sound (s := psd α) (List.Perm.append h1 h2)) a b
theorem mu_app {α : Type} (l m : List α) : mu (l ++ m) = muAdd (mu l) (mu m) := rfl
def mu1 {α : Type} (a : α) : MU α := mu [a]
theorem mu_c {α : Type} (a : α) (l : List α) : mu (a :: l) = muAdd (mu1 a) (mu l) := rfl
theorem mu_n {α : Type} (x : MU α) : muAdd x (mu []) = x := by
  induction x using Quotient.ind
  exact congrArg mu (List.append_nil _)
theorem perm_mu {α : Type} {l m : List α} (h : mu l = mu m) : l.Perm m := Quotient.exact (s := psd α) h
theorem mu_perm {α : Type} {l m : List α} (h : l.Perm m) : mu l = mu m := Quotient.sound (s := psd α) h
instance {α : Type} : Std.Associative (muAdd (α := α)) := ⟨fun a b c => by
  induction a using Quotient.ind
  induction b using Quotient.ind
  induction c using Quotient.ind
  exact congrArg mu (List.append_assoc _ _ _)⟩
instance {α : Type} : Std.Commutative (muAdd (α := α)) := ⟨fun a b => by
  induction a using Quotient.ind
  induction b using Quotient.ind
  exact mu_perm List.perm_append_comm⟩
example {α : Type} (a : α) (l m n : List α) : (l ++ a :: (m ++ n)).Perm (n ++ (a :: l ++ m)) := perm_mu (by simp only [mu_app, mu_c]; ac_rfl)

/-! ## trees of data -/
/-- what a node of the tree is: a list, one that is only read, a tuple, an instance of the own class c with these fields -/
inductive Kd where
  | lst | rol | tup | obj (c : Str) (fs : List Str)
  deriving DecidableEq

/-- data; o: the node is ours alone (it may change); false: it is shared and never changes again -/
inductive D where
  | unb | non | bl (b : Bool) | int (i : Int) | str (x : Str) | ty (n : String)
  | node (k : Kd) (o : Bool) (xs : List D)

mutual
def D.frz : D → D
  | .node k _ xs => .node k false (D.frzL xs)
  | d => d
def D.frzL : List D → List D
  | [] => []
  | d :: ds => d.frz :: D.frzL ds
end
mutual
/-- nothing in it is ours alone -/
def D.still : D → Bool
  | .node _ o xs => !o && D.stillL xs
  | _ => true
def D.stillL : List D → Bool
  | [] => true
  | d :: ds => d.still && D.stillL ds
end
theorem frzL_map (xs : List D) : D.frzL xs = xs.map D.frz := by
  induction xs with
  | nil => rfl
  | cons x r ih => unfold D.frzL; rw [ih]; rfl
theorem stillL_all (xs : List D) : D.stillL xs = xs.all D.still := by
  induction xs with
  | nil => rfl
  | cons x r ih => unfold D.stillL; rw [ih]; rfl

/-- where the own classes stand; B: a part of the heap that is known to be shared -/
structure Ca where
  at_ : Str → Addr
  B : Hp := fun _ => none
  /-- slots that are known to hold a value all the time -/
  pin : List (Nat × V) := []
section
variable (K : PySem.W.Frag) (ca : Ca)
def NdF (F : Hp) (a : Addr) : Kd → List V → Prop
  | .lst, ws => F a = some (.lst ws)
  | .rol, ws => SqL K F a ws
  | .tup, ws => SqT K F a ws
  | .obj c fs, ws => fs.length = ws.length ∧ ∃ dx, F a = some (.ins (ca.at_ c) dx (fs.zip ws))
def NdO (H : Hp) (a : Addr) : Kd → List V → Prop
  | .lst, ws => H a = some (.lst ws)
  | .rol, ws => H a = some (.lst ws)
  | .tup, ws => H a = some (.tup ws)
  | .obj c fs, ws => fs.length = ws.length ∧ ∃ dx, H a = some (.ins (ca.at_ c) dx (fs.zip ws))
/-- values and what they denote; H the heap, F its part that is shared; A the places that are ours alone -/
inductive DenL (H F : Hp) : List (V × D) → List Addr → Prop
  | nil : DenL H F [] []
  | unb {v l A} (hl : DenL H F l A) : DenL H F ((v, .unb) :: l) A
  | non {l A} (hl : DenL H F l A) : DenL H F ((.non, .non) :: l) A
  | bl {b l A} (hl : DenL H F l A) : DenL H F ((.bl b, .bl b) :: l) A
  | int {i l A} (hl : DenL H F l A) : DenL H F ((.int i, .int i) :: l) A
  | str {x l A} (hl : DenL H F l A) : DenL H F ((.str x, .str x) :: l) A
  | ty {n l A} (hl : DenL H F l A) : DenL H F ((.ty n, .ty n) :: l) A
  | frz {a k xs ps l A} (hn : NdF K ca F a k (ps.map Prod.fst)) (hx : ps.map Prod.snd = xs) (hc : DenL H F ps []) (hl : DenL H F l A) : DenL H F ((.ref a, .node k false xs) :: l) A
  | own {a k xs ps l A B} (hn : NdO ca H a k (ps.map Prod.fst)) (hx : ps.map Prod.snd = xs) (hc : DenL H F ps B) (hl : DenL H F l A) : DenL H F ((.ref a, .node k true xs) :: l) (a :: (B ++ A))
end

def Sub (F H : Hp) : Prop := ∀ a o, F a = some o → H a = some o
theorem Sub.refl (F : Hp) : Sub F F := fun _ _ h => h
theorem Sub.trans {F G H : Hp} (h1 : Sub F G) (h2 : Sub G H) : Sub F H := fun a o h => h2 a o (h1 a o h)

section
variable {K : PySem.W.Frag} {ca : Ca} {H H' F F' : Hp} {l l1 l2 : List (V × D)} {A B : List Addr} {v : V} {d : D}
theorem NdF.mono {a : Addr} {k : Kd} {ws : List V} (h : NdF K ca F a k ws) (s : Sub F F') : NdF K ca F' a k ws := by
  cases k with
  | lst => exact s _ _ h
  | rol =>
    rcases h with (h | ⟨o, h⟩) | h
    · exact .inl (.inl (s _ _ h))
    · exact .inl (.inr ⟨o, s _ _ h⟩)
    · exact .inr h
  | tup =>
    rcases h with (h | ⟨o, h⟩) | h
    · exact .inl (.inl (s _ _ h))
    · exact .inl (.inr ⟨o, s _ _ h⟩)
    · exact .inr h
  | obj c fs =>
    obtain ⟨e, dx, h⟩ := h
    exact ⟨e, dx, s _ _ h⟩
theorem NdO.eq {a : Addr} {k : Kd} {ws : List V} (h : NdO ca H a k ws) (e : H' a = H a) : NdO ca H' a k ws := by
  cases k with
  | lst => exact e.trans h
  | rol => exact e.trans h
  | tup => exact e.trans h
  | obj c fs => obtain ⟨q, dx, h⟩ := h; exact ⟨q, dx, e.trans h⟩
theorem NdO.some {a : Addr} {k : Kd} {ws : List V} (h : NdO ca H a k ws) : H a ≠ none := by
  cases k with
  | lst => rw [show H a = _ from h]; simp
  | rol => rw [show H a = _ from h]; simp
  | tup => rw [show H a = _ from h]; simp
  | obj c fs => obtain ⟨q, dx, h⟩ := h; rw [h]; simp
theorem NdO.frz {a : Addr} {k : Kd} {ws : List V} (h : NdO ca H a k ws) (e : F a = H a) : NdF K ca F a k ws := by
  cases k with
  | lst => exact e.trans h
  | rol => exact .inl (.inl (e.trans h))
  | tup => exact .inl (.inl (e.trans h))
  | obj c fs => obtain ⟨q, dx, h⟩ := h; exact ⟨q, dx, e.trans h⟩

theorem DenL.mono (h : DenL K ca H F l A) (s : Sub F F') (e : ∀ a ∈ A, H' a = H a) : DenL K ca H' F' l A := by
  induction h with
  | nil => exact .nil
  | unb _ ih => exact .unb (ih e)
  | non _ ih => exact .non (ih e)
  | bl _ ih => exact .bl (ih e)
  | int _ ih => exact .int (ih e)
  | str _ ih => exact .str (ih e)
  | ty _ ih => exact .ty (ih e)
  | frz hn hx _ _ ih1 ih2 => exact .frz (hn.mono s) hx (ih1 fun _ z => by cases z) (ih2 e)
  | own hn hx _ _ ih1 ih2 =>
    exact .own (hn.eq (e _ (by simp))) hx (ih1 fun a z => e a (by simp [z])) (ih2 fun a z => e a (by simp [z]))
theorem DenL.there (h : DenL K ca H F l A) : ∀ a ∈ A, H a ≠ none := by
  induction h with
  | nil => intro a z; cases z
  | unb _ ih => exact ih
  | non _ ih => exact ih
  | bl _ ih => exact ih
  | int _ ih => exact ih
  | str _ ih => exact ih
  | ty _ ih => exact ih
  | frz hn hx _ _ ih1 ih2 => exact ih2
  | own hn hx _ _ ih1 ih2 =>
    intro a z
    rcases List.mem_cons.mp z with rfl | z
    · exact hn.some
    · rcases List.mem_append.mp z with z | z
      · exact ih1 a z
      · exact ih2 a z
theorem DenL.append (h1 : DenL K ca H F l1 A) (h2 : DenL K ca H F l2 B) : DenL K ca H F (l1 ++ l2) (A ++ B) := by
  induction h1 with
  | nil => exact h2
  | unb _ ih => exact .unb ih
  | non _ ih => exact .non ih
  | bl _ ih => exact .bl ih
  | int _ ih => exact .int ih
  | str _ ih => exact .str ih
  | ty _ ih => exact .ty ih
  | frz hn hx hc _ ih1 ih2 => exact .frz hn hx hc ih2
  | own hn hx hc _ ih1 ih2 =>
    have := DenL.own hn hx hc ih2
    simpa [List.append_assoc] using this
theorem DenL.split1 (h : DenL K ca H F ((v, d) :: l) A) : ∃ B C, DenL K ca H F [(v, d)] B ∧ DenL K ca H F l C ∧ A = B ++ C := by
  cases h with
  | unb h => exact ⟨[], _, .unb .nil, h, rfl⟩
  | non h => exact ⟨[], _, .non .nil, h, rfl⟩
  | bl h => exact ⟨[], _, .bl .nil, h, rfl⟩
  | int h => exact ⟨[], _, .int .nil, h, rfl⟩
  | str h => exact ⟨[], _, .str .nil, h, rfl⟩
  | ty h => exact ⟨[], _, .ty .nil, h, rfl⟩
  | frz hn hx hc h => exact ⟨[], _, .frz hn hx hc .nil, h, rfl⟩
  | own hn hx hc h => exact ⟨_, _, .own hn hx hc .nil, h, by simp⟩
theorem DenL.split : ∀ {l1 : List (V × D)} {A : List Addr}, DenL K ca H F (l1 ++ l2) A → ∃ B C, DenL K ca H F l1 B ∧ DenL K ca H F l2 C ∧ A = B ++ C
  | [], A, h => ⟨[], A, .nil, h, rfl⟩
  | (v, d) :: r, A, h => by
    obtain ⟨B, C, hb, hc, rfl⟩ := DenL.split1 (l := r ++ l2) h
    obtain ⟨B', C', hb', hc', rfl⟩ := DenL.split hc
    exact ⟨B ++ B', C', hb.append hb', hc', by simp⟩
theorem DenL.perm (h : DenL K ca H F l A) (p : l.Perm l1) : ∃ B, A.Perm B ∧ DenL K ca H F l1 B := by
  induction p generalizing A with
  | nil => exact ⟨A, .refl _, h⟩
  | cons x _ ih =>
    obtain ⟨v, d⟩ := x
    obtain ⟨B, C, hb, hc, rfl⟩ := h.split1
    obtain ⟨C', pc, hc'⟩ := ih hc
    exact ⟨B ++ C', pc.append_left _, hb.append hc'⟩
  | swap x y r =>
    obtain ⟨v, d⟩ := x
    obtain ⟨v', d'⟩ := y
    obtain ⟨B, C, hb, hc, rfl⟩ := h.split1
    obtain ⟨B', C', hb', hc', rfl⟩ := hc.split1
    refine ⟨B' ++ (B ++ C'), ?_, hb'.append (hb.append hc')⟩
    rw [← List.append_assoc, ← List.append_assoc]
    exact List.perm_append_comm.append_right _
  | trans _ _ ih1 ih2 =>
    obtain ⟨B, pb, hb⟩ := ih1 h
    obtain ⟨C, pc, hc⟩ := ih2 hb
    exact ⟨C, pb.trans pc, hc⟩
/-- shared data have no place of their own -/
theorem DenL.still (h : DenL K ca H F l A) (hs : D.stillL (l.map Prod.snd) = true) : A = [] := by
  induction h with
  | nil => rfl
  | unb _ ih => exact ih (by simpa [D.stillL, D.still] using hs)
  | non _ ih => exact ih (by simpa [D.stillL, D.still] using hs)
  | bl _ ih => exact ih (by simpa [D.stillL, D.still] using hs)
  | int _ ih => exact ih (by simpa [D.stillL, D.still] using hs)
  | str _ ih => exact ih (by simpa [D.stillL, D.still] using hs)
  | ty _ ih => exact ih (by simpa [D.stillL, D.still] using hs)
  | frz hn hx _ _ ih1 ih2 => exact ih2 (by simp only [List.map_cons, D.stillL, Bool.and_eq_true] at hs; exact hs.2)
  | own hn hx _ _ ih1 ih2 => simp [D.stillL, D.still] at hs
mutual
theorem still_frz : ∀ d : D, d.still = true → d.frz = d
  | .unb, _ => rfl
  | .non, _ => rfl
  | .bl _, _ => rfl
  | .int _, _ => rfl
  | .str _, _ => rfl
  | .ty _, _ => rfl
  | .node k o xs, h => by
    simp only [D.still, Bool.and_eq_true, Bool.not_eq_true'] at h
    unfold D.frz
    rw [still_frzL xs h.2, h.1]
theorem still_frzL : ∀ xs : List D, D.stillL xs = true → D.frzL xs = xs
  | [], _ => rfl
  | x :: r, h => by
    simp only [D.stillL, Bool.and_eq_true] at h
    unfold D.frzL
    rw [still_frz x h.1, still_frzL r h.2]
end
mutual
theorem frz_still : ∀ d : D, d.frz.still = true
  | .unb => rfl
  | .non => rfl
  | .bl _ => rfl
  | .int _ => rfl
  | .str _ => rfl
  | .ty _ => rfl
  | .node k o xs => by
    unfold D.frz
    simp only [D.still, Bool.not_false, Bool.true_and]
    exact frzL_still xs
theorem frzL_still : ∀ xs : List D, D.stillL (D.frzL xs) = true
  | [] => rfl
  | x :: r => by
    unfold D.frzL
    simp only [D.stillL, Bool.and_eq_true]
    exact ⟨frz_still x, frzL_still r⟩
end
theorem frz_frz (d : D) : d.frz.frz = d.frz := still_frz _ (frz_still d)
/-- what was ours alone is shared from now on -/
theorem DenL.freeze (h : DenL K ca H F l A) (s : Sub F F') (hA : ∀ a ∈ A, F' a = H a) : DenL K ca H F' (l.map fun p => (p.1, p.2.frz)) [] := by
  induction h with
  | nil => exact .nil
  | unb _ ih => exact .unb (ih hA)
  | non _ ih => exact .non (ih hA)
  | bl _ ih => exact .bl (ih hA)
  | int _ ih => exact .int (ih hA)
  | str _ ih => exact .str (ih hA)
  | ty _ ih => exact .ty (ih hA)
  | @frz a k xs ps l A hn hx hc _ ih1 ih2 =>
    have ih1 := ih1 fun _ z => by cases z
    refine .frz (ps := ps.map fun p => (p.1, p.2.frz)) ?_ ?_ ih1 (ih2 hA)
    · rw [List.map_map]; exact hn.mono s
    · rw [List.map_map, frzL_map, ← hx, List.map_map]; rfl
  | @own a k xs ps l A B hn hx hc _ ih1 ih2 =>
    have ih1 := ih1 fun a z => hA a (by simp [z])
    refine .frz (ps := ps.map fun p => (p.1, p.2.frz)) ?_ ?_ ih1 (ih2 fun a z => hA a (by simp [z]))
    · rw [List.map_map]; exact hn.frz (hA _ (by simp))
    · rw [List.map_map, frzL_map, ← hx, List.map_map]; rfl
end

/-! ## states -/
section
variable (K : PySem.W.Frag) (ca : Ca)
/-- the values denote the data, and what is ours alone stands apart -/
def Stt (H F : Hp) (l : List (V × D)) : Prop := ∃ A, DenL K ca H F l A ∧ A.Nodup ∧ (∀ a ∈ A, F a = none) ∧ Sub F H ∧ Sub ca.B F
end
section
variable {K : PySem.W.Frag} {ca : Ca} {H H' F F' : Hp} {l l1 l2 : List (V × D)} {v : V} {d : D}
theorem Stt.sub (h : Stt K ca H F l) : Sub F H := let ⟨_, _, _, _, s, _⟩ := h; s
theorem Stt.bas (h : Stt K ca H F l) : Sub ca.B F := let ⟨_, _, _, _, _, s⟩ := h; s
theorem Stt.perm (h : Stt K ca H F l) (p : l.Perm l1) : Stt K ca H F l1 := by
  obtain ⟨A, h, n, f, s⟩ := h
  obtain ⟨B, pb, hb⟩ := h.perm p
  exact ⟨B, hb, pb.nodup_iff.mp n, fun a z => f a (pb.mem_iff.mpr z), s⟩
theorem Stt.left (h : Stt K ca H F (l1 ++ l2)) : Stt K ca H F l1 := by
  obtain ⟨A, h, n, f, s⟩ := h
  obtain ⟨B, C, hb, hc, rfl⟩ := h.split
  exact ⟨B, hb, (List.nodup_append.mp n).1, fun a z => f a (by simp [z]), s⟩
theorem Stt.right (h : Stt K ca H F (l1 ++ l2)) : Stt K ca H F l2 := by
  obtain ⟨A, h, n, f, s⟩ := h
  obtain ⟨B, C, hb, hc, rfl⟩ := h.split
  exact ⟨C, hc, (List.nodup_append.mp n).2.1, fun a z => f a (by simp [z]), s⟩
theorem Stt.tail (h : Stt K ca H F ((v, d) :: l)) : Stt K ca H F l := Stt.right (l1 := [(v, d)]) h
theorem Stt.den (h : Stt K ca H F ((v, d) :: l)) : ∃ B, DenL K ca H F [(v, d)] B := by
  obtain ⟨A, h, _⟩ := h
  obtain ⟨B, C, hb, hc, rfl⟩ := h.split1
  exact ⟨B, hb⟩
/-- shared data may be said again -/
theorem Stt.add (h : Stt K ca H F l) (hd : DenL K ca H F l1 []) : Stt K ca H F (l1 ++ l) := by
  obtain ⟨A, h, n, f, s⟩ := h
  exact ⟨A, hd.append h, n, f, s⟩
theorem Stt.free (h : Stt K ca H F l) {p : Addr} (hp : H p = none) : F p = none := by
  cases e : F p with
  | none => rfl
  | some o => rw [h.sub _ _ e] at hp; cases hp
/-- a new object -/
theorem Stt.alloc {k : Kd} {p : Addr} {o : HO} {ps : List (V × D)} (h : Stt K ca H F (ps ++ l)) (hp : H p = none) (hn : NdO ca (upd H p o) p k (ps.map Prod.fst)) :
    Stt K ca (upd H p o) F ((.ref p, .node k true (ps.map Prod.snd)) :: l) := by
  have hf := h.free hp
  obtain ⟨A, h, n, f, s⟩ := h
  obtain ⟨B, C, hb, hc, rfl⟩ := h.split
  have ne : ∀ a ∈ B ++ C, a ≠ p := fun a z e => (hb.append hc).there a z (e ▸ hp)
  have hb' := hb.mono (H' := upd H p o) (Sub.refl F) fun a z => upd_ne (ne a (by simp [z]))
  have hc' := hc.mono (H' := upd H p o) (Sub.refl F) fun a z => upd_ne (ne a (by simp [z]))
  refine ⟨_, .own hn rfl hb' hc', ?_, ?_, ?_, s.2⟩
  · exact List.nodup_cons.mpr ⟨fun z => ne p z rfl, n⟩
  · intro a z
    rcases List.mem_cons.mp z with rfl | z
    · exact hf
    · exact f a z
  · intro a o' e
    by_cases q : a = p
    · subst q; rw [hf] at e; cases e
    · rw [upd_ne q]; exact s.1 a o' e
/-- a new object that is of no tree -/
theorem Stt.laid {p : Addr} {o : HO} (h : Stt K ca H F l) (hp : H p = none) : Stt K ca (upd H p o) F l := by
  have hf := h.free hp
  obtain ⟨A, h, n, f, s⟩ := h
  refine ⟨A, h.mono (Sub.refl F) fun a z => upd_ne fun e => h.there a z (e ▸ hp), n, f, fun a o' e => ?_, s.2⟩
  by_cases q : a = p
  · subst q; rw [hf] at e; cases e
  · rw [upd_ne q]; exact s.1 a o' e
/-- frozen -/
theorem Stt.freeze (h : Stt K ca H F (l1 ++ l)) : ∃ F', Sub F F' ∧ Stt K ca H F' ((l1.map fun p => (p.1, p.2.frz)) ++ l) := by
  obtain ⟨A, h, n, f, s⟩ := h
  obtain ⟨B, C, hb, hc, rfl⟩ := h.split
  let F' : Hp := fun a => if a ∈ B then H a else F a
  have s1 : Sub F F' := fun a o e => by
    show (if a ∈ B then H a else F a) = some o
    split
    · exact s.1 a o e
    · exact e
  have s2 : Sub F' H := fun a o e => by
    have e : (if a ∈ B then H a else F a) = some o := e
    split at e
    · exact e
    · exact s.1 a o e
  have hB : ∀ a ∈ B, F' a = H a := fun a z => if_pos z
  refine ⟨F', s1, _, (hb.freeze s1 hB).append (hc.mono s1 fun _ _ => rfl), ?_, ?_, s2, s.2.trans s1⟩
  · simpa using (List.nodup_append.mp n).2.1
  · intro a z
    have z : a ∈ C := by simpa using z
    have : a ∉ B := fun zb => (List.nodup_append.mp n).2.2 a zb a z rfl
    show (if a ∈ B then H a else F a) = none
    rw [if_neg this]
    exact f a (by simp [z])
end
end Z

set_option Elab.async false
set_option linter.all false
set_option maxRecDepth 100000
set_option maxHeartbeats 4000000
namespace Z
open PySem PySem.Spec PyProof.Rows L2

/-! ## the runner: what the text computes, over trees of data -/
inductive R (α : Type) where
  | ok (a : α) (η : List D)
  | exc (c : Str) (fs : List (Str × D)) (η : List D)
abbrev M (α : Type) := List D → Option (R α)
def mPure {α : Type} (a : α) : M α := fun η => some (.ok a η)
def mBind {α β : Type} (m : M α) (f : α → M β) : M β := fun η => match m η with
  | none => none
  | some (.exc c fs η') => some (.exc c fs η')
  | some (.ok a η') => f a η'
def mOpt {α : Type} (o : Option α) : M α := fun η => o.map fun a => .ok a η

inductive FRes where
  | ret (d : D) (ds : List D)
  | exc (c : Str) (fs : List (Str × D)) (ds : List D)
/-- how a call binds: n values by place, then those named ks; where each parameter comes from -/
structure Shape where
  n : Nat
  ks : List Str
  arr : List (Nat ⊕ D)
structure Fn where
  np : Nat
  shapes : List Shape
  /-- the parameter is never stored to: its object comes back to the caller -/
  keep : Nat → Bool
  run : List D → Option FRes
structure Cl where
  /-- an exception: its fields, each with the place of its value; or an own class -/
  exc : Option (List (Str × Nat))
  init : Option Fn
  /-- its instances' fields -/
  flds : List Str
  meths : List (Str × Fn)
  /-- what isinstance tells of its instances -/
  isa : List (Str × Bool)
  /-- built-in types whose values are none of its instances -/
  notb : List String
inductive G where
  | val (d : D) | fn (f : Fn) | cls (c : Cl)
structure Cs where
  N : List Str
  sc : Scope
  g : Str → Option G
  free : Str → Bool
  P : Nat → Bool
  cur : Option (Nat × List (Str × D))
  wf : Nat

def slotOf (N : List Str) (x : Str) : Option Nat := N.findIdx? (· == x)
def Cs.slot (c : Cs) (x : Str) : Option Nat := match c.sc.names.lookup x with
  | some .local => slotOf c.N x
  | some .cell => slotOf c.N x
  | some .free => slotOf c.N x
  | _ => none
def Cs.glob (c : Cs) (x : Str) : Bool := match c.sc.names.lookup x with
  | some .globalImplicit => !(x == ("__debug__" : Str)) && !(x == ("__name__" : Str))
  | _ => false
def Cs.isFld (c : Cs) (y f : Str) : Bool := match c.g y with
  | some (.cls cl) => cl.exc.isNone && cl.flds.contains f
  | _ => false
def Cs.bltn (c : Cs) (x : Str) : Bool := c.glob x && c.free x

def D.bound : D → Bool
  | .unb => false
  | _ => true
def D.putAt : D → List Nat → D → D
  | _, [], x => x
  | .node k o xs, j :: p, x => .node k o (xs.set j (D.putAt (xs.getD j .unb) p x))
  | d, _ :: _, _ => d
def kidsStill : D → Bool
  | .node _ _ xs => D.stillL xs
  | _ => true

/-! ### operations on data -/
def idxD : D → D → Option D
  | .node .lst _ xs, .int k => atI xs k
  | .node .rol _ xs, .int k => atI xs k
  | .node .tup _ xs, .int k => atI xs k
  | .str s, .int k => if s.length ≤ sizeLine then (atI s.cps.toList k).map fun c => .str ⟨#[c]⟩ else none
  | _, _ => none
def lenD : D → Option Nat
  | .node .lst _ xs => some xs.length
  | .node .rol _ xs => some xs.length
  | .node .tup _ xs => some xs.length
  | .str s => if s.length ≤ sizeLine then some s.length else none
  | _ => none
def truthD : D → Option Bool
  | .non => some false
  | .bl b => some b
  | .int i => some (i != 0)
  | .str s => if s.length ≤ sizeLine then some ((s.length : Int) != 0) else none
  | .node .lst _ xs => some (!xs.isEmpty)
  | .node .rol _ xs => some (!xs.isEmpty)
  | .node .tup _ xs => some (!xs.isEmpty)
  | _ => none
def binD : Operator → D → D → Option D
  | .Add, .int i, .int j => some (.int (i + j))
  | .Sub, .int i, .int j => some (.int (i - j))
  | .Mult, .int i, .int j => if (-(2 ^ 64) < i ∧ i < 2 ^ 64) ∨ (-(2 ^ 64) < j ∧ j < 2 ^ 64) then some (.int (i * j)) else none
  | .Mod, .int i, .int j => if j ≠ 0 then some (.int (i.fmod j)) else none
  | .FloorDiv, .int i, .int j => if j ≠ 0 ∧ j.natAbs < 1073741824 then some (.int (i.fdiv j)) else none
  | .Pow, .int i, .int j => if 0 ≤ j ∧ j ≤ 1000000 ∧ i.natAbs < 2 ^ 64 then some (.int (i ^ j.toNat)) else none
  | .Add, .str x, .str y => if x.length + y.length ≤ sizeLine then some (.str (x ++ y)) else none
  | .Add, .node .lst _ xs, .node .lst _ ys => if xs.length + ys.length ≤ sizeLine then some (.node .lst true (xs ++ ys)) else none
  | .Add, .node .tup _ xs, .node .tup _ ys => if xs.length + ys.length ≤ sizeLine then some (.node .tup (!xs.isEmpty && !ys.isEmpty) (xs ++ ys)) else none
  | _, _, _ => none
/-- the items of data that is walked -/
def itemsD : D → Option (List D)
  | .node .lst _ xs => some xs
  | .node .rol _ xs => some xs
  | .node .tup _ xs => some xs
  | .str s => some (s.cps.toList.map fun c => .str ⟨#[c]⟩)
  | _ => none
/-! data as the model's own comparison takes it -/
mutual
def D.py : D → Option PyData
  | .non => some .none
  | .bl b => some (.bool b)
  | .int i => some (.int i)
  | .str s => some (.str s)
  | .node .lst _ xs => (D.pyL xs).map .list
  | .node .rol _ xs => (D.pyL xs).map .list
  | .node .tup _ xs => (D.pyL xs).map .tuple
  | _ => none
def D.pyL : List D → Option (List PyData)
  | [] => some []
  | x :: r => match x.py, D.pyL r with
    | some y, some q => some (y :: q)
    | _, _ => none
end
/-- scalars: their kinds, as == tells them apart -/
def eqS : D → D → Option Bool
  | .non, .non => some true
  | .non, .int _ => some false
  | .int _, .non => some false
  | .non, .bl _ => some false
  | .bl _, .non => some false
  | .non, .str _ => some false
  | .str _, .non => some false
  | .int i, .int j => some (decide (i = j))
  | .bl i, .bl j => some (decide (i = j))
  | .str i, .str j => some (decide (i = j))
  | .int _, .str _ => some false
  | .str _, .int _ => some false
  | .bl _, .str _ => some false
  | .str _, .bl _ => some false
  | _, _ => none
def isLR : Kd → Bool
  | .lst => true
  | .rol => true
  | _ => false
/-- lists of other lengths are not equal, whatever stands in them -/
def eqLn : D → D → Option Bool
  | .node k _ xs, .node k2 _ ys => if isLR k = true ∧ isLR k2 = true ∧ xs.length ≠ ys.length then some false else none
  | _, _ => none
def eqP (a b : D) : Option Bool := match a.py, b.py with
  | some x, some y => if SeqAt.shaped x = true ∧ SeqAt.shaped y = true then some (x.eqv y) else none
  | _, _ => none
def eqD (a b : D) : Option Bool := match eqS a b with
  | some r => some r
  | none => match eqP a b with
    | some r => some r
    | none => eqLn a b
def flatD : D → Bool
  | .non => true
  | .bl _ => true
  | .int _ => true
  | .str _ => true
  | _ => false
def eqF : D → D → Bool
  | .non, .non => true
  | .bl a, .bl b => a == b
  | .bl a, .int b => (if a = true then 1 else 0) == b
  | .int a, .bl b => a == (if b = true then 1 else 0)
  | .int a, .int b => a == b
  | .str a, .str b => a == b
  | _, _ => false
def inD (x : D) : D → Option Bool
  | .node .lst _ xs => if flatD x && xs.all flatD then some (xs.any fun y => eqF y x) else none
  | .node .rol _ xs => if flatD x && xs.all flatD then some (xs.any fun y => eqF y x) else none
  | .node .tup _ xs => if flatD x && xs.all flatD then some (xs.any fun y => eqF y x) else none
  | .str z => match x with
    | .str y => some (!(Builtin.Str.occurrences z y 0 z.length 1).isEmpty)
    | _ => none
  | _ => none
def cmpD : CmpOp → D → D → Option Bool
  | .Eq, a, b => eqD a b
  | .NotEq, a, b => (eqD a b).map not
  | .Lt, .int i, .int j => some (decide (i < j))
  | .LtE, .int i, .int j => some (decide (i ≤ j))
  | .Gt, .int i, .int j => some (decide (j < i))
  | .GtE, .int i, .int j => some (decide (j ≤ i))
  | .Lt, .str i, .str j => some (decide (i.cps.toList < j.cps.toList))
  | .In, a, b => inD a b
  | .NotIn, a, b => (inD a b).map not
  | .Is, .non, .non => some true
  | .Is, .unb, .non => none
  | .Is, _, .non => some false
  | .IsNot, .non, .non => some false
  | .IsNot, .unb, .non => none
  | .IsNot, _, .non => some true
  | _, _, _ => none
/-- the name of a built-in type that data is of -/
def tyD : D → Option String
  | .non => some "NoneType"
  | .bl _ => some "bool"
  | .int _ => some "int"
  | .str _ => some "str"
  | .node .lst _ _ => some "list"
  | .node .rol _ _ => some "list"
  | .node .tup _ _ => some "tuple"
  | _ => none
def anyB : List (Option Bool) → Option Bool
  | [] => some false
  | none :: _ => none
  | some true :: _ => some true
  | some false :: r => anyB r

/-! ### places: a slot and a way down -/
def isSlice : Expr → Bool
  | .Slice _ _ _ _ => true
  | _ => false
def constD : Const → Option D
  | .none => some .non
  | .bool b => some (.bl b)
  | .int i => some (.int i)
  | .str s => some (.str s)
  | _ => none
mutual
/-- what is reckoned without changing anything -/
def evX (c : Cs) : Nat → Expr → List D → Option D
  | 0, _, _ => none
  | n + 1, e, η => match e with
    | .Constant k _ _ => constD k
    | .Name x _ => match c.slot x with
      | some i => match η[i]? with
        | some d => if d.bound && d.still then some d else none
        | none => none
      | none => if c.glob x then (match c.g x with
        | some (.val d) => some d
        | _ => none) else none
    | .BinOp a op b _ => match evX c n a η, evX c n b η with
      | some (.int i), some (.int j) => match op with
        | .Add => some (.int (i + j))
        | .Sub => some (.int (i - j))
        | _ => none
      | _, _ => none
    | .UnaryOp .USub a _ => match evX c n a η with
      | some (.int i) => some (.int (-i))
      | _ => none
    | .Call (.Name f _) [a] [] _ => if f == ("len" : Str) && c.bltn f then (match evP c n a η with
        | some (_, _, d) => (lenD d).map fun (m : Nat) => D.int m
        | none => match evX c n a η with
          | some d => (lenD d).map fun (m : Nat) => D.int m
          | none => none) else none
    | .Subscript a b p => match evP c n (.Subscript a b p) η with
      | some (_, _, d) => if d.still then some d else none
      | none => none
    | .Attribute a f p => match evP c n (.Attribute a f p) η with
      | some (_, _, d) => if d.still then some d else none
      | none => none
    | _ => none
def evP (c : Cs) : Nat → Expr → List D → Option (Nat × List Nat × D)
  | 0, _, _ => none
  | n + 1, e, η => match e with
    | .Name x _ => match c.slot x with
      | some i => match η[i]? with
        | some d => if d.bound then some (i, [], d) else none
        | none => none
      | none => none
    | .Subscript a b _ => if isSlice b then none else match evP c n a η, evX c n b η with
      | some (i, p, .node k _ xs), some (.int m) => (match k with
        | .obj _ _ => none
        | _ => match ixN xs.length m with
          | some j => match xs[j]? with
            | some x => some (i, p ++ [j], x)
            | none => none
          | none => none)
      | _, _ => none
    | .Attribute a f _ => match evP c n a η with
      | some (i, p, .node (.obj y fs) _ xs) => if c.isFld y f = true then (match fs.findIdx? (· == f) with
        | some j => match xs[j]? with
          | some x => some (i, p ++ [j], x)
          | none => none
        | none => none) else none
      | _ => none
    | _ => none
end
end Z

set_option Elab.async false
set_option linter.all false
set_option maxRecDepth 100000
set_option maxHeartbeats 4000000
namespace Z
open PySem PySem.Spec PyProof.Rows L2

/-! ### arguments -/
inductive Arg where
  | slot (i : Nat)
  | tmp (d : D)
def pickA (as : List Arg) : Nat ⊕ D → Option Arg
  | .inl i => as[i]?
  | .inr d => some (.tmp d)
def pickAll (as : List Arg) : List (Nat ⊕ D) → Option (List Arg)
  | [] => some []
  | x :: r => match pickA as x, pickAll as r with
    | some a, some q => some (a :: q)
    | _, _ => none
def takeArgs (keep : Nat → Bool) : Nat → List Arg → List D → Option (List D × List D × List (Option Nat))
  | _, [], η => some ([], η, [])
  | k, .tmp d :: r, η => match takeArgs keep (k + 1) r η with
    | some (ds, η', wb) => some (d :: ds, η', none :: wb)
    | none => none
  | k, .slot i :: r, η => match η[i]? with
    | none => none
    | some d => if d.bound = true then
        if d.still = true then (match takeArgs keep (k + 1) r η with
          | some (ds, η', wb) => some (d :: ds, η', none :: wb)
          | none => none)
        else if keep k = true then (match takeArgs keep (k + 1) r (η.set i .unb) with
          | some (ds, η', wb) => some (d :: ds, η', some i :: wb)
          | none => none)
        else (match takeArgs keep (k + 1) r (η.set i d.frz) with
          | some (ds, η', wb) => some (d.frz :: ds, η', none :: wb)
          | none => none)
      else none
def giveBack : List (Option Nat) → List D → List D → List D
  | some i :: wb, d :: ds, η => giveBack wb ds (η.set i d)
  | none :: wb, _ :: ds, η => giveBack wb ds η
  | _, _, η => η
def callF (f : Fn) (sh : Shape) (as : List Arg) : M D := fun η => match pickAll as sh.arr with
  | none => none
  | some bs => match takeArgs f.keep 0 bs η with
    | none => none
    | some (ds, η', wb) => match f.run ds with
      | none => none
      | some (.ret d ds') => some (.ok d (giveBack wb ds' η'))
      | some (.exc c fs ds') => some (.exc c fs (giveBack wb ds' η'))
def findShape (n : Nat) (ks : List Str) : List Shape → Option Shape
  | [] => none
  | s :: r => if s.n = n ∧ s.ks = ks then some s else findShape n ks r
def kwNames : List Keyword → Option (List Str)
  | [] => some []
  | k :: r => match k.arg, kwNames r with
    | some x, some q => some (x :: q)
    | _, _ => none
def headSelf : List (Nat ⊕ D) → Bool
  | .inl 0 :: _ => true
  | _ => false
/-- a new instance of the class x, made by its __init__ -/
def callC (x : Str) (f : Fn) (sh : Shape) (as : List Arg) : M D := fun η => if headSelf sh.arr = true ∧ f.keep 0 = true then (match pickAll (.tmp (.node (.obj x []) true []) :: as) sh.arr with
    | none => none
    | some bs => match takeArgs f.keep 0 bs η with
      | none => none
      | some (ds, η', wb) => match f.run ds with
        | some (.ret .non (self :: ds')) => some (.ok self (giveBack wb (self :: ds') η'))
        | some (.exc c fs ds') => some (.exc c fs (giveBack wb ds' η'))
        | _ => none) else none

/-! ### targets -/
def Cs.store (c : Cs) (x : Str) (d : D) (η : List D) : Option (List D) := match c.sc.names.lookup x with
  | some .local => (match slotOf c.N x with
    | some i => if c.P i = true ∨ η.length ≤ i then none else some (η.set i d)
    | none => none)
  | some .cell => (match slotOf c.N x with
    | some i => if c.P i = true ∨ η.length ≤ i then none else some (η.set i d)
    | none => none)
  | _ => none
def namesOf : Expr → Option (List Str)
  | .Name x _ => some [x]
  | .Tuple es _ _ => es.mapM fun e => match e with
    | .Name x _ => some x
    | _ => none
  | _ => none
def Cs.storeAll (c : Cs) : List Str → List D → List D → Option (List D)
  | [], [], η => some η
  | x :: xs, d :: ds, η => match c.store x d η with
    | some η' => Cs.storeAll c xs ds η'
    | none => none
  | _, _, _ => none
/-- a loop's target -/
def Cs.bind (c : Cs) (tg : Expr) (d : D) (η : List D) : Option (List D) := match tg with
  | .Name x _ => c.store x d η
  | .Tuple es _ _ => (match namesOf tg, d with
    | some xs, .node .tup _ ds => c.storeAll xs ds η
    | _, _ => none)
  | _ => none

/-! ### loops -/
inductive Fl where
  | nx (η : List D) | ret (d : D) (η : List D) | brk (η : List D) | cnt (η : List D) | exc (c : Str) (fs : List (Str × D)) (η : List D)
def forL (bind : D → List D → Option (List D)) (body : List D → Option Fl) : List D → List D → Option Fl
  | [], η => some (.nx η)
  | d :: r, η => match bind d η with
    | none => none
    | some η1 => match body η1 with
      | some (.nx η2) => forL bind body r η2
      | some (.cnt η2) => forL bind body r η2
      | some (.brk η2) => some (.nx η2)
      | x => x
def whileL (test : M Bool) (body : List D → Option Fl) : Nat → List D → Option Fl
  | 0, _ => none
  | k + 1, η => match test η with
    | some (.ok false η1) => some (.nx η1)
    | some (.ok true η1) => (match body η1 with
      | some (.nx η2) => whileL test body k η2
      | some (.cnt η2) => whileL test body k η2
      | some (.brk η2) => some (.nx η2)
      | x => x)
    | some (.exc c fs η1) => some (.exc c fs η1)
    | none => none
/-- a comprehension's turns: the items made so far, the slots -/
def lcL (bind : D → List D → Option (List D)) (test : M Bool) (elt : M D) : List D → List D → List D → Option (List D × List D)
  | [], acc, η => some (acc, η)
  | d :: r, acc, η => match bind d η with
    | none => none
    | some η1 => match test η1 with
      | some (.ok false η2) => lcL bind test elt r acc η2
      | some (.ok true η2) => (match elt η2 with
        | some (.ok x η3) => if acc.length < sizeLine then lcL bind test elt r (acc ++ [x]) η3 else none
        | _ => none)
      | _ => none
def frzAt : List Nat → List D → List D
  | [], η => η
  | i :: r, η => frzAt r (match η[i]? with
    | some d => η.set i d.frz
    | none => η)
def wipeD : List Nat → List D → List D
  | [], η => η
  | i :: r, η => (wipeD r η).set i .unb
def backD : List Nat → List D → List D → List D
  | [], _, η => η
  | i :: r, ζ, η => backD r ζ (match ζ[i]? with
    | some d => η.set i d
    | none => η)

/-! ### methods of lists -/
/-- what is handed back, and the list behind it -/
def methL (m : Str) (xs vs : List D) : Option (D × List D) :=
  if m = ("append" : Str) then (match vs with
    | [v] => if xs.length < sizeLine then some (.non, xs ++ [v]) else none
    | _ => none)
  else if m = ("pop" : Str) then (match vs with
    | [] => match xs.getLast? with
      | some x => some (x, xs.dropLast)
      | none => none
    | _ => none)
  else if m = ("insert" : Str) then (match vs with
    | [.int i, v] => if xs.length < sizeLine ∧ 0 ≤ i ∧ i < 2 ^ 63 then some (.non, xs.take i.toNat ++ [v] ++ xs.drop i.toNat) else none
    | _ => none)
  else none

/-- the methods of lists that are known -/
def isML (m : Str) : Bool := decide (m = ("append" : Str)) || decide (m = ("pop" : Str)) || decide (m = ("insert" : Str))
def okBase : Expr → Bool
  | .Call (.Name id _) [] [] _ => id != ("super" : Str)
  | _ => true
def Cs.methOf (c : Cs) (x m : Str) (fs : List Str) : Option Fn := match c.g x with
  | some (.cls cl) => if fs.contains m || cl.exc.isSome then none else cl.meths.lookup m
  | _ => none
/-- x == y of two instances of an own class with its own == -/
def Cs.ownEq (c : Cs) (op : CmpOp) (x y : D) : Option Bool := match op, x, y with
  | .Eq, .node (.obj k fs) _ _, .node (.obj k2 _) _ _ => if k = k2 ∧ x.still = true ∧ y.still = true ∧ c.cur.isNone = true then (match c.methOf k ("__eq__" : Str) fs with
      | some fn => (match findShape 2 [] fn.shapes with
        | some sh => (match sh.arr, fn.run [x, y] with
          | [.inl 0, .inl 1], some (.ret (.bl r) _) => some r
          | _, _ => none)
        | none => none)
      | none => none) else none
  | _, _, _ => none
def Cs.cmpX (c : Cs) (op : CmpOp) (x y : D) : Option Bool := match c.ownEq op x y with
  | some r => some r
  | none => cmpD op x y
/-- the ints i .. j - 1 as a list or a tuple -/
def rangeC (f : Str) (i j : Int) : Option D := if -(2 ^ 62) ≤ i ∧ i < 2 ^ 62 ∧ -(2 ^ 62) ≤ j ∧ j < 2 ^ 62 ∧ (j - i).toNat ≤ 2 ^ 24 then
    (if f = ("list" : Str) then some (.node .lst true ((List.range (j - i).toNat).map fun k => .int (i + (k : Nat))))
    else if f = ("tuple" : Str) then some (.node .tup true ((List.range (j - i).toNat).map fun k => .int (i + (k : Nat)))) else none) else none
def isStar : Expr → Bool
  | .Starred _ _ => true
  | _ => false
def isName : Expr → Option Str
  | .Name x _ => some x
  | _ => none
def tyName (x : Str) : Option String :=
  if x = ("list" : Str) then some "list" else if x = ("tuple" : Str) then some "tuple" else if x = ("str" : Str) then some "str"
  else if x = ("int" : Str) then some "int" else if x = ("bool" : Str) then some "bool" else none
/-- a name that isinstance may be asked of: an own class or a built-in type -/
def Cs.isTgt (c : Cs) (x : Str) : Bool := c.glob x && (match c.g x with
  | some (.cls _) => true
  | some _ => false
  | none => c.free x && (tyName x).isSome)
/-- isinstance of data and a class's name -/
def Cs.isaOne (c : Cs) (d : D) (x : Str) : Option Bool := match d with
    | .node (.obj y _) _ _ => (match c.g y with
      | some (.cls cy) => if cy.exc.isNone then cy.isa.lookup x else none
      | _ => none)
    | _ => match tyD d with
      | none => none
      | some t => match c.g x with
        | some (.cls cl) => if cl.notb.contains t then some false else none
        | some _ => none
        | none => (match tyName x with
          | some T => kitB t T
          | none => none)
def Cs.isaAny (c : Cs) (d : D) : List Str → Option Bool
  | [] => some false
  | x :: r => match c.isaOne d x with
    | none => none
    | some true => some true
    | some false => Cs.isaAny c d r
def seqM {α β : Type} (f : α → M β) : List α → M (List β)
  | [] => mPure []
  | x :: r => mBind (f x) fun y => mBind (seqM f r) fun q => mPure (y :: q)
def rangeD (i j s : Int) : Option (List D) :=
  if -(2 ^ 62) ≤ i ∧ i < 2 ^ 62 ∧ -(2 ^ 62) ≤ j ∧ j < 2 ^ 62 then
    (if s = 1 then some ((List.range (j - i).toNat).map fun k => .int (i + (k : Nat)))
    else if s = -1 then some ((List.range (i - j).toNat).map fun k => .int (i + (k : Nat) * (-1))) else none)
  else none
def enumD (k : Nat) : List D → List D
  | [] => []
  | x :: r => .node .tup true [.int (k : Nat), x] :: enumD (k + 1) r
def zipD : List D → List D → List D
  | x :: xs, y :: ys => .node .tup true [x, y] :: zipD xs ys
  | _, _ => []
/-- built-ins of values -/
def callB (f : Str) (vs : List D) : Option D :=
  if f = ("int" : Str) then (match vs with
    | [.int i] => some (.int i)
    | [.bl b] => some (.int (if b then 1 else 0))
    | _ => none)
  else if f = ("abs" : Str) then (match vs with
    | [.int i] => some (.int (if i < 0 then -i else i))
    | _ => none)
  else if f = ("min" : Str) then (match vs with
    | [.int i, .int j] => some (.int (if j < i then j else i))
    | _ => none)
  else if f = ("max" : Str) then (match vs with
    | [.int i, .int j] => some (.int (if j > i then j else i))
    | _ => none)
  else none
def isB (f : Str) : Bool := decide (f = ("int" : Str)) || decide (f = ("abs" : Str)) || decide (f = ("min" : Str)) || decide (f = ("max" : Str))
def blsD : List D → Option (List Bool)
  | [] => some []
  | .bl b :: r => (blsD r).map (b :: ·)
  | _ => none
/-- built-ins of one thing that is only read; its items are shared -/
def callO (f : Str) (d : D) : Option D :=
  if f = ("list" : Str) then (match d with
    | .node .lst _ xs => some (.node .lst true xs)
    | .node .rol _ xs => some (.node .lst true xs)
    | .node .tup _ xs => some (.node .lst true xs)
    | _ => none)
  else if f = ("tuple" : Str) then (match d with
    | .node .lst _ xs => some (.node .tup true xs)
    | .node .rol _ xs => some (.node .tup true xs)
    | _ => none)
  else if f = ("all" : Str) then (match d with
    | .node .lst _ xs => (blsD xs).map fun bs => .bl (bs.all id)
    | _ => none)
  else if f = ("any" : Str) then (match d with
    | .node .lst _ xs => (blsD xs).map fun bs => .bl (bs.any id)
    | _ => none)
  else none
def isRange : Expr → Option (List Expr)
  | .Call (.Name f _) as [] _ => if f = ("range" : Str) then some as else none
  | _ => none
def cutL (xs : List D) (lo hi : Option Int) : List D := (xs.drop (HT.sIx xs.length 0 lo)).take (HT.sIx xs.length xs.length hi - HT.sIx xs.length 0 lo)
def cutD (d : D) (lo hi : Option Int) : Option D := match d with
  | .node .lst _ xs => some (.node .lst true (cutL xs lo hi))
  | .node .rol _ xs => some (.node .lst true (cutL xs lo hi))
  | .node .tup _ xs => if HT.sIx xs.length 0 lo = 0 ∧ HT.sIx xs.length xs.length hi = xs.length then some (.node .tup false xs) else some (.node .tup true (cutL xs lo hi))
  | .str s => if s.length ≤ sizeLine then some (.str (cutS s lo hi)) else none
  | _ => none
end Z

set_option Elab.async false
set_option linter.all false
set_option maxRecDepth 100000
set_option maxHeartbeats 4000000
namespace Z
open PySem PySem.Spec PyProof.Rows L2

def mFrz (m : M D) : M D := fun η => match m η with
  | some (.ok d η') => some (.ok d.frz η')
  | x => x
def setFrz (i : Nat) (η : List D) : List D := match η[i]? with
  | some d => η.set i d.frz
  | none => η
/-- the thing d at the end of a way is shared from now on -/
def setFrzP (i : Nat) (p : List Nat) (d : D) (η : List D) : List D := match η[i]? with
  | some d0 => η.set i (d0.putAt p d.frz)
  | none => η
def Cs.isFn (c : Cs) (x : Str) : Option Fn := if c.glob x = true then (match c.g x with
  | some (.fn f) => some f
  | _ => none) else none
def Cs.isCl (c : Cs) (x : Str) : Option Cl := if c.glob x = true then (match c.g x with
  | some (.cls f) => some f
  | _ => none) else none
/-- the fields of the exception that the suite holds, if it is asked -/
def Cs.curOf (c : Cs) (a : Expr) : Option (List (Str × D)) := match c.cur, isName a with
  | some (i, fs), some x => if c.slot x = some i then some fs else none
  | _, _ => none
/-- isinstance's second argument: names of classes -/
def isaNames : Expr → Option (List Str)
  | .Name x _ => some [x]
  | .Tuple es _ _ => if es.length ≤ 100 ∧ es.length ≠ 0 then es.mapM isName else none
  | _ => none
/-- a name or a constant: to read it changes nothing -/
def isRo : Expr → Bool
  | .Name _ _ => true
  | .Constant _ _ _ => true
  | _ => false
def isSetE : Expr → Bool
  | .Set _ _ _ => true
  | _ => false
/-- one part of a slice -/
def partD : D → Option (Option Int)
  | .int i => some (some i)
  | _ => none

def isTupE : Expr → Bool
  | .Tuple _ _ _ => true
  | _ => false
/-- range, enumerate, zip of things: which, and their arguments -/
def walkOf (c : Cs) : Expr → Option (Nat × List Expr)
  | .Call (.Name f _) args [] _ => if c.bltn f = true ∧ args.any isStar = false then
      (if f = ("range" : Str) then some (0, args) else if f = ("enumerate" : Str) then some (1, args) else if f = ("zip" : Str) then some (2, args) else none) else none
  | _ => none
/-- a comprehension's own slots, if its names are in order -/
def lcOwn (c : Cs) (tg : Expr) (scope : Scope) : Option (List Nat) := match namesOf tg with
  | some xs => (match xs.mapM (slotOf c.N) with
    | some vs => if (blkC c.N c.sc scope (xs.zip vs) && xs.all fun x => scope.names.lookup x == some .local || scope.names.lookup x == some .cell) = true then some vs else none
    | none => none)
  | none => none
def Cs.blk (c : Cs) (scope : Scope) (vs : List Nat) : Cs := { c with sc := relS scope c.sc, P := fun i => !vs.contains i }
def lcRun (c : Cs) (tg : Expr) (vs : List Nat) (test : M Bool) (elt : M D) (items : List D) : M D := fun η1 =>
  match lcL (fun d η => c.bind tg d (wipeD vs η)) test elt items [] (frzAt vs η1) with
  | some (acc, η4) => some (.ok (.node .lst true acc) (backD vs (frzAt vs η1) η4))
  | none => none
mutual
/-- the value; what is not new is shared from now on -/
def evE (c : Cs) : Nat → Expr → M D
  | 0, _ => fun _ => none
  | n + 1, e => match e with
    | .Constant k _ _ => mOpt (constD k)
    | .Name x _ => (match c.slot x with
      | some i => fun η => match η[i]? with
        | some d => if d.bound = true then some (.ok d.frz (η.set i d.frz)) else none
        | none => none
      | none => if c.glob x = true then (match c.g x with
        | some (.val d) => mPure d
        | _ => fun _ => none) else fun _ => none)
    | .Tuple es _ _ => if es.any isStar then fun _ => none else mBind (seqM (evE c n) es) fun ds => if ds.length ≤ sizeLine then mPure (.node .tup true ds) else fun _ => none
    | .List es _ => if es.any isStar then fun _ => none else mBind (seqM (evE c n) es) fun ds => if ds.length ≤ sizeLine then mPure (.node .lst true ds) else fun _ => none
    | .BinOp a op b _ => mBind (mFrz (evE c n a)) fun x => mBind (mFrz (evE c n b)) fun y => mOpt (binD op x y)
    | .UnaryOp .USub a _ => mBind (evE c n a) fun x => match x with
      | .int i => mPure (.int (-i))
      | _ => fun _ => none
    | .UnaryOp .Not a _ => mBind (evR c n a) fun x => mOpt ((truthD x).map fun b => .bl !b)
    | .BoolOp .And es _ => evAnd c n es
    | .BoolOp .Or es _ => evOr c n es
    | .IfExp t a b _ => mBind (evT c n t) fun k => if k = true then evE c n a else evE c n b
    | .Compare a [op] [b] _ => if isSetE b then fun _ => none else mBind (if isRo b = true then evR c n a else mFrz (evE c n a)) fun x => mBind (evR c n b) fun y => mOpt ((c.cmpX op x y).map .bl)
    | .Compare a [op, op2] [b, b2] _ => if op2 == .In || op2 == .NotIn then fun _ => none else mBind (mFrz (evE c n a)) fun x => mBind (mFrz (evE c n b)) fun y => mBind (mOpt (cmpD op x y)) fun k =>
        if k = true then mBind (evR c n b2) fun z => mOpt ((cmpD op2 y z).map .bl) else mPure (.bl false)
    | .Subscript a (.Slice lo hi none _) _ => mBind (mFrz (evE c n a)) fun x =>
        mBind (evPart c n lo) fun l => mBind (evPart c n hi) fun h => mOpt (cutD x l h)
    | .Subscript a b p => fun η => match evP c n (.Subscript a b p) η with
      | some (i, p, d) => if d.still = true then some (.ok d η) else some (.ok d.frz (setFrzP i p d η))
      | none => if isSlice b then none else mBind (evE c n a) (fun x => mBind (evE c n b) fun y => mOpt (idxD x y)) η
    | .Attribute a f p => fun η => match c.curOf a with
      | some fs => (fs.lookup f).map fun d => .ok d η
      | none => match evP c n (.Attribute a f p) η with
        | some (i, p, d) => if d.still = true then some (.ok d η) else some (.ok d.frz (setFrzP i p d η))
        | none => none
    | .Call (.Name f _) args kws _ => if args.any isStar then fun _ => none else match (if c.cur.isSome then none else c.isFn f) with
      | some fn => (match kwNames kws with
        | some ks => match findShape args.length ks fn.shapes with
          | some sh => mBind (seqM (evA c n) args) fun as => mBind (seqM (evA c n) (kws.map (·.value))) fun zs => callF fn sh (as ++ zs)
          | none => fun _ => none
        | none => fun _ => none)
      | none => match (if c.cur.isSome then none else c.isCl f) with
        | some cl => (match cl.exc, cl.init, kwNames kws with
          | none, some fn, some ks => (match findShape (args.length + 1) ks fn.shapes with
            | some sh => mBind (seqM (evA c n) args) fun as => mBind (seqM (evA c n) (kws.map (·.value))) fun zs => callC f fn sh (as ++ zs)
            | none => fun _ => none)
          | _, _, _ => fun _ => none)
        | none => if c.bltn f = true ∧ kws.isEmpty = true then
            (if f = ("len" : Str) then (match args with
              | [a] => mBind (evR c n a) fun x => mOpt ((lenD x).map fun (m : Nat) => D.int m)
              | _ => fun _ => none)
            else if f = ("isinstance" : Str) then (match args with
              | [a, t] => (match isaNames t with
                | some xs => if !(xs.all c.isTgt) then fun _ => none else mBind (evR c n a) fun x => mOpt ((c.isaAny x xs).map .bl)
                | none => fun _ => none)
              | _ => fun _ => none)
            else if f = ("list" : Str) ∨ f = ("tuple" : Str) ∨ f = ("all" : Str) ∨ f = ("any" : Str) then (match args with
              | [a] => (match isRange a with
                | some [x] => if c.cur.isSome || !c.bltn ("range" : Str) || !(decide (f = ("list" : Str)) || decide (f = ("tuple" : Str))) || isStar x then fun _ => none else mBind (evE c n x) fun d => match d with
                  | .int j => mOpt (rangeC f 0 j)
                  | _ => fun _ => none
                | some [x, y] => if c.cur.isSome || !c.bltn ("range" : Str) || !(decide (f = ("list" : Str)) || decide (f = ("tuple" : Str))) || isStar x || isStar y then fun _ => none else mBind (evE c n x) fun d => mBind (evE c n y) fun d2 => match d, d2 with
                  | .int i, .int j => mOpt (rangeC f i j)
                  | _, _ => fun _ => none
                | some _ => fun _ => none
                | none => if c.cur.isSome then fun _ => none else mBind (evO c n a) fun x => mOpt (callO f x))
              | _ => fun _ => none)
            else if c.cur.isSome || !isB f || args.isEmpty then fun _ => none else mBind (seqM (evE c n) args) fun vs => mOpt (callB f vs)) else fun _ => none
    | .Call (.Attribute o m ap) args kws pos => if args.any isStar || c.cur.isSome || !(ap.endLine == pos.line) || !decide (args.length + kws.length < 29) || !okBase o then fun _ => none else match kwNames kws with
      | none => fun _ => none
      | some ks => fun η => match evP c n o η with
        | some (i, p, .node .lst true xs0) => if !kws.isEmpty || !isML m then none else if p = [] then (match seqM (evE c n) args η with
            | some (.ok vs η1) => (match η1[i]? with
              | some (.node .lst true xs) => (match methL m xs vs with
                | some (d, xs') => some (.ok d (η1.set i (.node .lst true xs')))
                | none => none)
              | _ => none)
            | some (.exc x fs η1) => some (.exc x fs η1)
            | none => none)
          else (match args.mapM (fun a => evX c n a η) with
            | some vs => (match η[i]? with
              | some d0 => (match methL m xs0 vs with
                | some (d, xs') => some (.ok d (η.set i (d0.putAt p (.node .lst true xs'))))
                | none => none)
              | none => none)
            | none => none)
        | some (i, p, .node (.obj x fs) ow xs) => (match c.methOf x m fs with
          | some fn => (match findShape (args.length + 1) ks fn.shapes with
            | some sh => if p = [] then mBind (seqM (evA c n) args) (fun as => mBind (seqM (evA c n) (kws.map (·.value))) fun zs => callF fn sh (.slot i :: (as ++ zs))) η
              else if (D.node (.obj x fs) ow xs).still = true then mBind (seqM (evA c n) args) (fun as => mBind (seqM (evA c n) (kws.map (·.value))) fun zs => callF fn sh (.tmp (.node (.obj x fs) ow xs) :: (as ++ zs))) η else none
            | none => none)
          | none => none)
        | some _ => none
        | none => mBind (evE c n o) (fun x => match x with
          | .node (.obj y fs) _ _ => (match c.methOf y m fs with
            | some fn => (match findShape (args.length + 1) ks fn.shapes with
              | some sh => mBind (seqM (evA c n) args) fun as => mBind (seqM (evA c n) (kws.map (·.value))) fun zs => callF fn sh (.tmp x :: (as ++ zs))
              | none => fun _ => none)
            | none => fun _ => none)
          | _ => fun _ => none) η
    | .ListComp elt [⟨tg, iter, ifs, 0⟩] scope _ => if c.cur.isSome || isSetE iter then fun _ => none else match lcOwn c tg scope with
      | none => fun _ => none
      | some vs => mBind (evI c n (isTupE tg) iter) fun items => lcRun (c.blk scope vs) tg vs (match ifs with
          | [] => mPure true
          | [t] => evT (c.blk scope vs) n t
          | _ => fun _ => none) (evE (c.blk scope vs) n elt) items
    | _ => fun _ => none
/-- a and b and ..: by truth -/
def evAnd (c : Cs) : Nat → List Expr → M D
  | 0, _ => fun _ => none
  | _ + 1, [] => fun _ => none
  | n + 1, [a] => evE c n a
  | n + 1, a :: r => mBind (evE c n a) fun x => match truthD x with
    | some true => evAnd c n r
    | some false => mPure x
    | none => fun _ => none
def evOr (c : Cs) : Nat → List Expr → M D
  | 0, _ => fun _ => none
  | _ + 1, [] => fun _ => none
  | n + 1, [a] => evE c n a
  | n + 1, a :: r => mBind (evE c n a) fun x => match truthD x with
    | some false => evOr c n r
    | some true => mPure x
    | none => fun _ => none
def evPart (c : Cs) : Nat → Option Expr → M (Option Int)
  | 0, _ => fun _ => none
  | _ + 1, none => mPure none
  | n + 1, some e => mBind (evE c n e) fun x => mOpt (partD x)
/-- only read: nothing becomes shared -/
def evR (c : Cs) : Nat → Expr → M D
  | 0, _ => fun _ => none
  | n + 1, e => fun η => match evP c n e η with
    | some (_, _, d) => some (.ok d η)
    | none => evE c n e η
/-- only read, its items are shared -/
def evO (c : Cs) : Nat → Expr → M D
  | 0, _ => fun _ => none
  | n + 1, e => fun η => match evP c n e η with
    | some (i, p, d) => if kidsStill d = true then some (.ok d η) else some (.ok d.frz (setFrzP i p d η))
    | none => mFrz (evE c n e) η
/-- a test -/
def evT (c : Cs) : Nat → Expr → M Bool
  | 0, _ => fun _ => none
  | n + 1, e => match e with
    | .BoolOp .And es _ => evAndT c n es
    | .BoolOp .Or es _ => evOrT c n es
    | .UnaryOp .Not a _ => mBind (evT c n a) fun b => mPure !b
    | .IfExp t a b _ => mBind (evT c n t) fun k => if k = true then evT c n a else evT c n b
    | .Compare a ops bs p => mBind (evE c n (.Compare a ops bs p)) fun x => mOpt (truthD x)
    | _ => mBind (evR c n e) fun x => mOpt (truthD x)
def evAndT (c : Cs) : Nat → List Expr → M Bool
  | 0, _ => fun _ => none
  | _ + 1, [] => fun _ => none
  | n + 1, [a] => evT c n a
  | n + 1, a :: r => mBind (evT c n a) fun b => if b = true then evAndT c n r else mPure false
def evOrT (c : Cs) : Nat → List Expr → M Bool
  | 0, _ => fun _ => none
  | _ + 1, [] => fun _ => none
  | n + 1, [a] => evT c n a
  | n + 1, a :: r => mBind (evT c n a) fun b => if b = true then mPure true else evOrT c n r
/-- an argument: a name's object itself, or a value -/
def evA (c : Cs) : Nat → Expr → M Arg
  | 0, _ => fun _ => none
  | n + 1, e => match (isName e).bind c.slot with
    | some i => fun η => match η[i]? with
      | some d => if d.bound = true then some (.ok (.slot i) η) else none
      | none => none
    | none => mBind (evE c n e) fun d => mPure (.tmp d)
/-- what is walked; tup: the target is a row of names -/
def evI (c : Cs) : Nat → Bool → Expr → M (List D)
  | 0, _, _ => fun _ => none
  | n + 1, tup, e => match walkOf c e with
    | some (0, [a]) => mBind (seqM (fun e => mFrz (evE c n e)) [a]) fun vs => match vs with
      | [.int j] => mOpt (rangeD 0 j 1)
      | _ => fun _ => none
    | some (0, [a, b]) => mBind (seqM (fun e => mFrz (evE c n e)) [a, b]) fun vs => match vs with
      | [.int i, .int j] => mOpt (rangeD i j 1)
      | _ => fun _ => none
    | some (0, [a, b, s]) => mBind (seqM (fun e => mFrz (evE c n e)) [a, b, s]) fun vs => match vs with
      | [.int i, .int j, .int k] => if k = -1 then mOpt (rangeD i j k) else fun _ => none
      | _ => fun _ => none
    | some (1, [a]) => if tup = true then mBind (seqM (fun e => mFrz (evE c n e)) [a]) fun vs => match vs with
      | [.node k _ xs] => if k = .lst ∨ k = .rol ∨ k = .tup then mPure (enumD 0 xs) else fun _ => none
      | _ => fun _ => none
      else fun _ => none
    | some (2, [a, b]) => if tup = true then mBind (seqM (fun e => mFrz (evE c n e)) [a, b]) fun vs => match vs with
      | [.node k _ xs, .node k2 _ ys] => if ((k = .lst ∨ k = .rol) ∧ (k2 = .lst ∨ k2 = .rol)) ∨ (k = .tup ∧ k2 = .tup) then mPure (zipD xs ys) else fun _ => none
      | _ => fun _ => none
      else fun _ => none
    | some _ => fun _ => none
    | none => mBind (mFrz (evE c n e)) fun x => mOpt (itemsD x)
end
end Z

set_option Elab.async false
set_option linter.all false
set_option maxRecDepth 100000
set_option maxHeartbeats 4000000
namespace Z
open PySem PySem.Spec PyProof.Rows L2

example (c : Cs) (η : List D) (p : Pos) : evE c 5 (.Constant (.int 3) 0 p) η = some (.ok (.int 3) η) := rfl

def flE (m : Option (R D)) (k : D → List D → Option Fl) : Option Fl := match m with
  | some (.ok d η) => k d η
  | some (.exc c fs η) => some (.exc c fs η)
  | none => none
def isPar (sc : Scope) (ts vs : List Expr) : Option Bool :=
  if !(ts.length == 2) || vs.length != ts.length then (if ts.length == 3 && vs.length == ts.length then none else some false)
  else if vs.any isStar then none else
  let line := (ts.head?.map fun x => x.pos.line).getD 0
  let names := ts.filterMap fun x => match x with
    | .Name id pos => if (sc.names.lookup id == some NameKind.local && pos.line == line) = true then some id else none
    | _ => none
  if names.length != ts.length || names.eraseDups.length != names.length then some false
  else if vs.all (foldedForSure 8) then some false
  else if vs.all (constantsAlone 8) then none else some true
def isLc : Expr → Bool
  | .ListComp _ _ _ _ => true
  | .SetComp _ _ _ _ => true
  | .DictComp _ _ _ _ _ => true
  | _ => false
/-- an exception that is raised: its class, the values of its fields -/
def excOf (c : Cs) (n : Nat) (e : Expr) : M (Str × List (Str × D)) := match e with
  | .Call (.Name x _) args [] _ => if args.any isStar then fun _ => none else (match c.isCl x with
    | some cl => (match cl.exc with
      | some fs => if args.length = fs.length then mBind (seqM (fun a => mFrz (evE c n a)) args) fun vs => mOpt ((fs.mapM fun f => (vs[f.2]?).map fun d => (f.1, d)).map fun q => (x, q)) else fun _ => none
      | none => fun _ => none)
    | none => fun _ => none)
  | _ => fun _ => none
/-- a clause that is looked after -/
def Cs.hdOk (c : Cs) : ExceptHandler → Bool
  | .ExceptHandler (some (.Name y _)) none (_ :: _) _ => c.glob y && (match c.g y with
    | some (.cls _) => true
    | _ => false)
  | .ExceptHandler (some (.Name y _)) (some nm) (_ :: _) _ => c.glob y && (match c.g y with
    | some (.cls _) => true
    | _ => false) && c.sc.names.lookup nm == some .local && (match slotOf c.N nm with
    | some i => !c.P i
    | none => false)
  | _ => false
/-- the first clause that takes an exception of the class x -/
def clauseOf (c : Cs) (x : Str) : List ExceptHandler → Option (Option (Option Str × List Stmt))
  | [] => some none
  | .ExceptHandler (some (.Name y _)) nm body _ :: r => (match c.g x with
    | some (.cls cl) => if cl.exc.isSome = true then (match cl.isa.lookup y with
      | some true => some (some (nm, body))
      | some false => clauseOf c x r
      | none => none) else none
    | _ => none)
  | _ :: _ => none
/-- the fields are those that the class is known to have -/
def Cs.xfOk (c : Cs) (x : Str) (fs : List (Str × D)) : Bool := match c.g x with
  | some (.cls cl) => (match cl.exc with
    | some gs => fs.all fun q => gs.any fun g => g.1 == q.1
    | none => false)
  | _ => false
def Cs.suite0 (c : Cs) : Cs := { c with cur := some (c.N.length, []) }
def Cs.suiteN (c : Cs) (i : Nat) (fs : List (Str × D)) : Cs := { c with cur := some (i, fs), P := fun j => c.P j || j == i }
def noExc : Option Fl → Option Fl
  | some (.exc _ _ _) => none
  | r => r
def goneAt (i : Nat) : Option Fl → Option Fl
  | some (.nx η) => some (.nx (η.set i .unb))
  | some (.ret d η) => some (.ret d (η.set i .unb))
  | some (.brk η) => some (.brk (η.set i .unb))
  | some (.cnt η) => some (.cnt (η.set i .unb))
  | _ => none
def augOp : Operator → Option (Int → Int → Int)
  | .Add => some fun a b => a + b
  | .Sub => some fun a b => a - b
  | _ => none
def Cs.canStore (c : Cs) (x : Str) : Bool := c.sc.names.lookup x == some .local || c.sc.names.lookup x == some .cell
mutual
def evS (c : Cs) : Nat → Stmt → List D → Option Fl
  | 0, _, _ => none
  | n + 1, st, η => match st with
    | .Pass _ => some (.nx η)
    | .Break _ => some (.brk η)
    | .Continue _ => some (.cnt η)
    | .Return none _ => some (.ret .non η)
    | .Return (some e) _ => (match isName e with
      | some x => (match c.slot x with
        | some i => if c.P i = true then flE (evE c n e η) fun d η1 => some (.ret d η1) else (match η[i]? with
          | some d => if d.bound = true then some (.ret d (η.set i .unb)) else none
          | none => none)
        | none => flE (evE c n e η) fun d η1 => some (.ret d η1))
      | none => flE (evE c n e η) fun d η1 => some (.ret d η1))
    | .Expr (.Constant (.str _) _ _) _ => some (.nx η)
    | .Expr e _ => if isLc e = true then none else flE (evE c n e η) fun _ η1 => some (.nx η1)
    | .Assign [.Name x _] e _ => if (slotOf c.N x).isNone then none else flE (evE c n e η) fun d η1 => (c.store x d η1).map .nx
    | .Assign [.Tuple ts k p] (.Tuple vs k2 p2) _ => if c.cur.isSome then none else (match isPar c.sc ts vs with
      | some true => (match ts with
        | [.Name x _, .Name y _] => if x = y ∨ (slotOf c.N x).isNone = true ∨ (slotOf c.N y).isNone = true then none else (match seqM (evE c n) vs η with
          | some (.ok [d1, d2] η1) => (match c.store x d1 η1 with
            | some η2 => (c.store y d2 η2).map .nx
            | none => none)
          | some (.exc x fs η1) => some (.exc x fs η1)
          | _ => none)
        | _ => none)
      | some false => flE (evE c n (.Tuple vs k2 p2) η) fun d η1 => (c.bind (.Tuple ts k p) d η1).map .nx
      | none => none)
    | .Assign [.Tuple ts k p] e _ => if c.cur.isSome || isLc e then none else flE (evE c n e η) fun d η1 => (c.bind (.Tuple ts k p) d η1).map .nx
    | .Assign [.Subscript o i _] e _ => if isSlice i || isLc e then none else flE (evE c n e η) fun d η1 => (match evP c n o η1, evX c n i η1 with
      | some (j, p, .node .lst true xs), some (.int m) => (match ixN xs.length m, η1[j]? with
        | some k, some d0 => some (.nx (η1.set j (d0.putAt p (.node .lst true (xs.set k d)))))
        | _, _ => none)
      | _, _ => none)
    | .Assign [.Attribute o f _] e _ => if isLc e then none else flE (evE c n e η) fun d η1 => (match evP c n o η1 with
      | some (j, p, .node (.obj x fs) true xs) => (match η1[j]? with
        | some d0 => if fs.length < 1000 ∧ c.isFld x f = true then (match fs.findIdx? (· == f) with
          | some k => some (.nx (η1.set j (d0.putAt p (.node (.obj x fs) true (xs.set k d)))))
          | none => some (.nx (η1.set j (d0.putAt p (.node (.obj x (fs ++ [f])) true (xs ++ [d])))))) else none
        | none => none)
      | _ => none)
    | .AugAssign (.Name x p) op e _ => (match c.slot x, augOp op with
      | some i, some f => if (c.canStore x && !c.P i) = true then (match η[i]? with
        | some (.int a) => flE (evE c n e η) fun d η1 => (match η1[i]?, d with
          | some (.int a'), .int b => if a' = a then (c.store x (.int (f a b)) η1).map .nx else none
          | _, _ => none)
        | _ => none) else none
      | _, _ => none)
    | .If t a b _ => (match evT c n t η with
      | some (.ok true η1) => evSs c n a η1
      | some (.ok false η1) => evSs c n b η1
      | some (.exc x fs η1) => some (.exc x fs η1)
      | none => none)
    | .For tg iter body [] _ => if c.cur.isSome || isSetE iter then none else (match namesOf tg with
      | none => none
      | some xs => if (xs.all fun x => (slotOf c.N x).isSome && (c.sc.names.lookup x == some .local || c.sc.names.lookup x == some .cell)) = true then (match evI c n (isTupE tg) iter η with
        | some (.ok items η1) => forL (c.bind tg) (evSs c n body) items η1
        | some (.exc x fs η1) => some (.exc x fs η1)
        | none => none) else none)
    | .While t body [] _ => whileL (evT c n t) (evSs c n body) c.wf η
    | .Raise (some e) none _ => if c.cur.isSome then none else (match excOf c n e η with
      | some (.ok (x, fs) η1) => some (.exc x fs η1)
      | some (.exc x fs η1) => some (.exc x fs η1)
      | none => none)
    | .Try body hs [] [] _ => if (c.cur.isSome || hs.isEmpty || !(hs.all c.hdOk)) = true then none else (match evSs c n body η with
      | some (.exc x fs η1) => (match clauseOf c x hs with
        | some none => some (.exc x fs η1)
        | some (some (none, sts)) => noExc (evSs (c.suite0) n sts η1)
        | some (some (some nm, sts)) => (match slotOf c.N nm with
          | some i => if i < η1.length ∧ c.xfOk x fs = true then goneAt i (evSs (c.suiteN i fs) n sts (η1.set i .unb)) else none
          | none => none)
        | none => none)
      | r => r)
    | _ => none
def evSs (c : Cs) : Nat → List Stmt → List D → Option Fl
  | 0, _, _ => none
  | _ + 1, [], η => some (.nx η)
  | n + 1, st :: r, η => match evS c n st η with
    | some (.nx η1) => evSs c n r η1
    | x => x
end
/-- a def: its body at its arguments -/
def runF (c : Cs) (n np : Nat) (keep : Nat → Bool) (body : List Stmt) : List D → Option FRes := fun ds =>
  let out := fun (η : List D) => (List.range np).map fun i => if keep i = true then η.getD i .unb else .unb
  if ds.length ≠ np then none else match evSs c n body (ds ++ List.replicate (c.N.length - np) .unb) with
    | some (.nx η) => some (.ret .non (out η))
    | some (.ret d η) => some (.ret d (out η))
    | some (.exc x fs η) => some (.exc x fs (out η))
    | _ => none
end Z

set_option Elab.async false
set_option linter.all false
set_option maxRecDepth 100000
set_option maxHeartbeats 4000000
namespace Z
open PySem PySem.Spec PyProof.Rows L2

/-! ## judgements -/
theorem PE.weak {X : Cx} {e : Expr} {t t' : TE} (h : PE X e t) (w : ∀ σ H Q, t' σ H Q → t σ H Q) : PE X e t' := ⟨fun pins s σ H Q I q => h.run pins s σ H Q I (w σ H Q q)⟩
theorem PT.weak {X : Cx} {e : Expr} {t t' : TT} (h : PT X e t) (w : ∀ σ H Q, t' σ H Q → t σ H Q) : PT X e t' := ⟨fun pins s σ H Q I q => h.run pins s σ H Q I (w σ H Q q)⟩
theorem PA.weak {X : Cx} {e : List Expr} {t t' : TA} (h : PA X e t) (w : ∀ σ H Q, t' σ H Q → t σ H Q) : PA X e t' := ⟨fun pos pins s σ H Q I q => h.run pos pins s σ H Q I (w σ H Q q)⟩

/-- the slots hold the values -/
def Agree (ca : Ca) (σ : L2.St) (e : List (V × D)) : Prop := e.length = σ.length ∧ (∀ (i : Nat) (v : V) (d : D), e[i]? = some (v, d) → d.bound = true → σ[i]? = some (some v)) ∧ ∀ q ∈ ca.pin, σ[q.1]? = some (some q.2)
/-- the fields of an exception lie at its dict -/
def ExD (K : PySem.W.Frag) (ca : Ca) (F : Hp) (dx : Option Addr) (fs : List (Str × D)) : Prop :=
  (fs = [] ∧ dx = none) ∨ ∃ (a : Addr) (vs : List (Str × (V × D))), dx = some a ∧ F a = some (.xd (vs.map fun q => (q.1, q.2.1))) ∧ vs.map (fun q => (q.1, q.2.2)) = fs ∧ DenL K ca F F (vs.map (·.2)) []

section
variable (K : PySem.W.Frag) (ca : Ca) (W : WX) (σ : L2.St) (t : List (V × D)) (F : Hp)
/-- what is wanted behind a run of the runner -/
def PostG {α : Type} (r : Option (R α)) (P : α → List (V × D) → Hp → Hp → Prop) : Prop := match r with
  | none => False
  | some (.ok a η) => ∀ e' H' F', e'.map Prod.snd = η → Agree ca σ e' → Sub F F' → P a e' H' F'
  | some (.exc c fs η) => ∀ dx e' H' F', e'.map Prod.snd = η → Agree ca σ e' → Sub F F' → ExD K ca F' dx fs → Stt K ca H' F' (e' ++ t) → W (.ref (ca.at_ c)) dx σ H'
end
/-- a reading by the runner -/
def tG {α β : Type} (K : PySem.W.Frag) (ca : Ca) (W : WX) (m : M α) (P : (β → Hp → Prop) → List (V × D) → α → List (V × D) → Hp → Hp → Prop) : L2.St → Hp → (β → Hp → Prop) → Prop := fun σ H Q =>
  ∃ (e t : List (V × D)) (F : Hp), Agree ca σ e ∧ Stt K ca H F (e ++ t) ∧ PostG K ca W σ t F (m (e.map Prod.snd)) (P Q t)
/-- a value -/
def pV (K : PySem.W.Frag) (ca : Ca) (Q : V → Hp → Prop) (t : List (V × D)) (d : D) (e : List (V × D)) (H F : Hp) : Prop := ∀ v, Stt K ca H F ((v, d) :: (e ++ t)) → Q v H
/-- a thing that is only read -/
def pR (K : PySem.W.Frag) (ca : Ca) (Q : V → Hp → Prop) (t : List (V × D)) (d : D) (e : List (V × D)) (H F : Hp) : Prop := ∀ v B, Stt K ca H F (e ++ t) → DenL K ca H F [(v, d)] B → Q v H
/-- a test's answer -/
def pB (K : PySem.W.Frag) (ca : Ca) (Q : Bool → Hp → Prop) (t : List (V × D)) (b : Bool) (e : List (V × D)) (H F : Hp) : Prop := Stt K ca H F (e ++ t) → Q b H
abbrev tM (K : PySem.W.Frag) (ca : Ca) (W : WX) (m : M D) : TE := tG K ca W m (pV K ca)
abbrev tMR (K : PySem.W.Frag) (ca : Ca) (W : WX) (m : M D) : TE := tG K ca W m (pR K ca)
abbrev tMB (K : PySem.W.Frag) (ca : Ca) (W : WX) (m : M Bool) : TT := tG K ca W m (pB K ca)

section
variable {K : PySem.W.Frag} {ca : Ca} {W : WX} {σ : L2.St} {t t' : List (V × D)} {F F1 : Hp} {α β : Type}
theorem PostG.bind {m : M α} {f : α → M β} {η : List D} {P : β → List (V × D) → Hp → Hp → Prop} (h : PostG K ca W σ t F (mBind m f η) P) :
    PostG K ca W σ t F (m η) (fun a e' H' F' => PostG K ca W σ t F' (f a (e'.map Prod.snd)) P) := by
  unfold mBind at h
  cases hm : m η with
  | none => rw [hm] at h; exact h
  | some r =>
    rw [hm] at h
    cases r with
    | exc c fs η1 => exact h
    | ok a η1 =>
      intro e' H' F' he ag sb
      subst he
      have h : PostG K ca W σ t F (f a (e'.map Prod.snd)) P := h
      cases hf : f a (e'.map Prod.snd) with
      | none => rw [hf] at h; exact h
      | some r =>
        rw [hf] at h
        cases r with
        | ok b η2 => exact fun e2 H2 F2 he2 ag2 sb2 => h e2 H2 F2 he2 ag2 (sb.trans sb2)
        | exc c fs η2 => exact fun dx e2 H2 F2 he2 ag2 sb2 => h dx e2 H2 F2 he2 ag2 (sb.trans sb2)
/-- more temporaries, other wants -/
theorem PostG.imp {r : Option (R α)} {P P' : α → List (V × D) → Hp → Hp → Prop} (h : PostG K ca W σ t F r P) (ht : ∀ H F e, Stt K ca H F (e ++ t') → Stt K ca H F (e ++ t))
    (hp : ∀ a e H' F', Sub F F' → Agree ca σ e → P a e H' F' → P' a e H' F') : PostG K ca W σ t' F r P' := by
  cases r with
  | none => exact h
  | some r =>
    cases r with
    | ok a η => exact fun e' H' F' he ag sb => hp _ _ _ _ sb ag (h e' H' F' he ag sb)
    | exc c fs η => exact fun dx e' H' F' he ag sb hx st => h dx e' H' F' he ag sb hx (ht _ _ _ st)
theorem PostG.sub {r : Option (R α)} {P : α → List (V × D) → Hp → Hp → Prop} (h : PostG K ca W σ t F r P) (sb : Sub F F1) : PostG K ca W σ t F1 r P := by
  cases r with
  | none => exact h
  | some r =>
    cases r with
    | ok a η => exact fun e' H' F' he ag sb' => h e' H' F' he ag (sb.trans sb')
    | exc c fs η => exact fun dx e' H' F' he ag sb' => h dx e' H' F' he ag (sb.trans sb')
theorem PostG.opt {o : Option α} {η : List D} {P : α → List (V × D) → Hp → Hp → Prop} (h : PostG K ca W σ t F (mOpt o η) P) : ∃ a, o = some a ∧ ∀ e' H' F', e'.map Prod.snd = η → Agree ca σ e' → Sub F F' → P a e' H' F' := by
  unfold mOpt at h
  cases o with
  | none => exact False.elim h
  | some a => exact ⟨a, rfl, h⟩
theorem stt_mid {H F : Hp} {p : V × D} {e t : List (V × D)} (h : Stt K ca H F (p :: (e ++ t))) : Stt K ca H F (e ++ p :: t) := h.perm (List.perm_middle.symm)
theorem stt_drop {H F : Hp} {p : V × D} {e t : List (V × D)} (h : Stt K ca H F (e ++ p :: t)) : Stt K ca H F (e ++ t) := Stt.tail (v := p.1) (d := p.2) (h.perm List.perm_middle)
theorem stt_up {H F : Hp} {p : V × D} {e t : List (V × D)} (h : Stt K ca H F (e ++ p :: t)) : Stt K ca H F (p :: (e ++ t)) := h.perm List.perm_middle
theorem Agree.get {e : List (V × D)} {i : Nat} {v : V} {d : D} (a : Agree ca σ e) (h : e[i]? = some (v, d)) (hb : d.bound = true) : σ[i]? = some (some v) := a.2.1 i v d h hb
theorem Agree.set {e : List (V × D)} {i : Nat} {v : V} {d d' : D} (a : Agree ca σ e) (h : e[i]? = some (v, d)) (hb : d'.bound = true → d.bound = true) : Agree ca σ (e.set i (v, d')) := by
  refine ⟨by rw [List.length_set]; exact a.1, fun j w q hj hq => ?_, a.2.2⟩
  by_cases e1 : i = j
  · subst e1
    have hl : i < e.length := by
      obtain ⟨h1, _⟩ := List.getElem?_eq_some_iff.mp h
      exact h1
    rw [List.getElem?_set_self hl] at hj
    cases hj
    exact a.2.1 i v d h (hb hq)
  · rw [List.getElem?_set_ne e1] at hj
    exact a.2.1 j w q hj hq
/-- a new thing that denotes d -/
def Gives (K : PySem.W.Frag) (ca : Ca) (H F H' : Hp) (v : V) (d : D) : Prop := ∀ l, Stt K ca H F l → Stt K ca H' F ((v, d) :: l)
theorem gives_atom {H F : Hp} {v : V} {d : D} (h : DenL K ca H F [(v, d)] []) : Gives K ca H F H v d := fun l st => st.add h
theorem gives_new {H F : Hp} {p : Addr} {o : HO} {k : Kd} {ps : List (V × D)} (hp : H p = none) (hd : DenL K ca H F ps []) (hn : NdO ca (upd H p o) p k (ps.map Prod.fst)) : Gives K ca H F (upd H p o) (.ref p) (.node k true (ps.map Prod.snd)) :=
  fun l st => (st.add hd).alloc hp hn
/-- what is read of two things at once -/
theorem den_one {H F : Hp} {v : V} {d : D} {l : List (V × D)} (st : Stt K ca H F ((v, d) :: l)) (hs : d.still = true) : DenL K ca H F [(v, d)] [] := by
  obtain ⟨B, hB⟩ := st.den
  have : B = [] := hB.still (by simp [D.stillL, hs])
  subst this
  exact hB
theorem den_two {H F : Hp} {v v' : V} {d d' : D} (h : DenL K ca H F [(v, d)] []) (h' : DenL K ca H F [(v', d')] []) : DenL K ca H F [(v, d), (v', d')] [] := by
  have := h.append h'
  simpa using this
end

/-! ### what the contexts must tell -/
def atomV : D → Option V
  | .non => some .non
  | .bl b => some (.bl b)
  | .int i => some (.int i)
  | .str s => some (.str s)
  | .ty n => some (.ty n)
  | _ => none
/-- where the parameters' values come from -/
def ArrV (as : List Value) : List (Nat ⊕ D) → List Value → Prop
  | [], zs => zs = []
  | .inl j :: r, zs => ∃ z q, zs = z :: q ∧ as[j]? = some z ∧ ArrV as r q
  | .inr d :: r, zs => ∃ z q v, zs = z :: q ∧ atomV d = some v ∧ RelV v z ∧ ArrV as r q
structure ShapeOk (K : PySem.W.Frag) (fd : FuncData) (ps : List Str) (sh : Shape) : Prop where
  to : ∀ (s : Shared) (us ws : List Value), K.In s.heap → us.length = sh.n → ws.length = sh.ks.length → ∃ zs, ArrV (us ++ ws) sh.arr zs ∧ zs.length = ps.length ∧ BindsTo s fd ⟨us, sh.ks.zip ws⟩ (ps.zip zs)
  once : (sh.arr.filterMap fun x => match x with
    | .inl j => some j
    | .inr _ => none).Nodup
/-- a def's promise: what the runner says -/
def spF (K : PySem.W.Frag) (ca : Ca) (np : Nat) (run : List D → Option FRes) : Sp := fun vs H Q E => vs.length = np ∧ ∃ (ds : List D) (t : List (V × D)) (F : Hp), ds.length = np ∧ Stt K ca H F (vs.zip ds ++ t) ∧ match run ds with
  | none => False
  | some (.ret d ds') => ∀ v H' F', Sub F F' → Stt K ca H' F' ((v, d) :: (vs.zip ds' ++ t)) → Q v H'
  | some (.exc c fs ds') => ∀ dx H' F', Sub F F' → ExD K ca F' dx fs → Stt K ca H' F' (vs.zip ds' ++ t) → E (.ref (ca.at_ c)) dx H'
structure FnFact (X : Cx) (ca : Ca) (k : Nat) (fa : Addr) (f : Fn) : Prop where
  ok : ∃ (fd : FuncData) (ps : List Str), ps.length = f.np ∧ FnOk X.prog X.w X.K X.mg X.base (L2.CX X.prog X.w) k fa fd ps (spF X.K ca f.np f.run) ∧ ∀ sh ∈ f.shapes, ShapeOk X.K fd ps sh
  kp : PySem.W.keepIn X.K (.ref fa) = true
  len : ∀ ds d ds', f.run ds = some (.ret d ds') → ds'.length = f.np
  len2 : ∀ ds x fs ds', f.run ds = some (.exc x fs ds') → ds'.length = f.np
end Z

set_option Elab.async false
set_option linter.all false
set_option maxRecDepth 100000
set_option maxHeartbeats 4000000
namespace Z
open PySem PySem.Spec PyProof.Rows L2
section
variable {K : PySem.W.Frag} {ca : Ca} {H F H' : Hp} {v : V} {B : List Addr} {X : Cx}
theorem NdO.toF {a : Addr} {k : Kd} {ws : List V} (h : NdO ca H a k ws) : NdF K ca H a k ws := h.frz rfl
/-! ### reading one thing -/
theorem den_node {k : Kd} {o : Bool} {xs : List D} (h : DenL K ca H F [(v, .node k o xs)] B) (sb : Sub F H) : ∃ a ps B', v = .ref a ∧ ps.map Prod.snd = xs ∧ NdF K ca H a k (ps.map Prod.fst) ∧ DenL K ca H F ps B' := by
  cases h with
  | frz hn hx hc _ => exact ⟨_, _, _, rfl, hx, hn.mono sb, hc⟩
  | own hn hx hc _ => exact ⟨_, _, _, rfl, hx, hn.toF, hc⟩
theorem den_node0 {k : Kd} {o : Bool} {xs : List D} (h : DenL K ca H F [(v, .node k o xs)] []) : o = false ∧ ∃ a ps, v = .ref a ∧ ps.map Prod.snd = xs ∧ NdF K ca F a k (ps.map Prod.fst) ∧ DenL K ca H F ps [] := by
  cases h with
  | frz hn hx hc _ => exact ⟨rfl, _, _, rfl, hx, hn, hc⟩
theorem den_int {i : Int} (h : DenL K ca H F [(v, .int i)] B) : v = .int i := by cases h; rfl
theorem den_bl {b : Bool} (h : DenL K ca H F [(v, .bl b)] B) : v = .bl b := by cases h; rfl
theorem den_str {x : Str} (h : DenL K ca H F [(v, .str x)] B) : v = .str x := by cases h; rfl
theorem den_non (h : DenL K ca H F [(v, .non)] B) : v = .non := by cases h; rfl
theorem den_ty {n : String} (h : DenL K ca H F [(v, .ty n)] B) : v = .ty n := by cases h; rfl
theorem den_atom {d : D} {w : V} (h : atomV d = some w) : DenL K ca H F [(w, d)] [] := by
  cases d <;> simp only [atomV] at h
  case non => cases h; exact .non .nil
  case bl b => cases h; exact .bl .nil
  case int i => cases h; exact .int .nil
  case str s => cases h; exact .str .nil
  case ty n => cases h; exact .ty .nil
  all_goals cases h
theorem den_eq {d : D} {w : V} (h : atomV d = some w) (q : DenL K ca H F [(v, d)] B) : v = w := by
  cases d <;> simp only [atomV] at h
  case non => cases h; exact den_non q
  case bl b => cases h; exact den_bl q
  case int i => cases h; exact den_int q
  case str s => cases h; exact den_str q
  case ty n => cases h; exact den_ty q
  all_goals cases h
theorem len_map2 {ps : List (V × D)} {xs : List D} (h : ps.map Prod.snd = xs) : (ps.map Prod.fst).length = xs.length := by
  rw [← h, List.length_map, List.length_map]

/-! ### two-place operations -/
def rBin (K : PySem.W.Frag) (ca : Ca) (op : Operator) : R2 := fun x y H Q => ∃ (F : Hp) (dx dy d : D), Sub F H ∧ DenL K ca H F [(x, dx)] [] ∧ DenL K ca H F [(y, dy)] [] ∧ binD op dx dy = some d ∧ ∀ v H', Gives K ca H F H' v d → Q v H'
theorem op_bin (op : Operator) : OpR X (binaryOp op) (rBin X.K ca op) := by
  intro pins s σ H x y v u Q I rx ry h
  obtain ⟨F, dx, dy, d, sb, hx, hy, hd, q⟩ := h
  unfold binD at hd
  split at hd
  · cases hd; cases den_int hx; cases den_int hy
    exact op_add pins s σ H _ _ v u Q I rx ry ⟨_, _, rfl, rfl, q _ _ (gives_atom (.int .nil))⟩
  · cases hd; cases den_int hx; cases den_int hy
    exact op_sub pins s σ H _ _ v u Q I rx ry ⟨_, _, rfl, rfl, q _ _ (gives_atom (.int .nil))⟩
  · split at hd
    · rename_i hc
      cases hd; cases den_int hx; cases den_int hy
      exact op_mul pins s σ H _ _ v u Q I rx ry ⟨_, _, rfl, rfl, hc, q _ _ (gives_atom (.int .nil))⟩
    · cases hd
  · split at hd
    · rename_i hc
      cases hd; cases den_int hx; cases den_int hy
      exact op_modN pins s σ H _ _ v u Q I rx ry ⟨_, _, rfl, rfl, hc, q _ _ (gives_atom (.int .nil))⟩
    · cases hd
  · split at hd
    · rename_i hc
      cases hd; cases den_int hx; cases den_int hy
      exact op_fdivN pins s σ H _ _ v u Q I rx ry ⟨_, _, rfl, rfl, hc, q _ _ (gives_atom (.int .nil))⟩
    · cases hd
  · split at hd
    · rename_i hc
      cases hd; cases den_int hx; cases den_int hy
      exact op_pow pins s σ H _ _ v u Q I rx ry ⟨_, _, rfl, rfl, hc, q _ _ (gives_atom (.int .nil))⟩
    · cases hd
  · split at hd
    · rename_i hc
      cases hd; cases den_str hx; cases den_str hy
      exact op_add_str pins s σ H _ _ v u Q I rx ry ⟨_, _, rfl, rfl, hc, q _ _ (gives_atom (.str .nil))⟩
    · cases hd
  · split at hd
    · rename_i hc
      cases hd
      obtain ⟨rfl, a, ps, rfl, e1, n1, c1⟩ := den_node0 hx
      obtain ⟨rfl, b, qs, rfl, e2, n2, c2⟩ := den_node0 hy
      refine op_cat pins s σ H _ _ v u Q I rx ry ⟨_, _, _, _, rfl, rfl, sb _ _ n1, sb _ _ n2, ?_, fun p hp => q _ _ ?_⟩
      · rw [len_map2 e1, len_map2 e2]; exact hc
      · have := gives_new (K := X.K) (ca := ca) (F := F) (k := .lst) (ps := ps ++ qs) (o := .lst (ps.map Prod.fst ++ qs.map Prod.fst)) hp (by simpa using c1.append c2) (by rw [List.map_append]; exact upd_same)
        rw [List.map_append, e1, e2] at this
        exact this
    · cases hd
  · split at hd
    · rename_i hc
      cases hd
      obtain ⟨rfl, a, ps, rfl, e1, n1, c1⟩ := den_node0 hx
      obtain ⟨rfl, b, qs, rfl, e2, n2, c2⟩ := den_node0 hy
      have l1 := len_map2 e1
      have l2 := len_map2 e2
      refine op_catA pins s σ H _ _ v u Q I rx ry ⟨_, _, _, _, rfl, rfl, NdF.mono (k := .tup) n1 sb, NdF.mono (k := .tup) n2 sb, ?_, fun e => ?_, fun ne e => ?_, fun ne ne' p hp => ?_⟩
      · rw [l1, l2]; exact hc
      · have h1 : ps = [] := by simpa using e
        subst h1
        simp only [List.map_nil] at e1
        rw [← e1] at q
        refine q _ _ (gives_atom ?_)
        simpa using DenL.frz n2 e2 c2 .nil
      · have h1 : qs = [] := by simpa using e
        subst h1
        simp only [List.map_nil] at e2
        rw [← e2] at q
        refine q _ _ (gives_atom ?_)
        simpa using DenL.frz n1 e1 c1 .nil
      · have h1 : ps ≠ [] := fun z => ne (by rw [z]; rfl)
        have h2 : qs ≠ [] := fun z => ne' (by rw [z]; rfl)
        refine q _ _ ?_
        have := gives_new (K := X.K) (ca := ca) (F := F) (k := .tup) (ps := ps ++ qs) (o := .tup (ps.map Prod.fst ++ qs.map Prod.fst)) hp (by simpa using c1.append c2) (by rw [List.map_append]; exact upd_same)
        rw [List.map_append, e1, e2] at this
        have o1 : (!(ps.map Prod.snd).isEmpty && !(qs.map Prod.snd).isEmpty) = true := by
          cases ps with
          | nil => exact absurd rfl h1
          | cons => cases qs with
            | nil => exact absurd rfl h2
            | cons => rfl
        rw [e1, e2] at o1
        rw [o1]
        exact this
    · cases hd
  · cases hd

/-! ### truth, length -/
theorem tru_of {d : D} {b : Bool} (h : DenL K ca H F [(v, d)] B) (sb : Sub F H) (e : truthD d = some b) : TruV K v H b := by
  unfold truthD at e
  split at e
  · cases e; cases den_non h; rfl
  · cases e; cases den_bl h; rfl
  · cases e; cases den_int h; rfl
  · split at e
    · rename_i hc
      cases e; cases den_str h; exact ⟨hc, rfl⟩
    · cases e
  · cases e
    obtain ⟨a, ps, B', rfl, e1, n1, _⟩ := den_node h sb
    refine .inl ⟨_, .inl (.inl n1), ?_⟩
    rw [← e1]; cases ps <;> rfl
  · cases e
    obtain ⟨a, ps, B', rfl, e1, n1, _⟩ := den_node h sb
    refine .inl ⟨_, n1, ?_⟩
    rw [← e1]; cases ps <;> rfl
  · cases e
    obtain ⟨a, ps, B', rfl, e1, n1, _⟩ := den_node h sb
    refine .inr (.inl ⟨_, n1, ?_⟩)
    rw [← e1]; cases ps <;> rfl
  · cases e
theorem len_of {d : D} {n : Nat} (h : DenL K ca H F [(v, d)] B) (sb : Sub F H) (e : lenD d = some n) : LenV K v H n := by
  unfold lenD at e
  split at e
  · cases e
    obtain ⟨a, ps, B', rfl, e1, n1, _⟩ := den_node h sb
    exact .inl ⟨_, .inl (.inl n1), (len_map2 e1).symm⟩
  · cases e
    obtain ⟨a, ps, B', rfl, e1, n1, _⟩ := den_node h sb
    exact .inl ⟨_, n1, (len_map2 e1).symm⟩
  · cases e
    obtain ⟨a, ps, B', rfl, e1, n1, _⟩ := den_node h sb
    exact .inr ⟨_, n1, (len_map2 e1).symm⟩
  · split at e
    · rename_i hc
      cases e; cases den_str h; exact ⟨hc, rfl⟩
    · cases e
  · cases e

/-! ### comparisons -/
theorem py_of : ∀ {l : List (V × D)} {B : List Addr}, DenL K ca H F l B → Sub F H → ∀ {xs : List PyData}, D.pyL (l.map Prod.snd) = some xs → DpAll K H (l.map Prod.fst) xs := by
  intro l B h sb
  have pyc : ∀ {d : D} {l : List (V × D)} {xs : List PyData}, D.pyL (d :: l.map Prod.snd) = some xs → ∃ y q, d.py = some y ∧ D.pyL (l.map Prod.snd) = some q ∧ xs = y :: q := by
    intro d l xs e
    unfold D.pyL at e
    split at e
    · rename_i y q h1 h2
      cases e
      exact ⟨y, q, h1, h2, rfl⟩
    · cases e
  induction h with
  | nil => intro xs e; cases e; exact .nil
  | unb _ ih =>
    intro xs e
    obtain ⟨y, q, h1, h2, rfl⟩ := pyc e
    simp [D.py] at h1
  | ty _ ih =>
    intro xs e
    obtain ⟨y, q, h1, h2, rfl⟩ := pyc e
    simp [D.py] at h1
  | non _ ih =>
    intro xs e
    obtain ⟨y, q, h1, h2, rfl⟩ := pyc e
    cases h1
    exact .cons .non (ih h2)
  | bl _ ih =>
    intro xs e
    obtain ⟨y, q, h1, h2, rfl⟩ := pyc e
    cases h1
    exact .cons (.bl _) (ih h2)
  | int _ ih =>
    intro xs e
    obtain ⟨y, q, h1, h2, rfl⟩ := pyc e
    cases h1
    exact .cons (.int _) (ih h2)
  | str _ ih =>
    intro xs e
    obtain ⟨y, q, h1, h2, rfl⟩ := pyc e
    cases h1
    exact .cons (.str _) (ih h2)
  | @frz a k xs ps l A hn hx hc hl ih1 ih2 =>
    intro zs e
    obtain ⟨y, q, h1, h2, rfl⟩ := pyc e
    refine .cons ?_ (ih2 h2)
    cases k with
    | obj c fs => simp [D.py] at h1
    | lst =>
      simp only [D.py, Option.map_eq_some_iff] at h1
      obtain ⟨z, hz, rfl⟩ := h1
      rw [← hx] at hz
      exact .lst (.inl (.inl (sb _ _ hn))) (ih1 hz)
    | rol =>
      simp only [D.py, Option.map_eq_some_iff] at h1
      obtain ⟨z, hz, rfl⟩ := h1
      rw [← hx] at hz
      exact .lst (NdF.mono (k := .rol) hn sb) (ih1 hz)
    | tup =>
      simp only [D.py, Option.map_eq_some_iff] at h1
      obtain ⟨z, hz, rfl⟩ := h1
      rw [← hx] at hz
      exact .tup (NdF.mono (k := .tup) hn sb) (ih1 hz)
  | @own a k xs ps l A B hn hx hc hl ih1 ih2 =>
    intro zs e
    obtain ⟨y, q, h1, h2, rfl⟩ := pyc e
    refine .cons ?_ (ih2 h2)
    cases k with
    | obj c fs => simp [D.py] at h1
    | lst =>
      simp only [D.py, Option.map_eq_some_iff] at h1
      obtain ⟨z, hz, rfl⟩ := h1
      rw [← hx] at hz
      exact .lst (.inl (.inl hn)) (ih1 hz)
    | rol =>
      simp only [D.py, Option.map_eq_some_iff] at h1
      obtain ⟨z, hz, rfl⟩ := h1
      rw [← hx] at hz
      exact .lst (.inl (.inl hn)) (ih1 hz)
    | tup =>
      simp only [D.py, Option.map_eq_some_iff] at h1
      obtain ⟨z, hz, rfl⟩ := h1
      rw [← hx] at hz
      exact .tup (.inl (.inl hn)) (ih1 hz)
theorem py_one {d : D} {y : PyData} (h : DenL K ca H F [(v, d)] B) (sb : Sub F H) (e : d.py = some y) : Dp K H v y := by
  have e2 : D.pyL ([(v, d)].map Prod.snd) = some [y] := by
    show D.pyL [d] = _
    unfold D.pyL
    rw [e]
    rfl
  have := py_of h sb e2
  cases this with
  | cons h _ => exact h
theorem eqS_scal {a b : D} {r : Bool} {x y : V} {B C : List Addr} (h : eqS a b = some r) (hx : DenL K ca H F [(x, a)] B) (hy : DenL K ca H F [(y, b)] C) : scal x y = true ∧ decide (x = y) = r := by
  unfold eqS at h
  split at h <;> first | cases h | skip
  all_goals first
    | (cases den_non hx; cases den_non hy; exact ⟨rfl, by simp⟩)
    | (cases den_non hx; cases den_int hy; exact ⟨rfl, by simp⟩)
    | (cases den_int hx; cases den_non hy; exact ⟨rfl, by simp⟩)
    | (cases den_non hx; cases den_bl hy; exact ⟨rfl, by simp⟩)
    | (cases den_bl hx; cases den_non hy; exact ⟨rfl, by simp⟩)
    | (cases den_non hx; cases den_str hy; exact ⟨rfl, by simp⟩)
    | (cases den_str hx; cases den_non hy; exact ⟨rfl, by simp⟩)
    | (cases den_int hx; cases den_int hy; exact ⟨rfl, by simp⟩)
    | (cases den_bl hx; cases den_bl hy; exact ⟨rfl, by simp⟩)
    | (cases den_str hx; cases den_str hy; exact ⟨rfl, by simp⟩)
    | (cases den_int hx; cases den_str hy; exact ⟨rfl, by simp⟩)
    | (cases den_str hx; cases den_int hy; exact ⟨rfl, by simp⟩)
    | (cases den_bl hx; cases den_str hy; exact ⟨rfl, by simp⟩)
    | (cases den_str hx; cases den_bl hy; exact ⟨rfl, by simp⟩)
def rCmp (K : PySem.W.Frag) (ca : Ca) (op : CmpOp) : R2 := fun x y H Q => ∃ (F : Hp) (dx dy : D) (B C : List Addr) (b : Bool), Sub F H ∧ DenL K ca H F [(x, dx)] B ∧ DenL K ca H F [(y, dy)] C ∧ cmpD op dx dy = some b ∧ Q (.bl b) H
theorem flat_of : ∀ {l : List (V × D)} {B : List Addr}, DenL K ca H F l B → (l.map Prod.snd).all flatD = true → (l.map Prod.fst).all flatV = true ∧ ∀ (v : V) (x : D) (C : List Addr), DenL K ca H F [(v, x)] C → flatD x = true → (l.map Prod.fst).any (fun y => eqV y v) = (l.map Prod.snd).any (fun y => eqF y x) := by
  intro l B h
  have one : ∀ {w v : V} {y x : D} {B C : List Addr}, DenL K ca H F [(w, y)] B → DenL K ca H F [(v, x)] C → flatD y = true → flatD x = true → eqV w v = eqF y x := by
    intro w v y x B C h1 h2 f1 f2
    cases y <;> simp only [flatD, Bool.false_eq_true] at f1 <;> cases x <;> simp only [flatD, Bool.false_eq_true] at f2
    all_goals (first | cases den_non h1 | cases den_bl h1 | cases den_int h1 | cases den_str h1)
    all_goals (first | cases den_non h2 | cases den_bl h2 | cases den_int h2 | cases den_str h2)
    all_goals rfl
  induction h with
  | nil => exact fun _ => ⟨rfl, fun _ _ _ _ _ => rfl⟩
  | unb _ ih => intro e; simp [flatD] at e
  | ty _ ih => intro e; simp [flatD] at e
  | frz _ _ _ _ _ _ => intro e; simp [flatD] at e
  | own _ _ _ _ _ _ => intro e; simp [flatD] at e
  | non _ ih =>
    intro e
    simp only [List.map_cons, List.all_cons, Bool.and_eq_true] at e
    obtain ⟨i1, i2⟩ := ih e.2
    refine ⟨by simp only [List.map_cons, List.all_cons, i1]; rfl, fun v x C hx fx => ?_⟩
    simp only [List.map_cons, List.any_cons]
    rw [i2 v x C hx fx, one (.non .nil) hx rfl fx]
  | bl _ ih =>
    intro e
    simp only [List.map_cons, List.all_cons, Bool.and_eq_true] at e
    obtain ⟨i1, i2⟩ := ih e.2
    refine ⟨by simp only [List.map_cons, List.all_cons, i1]; rfl, fun v x C hx fx => ?_⟩
    simp only [List.map_cons, List.any_cons]
    rw [i2 v x C hx fx, one (.bl .nil) hx rfl fx]
  | int _ ih =>
    intro e
    simp only [List.map_cons, List.all_cons, Bool.and_eq_true] at e
    obtain ⟨i1, i2⟩ := ih e.2
    refine ⟨by simp only [List.map_cons, List.all_cons, i1]; rfl, fun v x C hx fx => ?_⟩
    simp only [List.map_cons, List.any_cons]
    rw [i2 v x C hx fx, one (.int .nil) hx rfl fx]
  | str _ ih =>
    intro e
    simp only [List.map_cons, List.all_cons, Bool.and_eq_true] at e
    obtain ⟨i1, i2⟩ := ih e.2
    refine ⟨by simp only [List.map_cons, List.all_cons, i1]; rfl, fun v x C hx fx => ?_⟩
    simp only [List.map_cons, List.any_cons]
    rw [i2 v x C hx fx, one (.str .nil) hx rfl fx]
theorem flat_one {v : V} {x : D} {C : List Addr} (h : DenL K ca H F [(v, x)] C) (f : flatD x = true) : flatV v = true := by
  have := (flat_of h (by simp [f])).1
  simpa using this
theorem in_of {x z : D} {b : Bool} {vx vz : V} {C B : List Addr} (e : inD x z = some b) (hx : DenL K ca H F [(vx, x)] C) (hz : DenL K ca H F [(vz, z)] B) (sb : Sub F H) :
    (∃ p xs, vz = .ref p ∧ (SqL K H p xs ∨ SqT K H p xs) ∧ flatV vx = true ∧ xs.all flatV = true ∧ inV vx xs = b) ∨ (∃ i j, vx = .str i ∧ vz = .str j ∧ (!(Builtin.Str.occurrences j i 0 j.length 1).isEmpty) = b) := by
  have go : ∀ {k : Kd} {o : Bool} {xs : List D}, k = .lst ∨ k = .rol ∨ k = .tup → DenL K ca H F [(vz, .node k o xs)] B → (if (flatD x && xs.all flatD) = true then some (xs.any fun y => eqF y x) else none) = some b →
      ∃ p xs, vz = .ref p ∧ (SqL K H p xs ∨ SqT K H p xs) ∧ flatV vx = true ∧ xs.all flatV = true ∧ inV vx xs = b := by
    intro k o xs hk hz e
    split at e
    · rename_i hc
      simp only [Bool.and_eq_true] at hc
      obtain ⟨a, ps, B', rfl, e1, n1, c1⟩ := den_node hz sb
      rw [← e1] at hc e
      obtain ⟨f1, f2⟩ := flat_of c1 hc.2
      refine ⟨a, ps.map Prod.fst, rfl, ?_, flat_one hx hc.1, f1, ?_⟩
      · rcases hk with rfl | rfl | rfl
        · exact .inl (.inl (.inl n1))
        · exact .inl n1
        · exact .inr n1
      · rw [← Option.some.inj e]; exact f2 _ _ _ hx hc.1
    · cases e
  unfold inD at e
  split at e
  · exact .inl (go (.inl rfl) hz e)
  · exact .inl (go (.inr (.inl rfl)) hz e)
  · exact .inl (go (.inr (.inr rfl)) hz e)
  · split at e
    · cases e
      cases den_str hx; cases den_str hz
      exact .inr ⟨_, _, rfl, rfl, rfl⟩
    · cases e
  · cases e
theorem not_non {d : D} {x : V} {B : List Addr} (h : DenL K ca H F [(x, d)] B) (h1 : d ≠ .non) (h2 : d ≠ .unb) : x ≠ .non := by
  intro e
  subst e
  cases h with
  | unb _ => exact h2 rfl
  | non _ => exact h1 rfl
/-- x == y, two lists of other lengths -/
def rLn (K : PySem.W.Frag) (r : Bool) : R2 := fun x y H Q => ∃ a b xs ys, x = .ref a ∧ y = .ref b ∧ SqL K H a xs ∧ SqL K H b ys ∧ xs.length ≠ ys.length ∧ Q (.bl r) H
theorem op_eqLn (hu : X.A.units < cLine) : OpR X (compareOp .Eq) (rLn X.K false) := by
  intro pins s σ H x y v u Q I rx ry h
  obtain ⟨a, b, xs, ys, rfl, rfl, h1, h2, hne, q⟩ := h
  cases rx
  cases ry
  obtain ⟨its, rv, ⟨o, n, ho, hc, _, hd⟩, _⟩ := I.list h1
  obtain ⟨its2, rv2, ⟨o2, n2, ho2, hc2, _, hd2⟩, _⟩ := I.list h2
  have l1 := rv.length
  have l2 := rv2.length
  refine SeqAt.RcAt.lists_lengths ⟨o, ho, hc, n, hd⟩ ⟨o2, ho2, hc2, n2, hd2⟩ ?_ hu _ _ _ _ ⟨.bl _, H, I, rfl, q⟩
  simp only [bne_iff_ne, ne_eq, List.size_toArray]
  omega
theorem op_neLn (hu : X.A.units < cLine) : OpR X (compareOp .NotEq) (rLn X.K true) := by
  intro pins s σ H x y v u Q I rx ry h
  obtain ⟨a, b, xs, ys, rfl, rfl, h1, h2, hne, q⟩ := h
  cases rx
  cases ry
  obtain ⟨its, rv, ⟨o, n, ho, hc, _, hd⟩, _⟩ := I.list h1
  obtain ⟨its2, rv2, ⟨o2, n2, ho2, hc2, _, hd2⟩, _⟩ := I.list h2
  have l1 := rv.length
  have l2 := rv2.length
  refine SeqAt.RcNeAt.lists_lengths ⟨o, ho, hc, n, hd⟩ ⟨o2, ho2, hc2, n2, hd2⟩ ?_ hu _ _ _ _ ⟨.bl _, H, I, rfl, q⟩
  simp only [bne_iff_ne, ne_eq, List.size_toArray]
  omega
theorem sql_of {a : Addr} {k : Kd} {ws : List V} (hk : isLR k = true) (h : NdF K ca H a k ws) : SqL K H a ws := by
  cases k with
  | lst => exact .inl (.inl h)
  | rol => exact h
  | tup => cases hk
  | obj c fs => cases hk
theorem eqLn_of {x y : V} {dx dy : D} {B C : List Addr} {r : Bool} (e : eqLn dx dy = some r) (sb : Sub F H) (hx : DenL K ca H F [(x, dx)] B) (hy : DenL K ca H F [(y, dy)] C) :
    r = false ∧ ∃ a b xs ys, x = .ref a ∧ y = .ref b ∧ SqL K H a xs ∧ SqL K H b ys ∧ xs.length ≠ ys.length := by
  unfold eqLn at e
  split at e
  · split at e
    · rename_i hc
      obtain ⟨h1, h2, h3⟩ := hc
      cases e
      obtain ⟨a, ps, _, rfl, e1, n1, _⟩ := den_node hx sb
      obtain ⟨b, qs, _, rfl, e2, n2, _⟩ := den_node hy sb
      refine ⟨rfl, a, b, _, _, rfl, rfl, sql_of h1 n1, sql_of h2 n2, ?_⟩
      rw [← e1, ← e2] at h3
      simpa using h3
    · cases e
  · cases e
theorem op_cmp (hr : X.A.units + 64 < cLine) (op : CmpOp) : OpR X (compareOp op) (rCmp X.K ca op) := by
  intro pins s σ H x y v u Q I rx ry h
  obtain ⟨F, dx, dy, B, C, b, sb, hx, hy, hd, q⟩ := h
  have eqr : ∀ {r : Bool}, eqD dx dy = some r → ∀ Q : VK, Q (.bl r) H → rEq x y H Q ∨ rEqD X.K x y H Q ∨ rLn X.K false x y H Q := by
    intro r e Q q
    unfold eqD at e
    split at e
    · rename_i r' e'
      cases e
      obtain ⟨h1, h2⟩ := eqS_scal e' hx hy
      exact .inl ⟨h1, by rw [h2]; exact q⟩
    · split at e
      · rename_i r' e'
        cases e
        unfold eqP at e'
        split at e'
        · split at e'
          · rename_i hc
            cases e'
            exact .inr (.inl ⟨_, _, py_one hx sb (by assumption), py_one hy sb (by assumption), hc.1, hc.2, q⟩)
          · cases e'
        · cases e'
      · obtain ⟨rfl, a, b, xs, ys, h1, h2, h3, h4, h5⟩ := eqLn_of e sb hx hy
        exact .inr (.inr ⟨a, b, xs, ys, h1, h2, h3, h4, h5, q⟩)
  have ner : ∀ {r : Bool}, eqD dx dy = some r → ∀ Q : VK, Q (.bl (!r)) H → rNe x y H Q ∨ rNeD X.K x y H Q ∨ rLn X.K true x y H Q := by
    intro r e Q q
    unfold eqD at e
    split at e
    · rename_i r' e'
      cases e
      obtain ⟨h1, h2⟩ := eqS_scal e' hx hy
      exact .inl ⟨h1, by rw [h2]; exact q⟩
    · split at e
      · rename_i r' e'
        cases e
        unfold eqP at e'
        split at e'
        · split at e'
          · rename_i hc
            cases e'
            exact .inr (.inl ⟨_, _, py_one hx sb (by assumption), py_one hy sb (by assumption), hc.1, hc.2, q⟩)
          · cases e'
        · cases e'
      · obtain ⟨rfl, a, b, xs, ys, h1, h2, h3, h4, h5⟩ := eqLn_of e sb hx hy
        exact .inr (.inr ⟨a, b, xs, ys, h1, h2, h3, h4, h5, q⟩)
  unfold cmpD at hd
  split at hd
  · rcases eqr hd Q q with z | z
    · exact op_eq pins s σ H _ _ v u Q I rx ry z
    · rcases z with z | z
      · exact op_eqD hr pins s σ H _ _ v u Q I rx ry z
      · exact op_eqLn (by omega) pins s σ H _ _ v u Q I rx ry z
  · simp only [Option.map_eq_some_iff] at hd
    obtain ⟨r, hd, rfl⟩ := hd
    rcases ner hd Q q with z | z
    · exact op_ne pins s σ H _ _ v u Q I rx ry z
    · rcases z with z | z
      · exact op_neD hr pins s σ H _ _ v u Q I rx ry z
      · exact op_neLn (by omega) pins s σ H _ _ v u Q I rx ry z
  · cases hd; cases den_int hx; cases den_int hy
    exact op_lt pins s σ H _ _ v u Q I rx ry ⟨_, _, rfl, rfl, q⟩
  · cases hd; cases den_int hx; cases den_int hy
    exact op_le pins s σ H _ _ v u Q I rx ry ⟨_, _, rfl, rfl, q⟩
  · cases hd; cases den_int hx; cases den_int hy
    exact op_gt pins s σ H _ _ v u Q I rx ry ⟨_, _, rfl, rfl, q⟩
  · cases hd; cases den_int hx; cases den_int hy
    exact op_ge pins s σ H _ _ v u Q I rx ry ⟨_, _, rfl, rfl, q⟩
  · cases hd; cases den_str hx; cases den_str hy
    exact op_lt_str pins s σ H _ _ v u Q I rx ry ⟨_, _, rfl, rfl, q⟩
  · rcases in_of hd hx hy sb with ⟨p, xs, rfl, h1, h2, h3, h4⟩ | ⟨i, j, rfl, rfl, h1⟩
    · exact op_in_seq pins s σ H _ _ v u Q I rx ry ⟨_, _, rfl, h1, h2, h3, by rw [h4]; exact q⟩
    · exact op_in_str pins s σ H _ _ v u Q I rx ry ⟨_, _, rfl, rfl, by rw [h1]; exact q⟩
  · simp only [Option.map_eq_some_iff] at hd
    obtain ⟨r, hd, rfl⟩ := hd
    rcases in_of hd hx hy sb with ⟨p, xs, rfl, h1, h2, h3, h4⟩ | ⟨i, j, rfl, rfl, h1⟩
    · exact op_notIn_seq pins s σ H _ _ v u Q I rx ry ⟨_, _, rfl, h1, h2, h3, by rw [h4]; exact q⟩
    · exact op_notin_str pins s σ H _ _ v u Q I rx ry ⟨_, _, rfl, rfl, by rw [h1]; exact q⟩
  · cases hd; cases den_non hx; cases den_non hy
    exact op_isN pins s σ H _ _ v u Q I rx ry ⟨rfl, q⟩
  · cases hd
  · rename_i h1 h2
    cases hd; cases den_non hy
    refine op_isN pins s σ H _ _ v u Q I rx ry ⟨rfl, ?_⟩
    rw [decide_eq_false (not_non hx h1 h2)]
    exact q
  · cases hd; cases den_non hx; cases den_non hy
    exact op_notN pins s σ H _ _ v u Q I rx ry ⟨rfl, q⟩
  · cases hd
  · rename_i h1 h2
    cases hd; cases den_non hy
    refine op_notN pins s σ H _ _ v u Q I rx ry ⟨rfl, ?_⟩
    rw [decide_eq_false (not_non hx h1 h2)]
    exact q
  · cases hd

/-! ### an item, a slice -/
theorem atI_map {α β : Type} (f : α → β) (xs : List α) (i : Int) : atI (xs.map f) i = (atI xs i).map f := by
  unfold atI
  rw [List.length_map]
  cases ixN xs.length i with
  | none => rfl
  | some j => show (xs.map f)[j]? = _; rw [List.getElem?_map]; rfl
theorem atI_mem {α : Type} {xs : List α} {i : Int} {x : α} (h : atI xs i = some x) : x ∈ xs := by
  unfold atI at h
  cases e : ixN xs.length i with
  | none => rw [e] at h; cases h
  | some j => rw [e] at h; exact List.mem_of_getElem? h
theorem den_mem {l : List (V × D)} {A : List Addr} {p : V × D} (h : DenL K ca H F l A) (hp : p ∈ l) : ∃ B, DenL K ca H F [p] B ∧ ∀ a ∈ B, a ∈ A := by
  induction l generalizing A with
  | nil => cases hp
  | cons q r ih =>
    obtain ⟨v, d⟩ := q
    obtain ⟨B, C, h1, h2, rfl⟩ := h.split1
    rcases List.mem_cons.mp hp with rfl | hp
    · exact ⟨B, h1, fun a z => by simp [z]⟩
    · obtain ⟨B', h3, h4⟩ := ih h2 hp
      exact ⟨B', h3, fun a z => by simp [h4 a z]⟩
theorem den_memP {l : List (V × D)} {A : List Addr} {p : V × D} (h : DenL K ca H F l A) (hp : p ∈ l) : ∃ B R, DenL K ca H F [p] B ∧ A.Perm (B ++ R) := by
  obtain ⟨s, r, rfl⟩ := List.append_of_mem hp
  obtain ⟨B, pB, hB⟩ := h.perm (l1 := p :: (s ++ r)) List.perm_middle
  obtain ⟨v, d⟩ := p
  obtain ⟨C, R, h1, _, rfl⟩ := hB.split1
  exact ⟨C, R, h1, pB⟩
theorem idx_of {d x : D} {i : Int} {vd : V} {B : List Addr} (e : idxD d (.int i) = some x) (hd : DenL K ca H F [(vd, d)] B) (sb : Sub F H) {Q : VK} (q : ∀ w C, DenL K ca H F [(w, x)] C → (∃ R, B.Perm (C ++ R)) → Q w H) : rIx K vd (.int i) H Q := by
  have go : ∀ {k : Kd} {o : Bool} {xs : List D}, DenL K ca H F [(vd, .node k o xs)] B → atI xs i = some x → ∃ (a : Addr) (ps : List (V × D)) (w : V), vd = .ref a ∧ NdF K ca H a k (ps.map Prod.fst) ∧ atI (ps.map Prod.fst) i = some w ∧ Q w H := by
    intro k o xs hz e
    cases hz with
    | frz hn hx hc hl =>
      rename_i a ps
      rw [← hx, atI_map, Option.map_eq_some_iff] at e
      obtain ⟨⟨w, y⟩, e1, e2⟩ := e
      subst e2
      obtain ⟨C, R, h1, h2⟩ := den_memP hc (atI_mem e1)
      exact ⟨a, ps, w, rfl, hn.mono sb, by rw [atI_map, e1]; rfl, q w C h1 ⟨R, by cases hl; exact h2⟩⟩
    | own hn hx hc hl =>
      rename_i a ps A B
      rw [← hx, atI_map, Option.map_eq_some_iff] at e
      obtain ⟨⟨w, y⟩, e1, e2⟩ := e
      subst e2
      obtain ⟨C, R, h1, h2⟩ := den_memP hc (atI_mem e1)
      refine ⟨a, ps, w, rfl, hn.toF, by rw [atI_map, e1]; rfl, q w C h1 ⟨a :: R, ?_⟩⟩
      cases hl
      rw [List.append_nil]
      exact (h2.cons a).trans List.perm_middle.symm
  unfold idxD at e
  split at e
  · rename_i e'
    cases e'
    obtain ⟨a, ps, w, rfl, h1, h2, h3⟩ := go hd e
    exact .inl ⟨a, _, _, w, rfl, rfl, .inl (.inl h1), h2, h3⟩
  · rename_i e'
    cases e'
    obtain ⟨a, ps, w, rfl, h1, h2, h3⟩ := go hd e
    exact .inl ⟨a, _, _, w, rfl, rfl, h1, h2, h3⟩
  · rename_i e'
    cases e'
    obtain ⟨a, ps, w, rfl, h1, h2, h3⟩ := go hd e
    exact .inr (.inl ⟨a, _, _, w, rfl, rfl, h1, h2, h3⟩)
  · rename_i e'
    cases e'
    split at e
    · rename_i hc
      rw [Option.map_eq_some_iff] at e
      obtain ⟨c, e1, rfl⟩ := e
      cases den_str hd
      exact .inr (.inr ⟨_, _, c, rfl, rfl, hc, e1, q _ [] (.str .nil) ⟨B, .refl _⟩⟩)
    · cases e
  · cases e
theorem den_take {l : List (V × D)} (n : Nat) (h : DenL K ca H F l []) : DenL K ca H F (l.take n) [] := by
  have h1 : DenL K ca H F (l.take n ++ l.drop n) [] := by rw [List.take_append_drop]; exact h
  obtain ⟨B, C, h2, _, e⟩ := h1.split
  have : B = [] := (List.append_eq_nil_iff.mp e.symm).1
  rw [this] at h2
  exact h2
theorem den_drop {l : List (V × D)} (n : Nat) (h : DenL K ca H F l []) : DenL K ca H F (l.drop n) [] := by
  have h1 : DenL K ca H F (l.take n ++ l.drop n) [] := by rw [List.take_append_drop]; exact h
  obtain ⟨B, C, _, h2, e⟩ := h1.split
  have : C = [] := (List.append_eq_nil_iff.mp e.symm).2
  rw [this] at h2
  exact h2
def rCut (K : PySem.W.Frag) (ca : Ca) : V → Option Int → Option Int → Hp → VK → Prop := fun x lo hi H Q => ∃ (F : Hp) (dx d : D), Sub F H ∧ DenL K ca H F [(x, dx)] [] ∧ cutD dx lo hi = some d ∧ ∀ v H', Gives K ca H F H' v d → Q v H'
theorem sl_cut : SlR X (rCut X.K ca) := by
  intro pins s σ H x v vl vu lo hi sl Q I rx hs pl pu h
  obtain ⟨F, dx, d, sb, hx, hd, q⟩ := h
  have cm : ∀ {ps : List (V × D)} {xs : List D}, ps.map Prod.snd = xs → ∃ qs : List (V × D), qs.map Prod.fst = cutV (ps.map Prod.fst) lo hi ∧ qs.map Prod.snd = cutL xs lo hi ∧ (DenL X.K ca H F ps [] → DenL X.K ca H F qs []) := by
    intro ps xs e
    refine ⟨(ps.drop (HT.sIx ps.length 0 lo)).take (HT.sIx ps.length ps.length hi - HT.sIx ps.length 0 lo), ?_, ?_, fun z => den_take _ (den_drop _ z)⟩
    · unfold cutV; rw [List.map_take, List.map_drop, List.length_map]
    · unfold cutL; rw [← e, List.map_take, List.map_drop, List.length_map]
  unfold cutD at hd
  split at hd
  · cases hd
    obtain ⟨rfl, a, ps, rfl, e1, n1, c1⟩ := den_node0 hx
    obtain ⟨qs, q1, q2, q3⟩ := cm e1
    refine sl_list pins s σ H _ v vl vu lo hi sl Q I rx hs pl pu ⟨_, _, rfl, .inl (.inl (sb _ _ n1)), fun p hp => q _ _ ?_⟩
    rw [← q2]
    exact gives_new hp (q3 c1) (by rw [q1]; exact upd_same)
  · cases hd
    obtain ⟨rfl, a, ps, rfl, e1, n1, c1⟩ := den_node0 hx
    obtain ⟨qs, q1, q2, q3⟩ := cm e1
    refine sl_list pins s σ H _ v vl vu lo hi sl Q I rx hs pl pu ⟨_, _, rfl, NdF.mono (k := .rol) n1 sb, fun p hp => q _ _ ?_⟩
    rw [← q2]
    exact gives_new hp (q3 c1) (by rw [q1]; exact upd_same)
  · obtain ⟨rfl, a, ps, rfl, e1, n1, c1⟩ := den_node0 hx
    have l1 := len_map2 e1
    refine sl_tupA pins s σ H _ v vl vu lo hi sl Q I rx hs pl pu ⟨_, _, rfl, NdF.mono (k := .tup) n1 sb, fun w => ?_, fun w p hp => ?_⟩
    · rw [l1] at w
      rw [if_pos w] at hd
      cases hd
      exact q _ _ (gives_atom hx)
    · rw [l1] at w
      rw [if_neg w] at hd
      cases hd
      obtain ⟨qs, q1, q2, q3⟩ := cm e1
      refine q _ _ ?_
      rw [← q2]
      exact gives_new hp (q3 c1) (by rw [q1]; exact upd_same)
  · split at hd
    · rename_i hc
      cases hd
      cases den_str hx
      exact sl_str pins s σ H _ v vl vu lo hi sl Q I rx hs pl pu ⟨_, rfl, hc, q _ _ (gives_atom (.str .nil))⟩
    · cases hd
  · cases hd
end
end Z

set_option Elab.async false
set_option linter.all false
set_option maxRecDepth 100000
set_option maxHeartbeats 4000000
namespace Z
open PySem PySem.Spec PyProof.Rows L2

/-! ## what the context must tell -/
/-- the exception that the suite holds in slot i -/
structure CurOk (X : Cx) (ca : Ca) (i : Nat) (fs : List (Str × D)) : Prop where
  ex : ∃ a : Addr, (i, V.ref a) ∈ ca.pin ∧ ∀ f d, fs.lookup f = some d → ∃ v, (∀ H F, Sub ca.B F → DenL X.K ca H F [(v, d)] []) ∧
    ∀ (e : Expr) (pos : Pos) (te : TE), PE X e te → (∃ x p, e = .Name x p) → PE X (.Attribute e f pos) (fun σ H Q => te σ H fun x H1 => x = .ref a ∧ Sub ca.B H1 ∧ Q v H1)
/-- the class that a name stands for -/
def tgtU (g : Str → Option G) (ca : Ca) (y : Str) : Value := match g y with
  | some _ => .ref (ca.at_ y)
  | none => .type ((tyName y).getD "")
structure ClFact (X : Cx) (ca : Ca) (g : Str → Option G) (k : Nat) (x : Str) (cl : Cl) : Prop where
  at_ : X.mg x = some (.ref (ca.at_ x))
  cls : cl.exc = none → Cls X.K (ca.at_ x) ∧ ∀ f ∈ cl.flds, NoAttr X.K (ca.at_ x) f
  ty : cl.exc = none → PySem.W.findIn X.K (.ref (ca.at_ x)) "__class__" = some (some (.builtin "object.__class__")) ∧ PySem.W.specialIn X.K (.builtin "object.__class__") "__get__" = some (some (.builtin "getset_descriptor.__get__")) ∧
    PySem.W.takesIn X.K (.builtin "object.__class__") = some true ∧ PySem.W.mroIn X.K (ca.at_ x) (.type "object") = some true
  isa : cl.exc = none → ∀ y b, cl.isa.lookup y = some b → PySem.W.kitOne X.K (.ref (ca.at_ x)) (tgtU g ca y) = some b
  notb : ∀ t, cl.notb.contains t = true → PySem.W.kitOne X.K (.type t) (.ref (ca.at_ x)) = some false
structure CtxOk (X : Cx) (ca : Ca) (k : Nat) (c : Cs) : Prop where
  N : X.N = c.N
  nd : c.N.Nodup
  dbg : ∀ x ∈ c.N, (x == ("__debug__" : Str)) = false ∧ (x == ("__classdict__" : Str)) = false
  sc : X.env.scope = c.sc
  kind : c.sc.kind = .function
  room : c.cur = none → Room k X.A
  units : X.A.units + 64 < cLine
  calm : c.cur = none → X.calm = true
  free : ∀ x, c.free x = true → X.mg x = none
  gval : ∀ x d, c.g x = some (.val d) → d.still = true ∧ ∃ v u, X.mg x = some u ∧ RelV v u ∧ ∀ H F, DenL X.K ca H F [(v, d)] []
  gfn : c.cur = none → ∀ x f, c.g x = some (.fn f) → ∃ fa, X.mg x = some (.ref fa) ∧ FnFact X ca k fa f
  ginit : c.cur = none → ∀ x cl f, c.g x = some (.cls cl) → cl.exc = none → cl.init = some f → ∃ fa k', Mk X.K (ca.at_ x) fa ∧ k' + 1 ≤ k ∧ FnFact X ca k' fa f
  gmeth : c.cur = none → ∀ x cl m f, c.g x = some (.cls cl) → cl.exc = none → cl.meths.lookup m = some f → ∃ fa, Meth X.K (ca.at_ x) m fa ∧ FnFact X ca k fa f
  cur : ∀ i fs, c.cur = some (i, fs) → fs ≠ [] → CurOk X ca i fs
  pins : ∀ q ∈ ca.pin, c.P q.1 = true
  out : c.cur = none → ca.B = (fun _ => none) ∧ ca.pin = []
  gcl : ∀ x cl, c.g x = some (.cls cl) → ClFact X ca c.g k x cl
  fnl : ∀ x i, slotOf c.N x = some i → c.P i ≠ true → c.sc.names.lookup x = some .local ∨ c.sc.names.lookup x = some .cell → X.fn x = true ∨ c.sc.names.lookup x = some .local

section
variable {X : Cx} {ca : Ca} {k : Nat} {c : Cs} {x : Str} {i : Nat}
theorem slotOf_at {N : List Str} (h : slotOf N x = some i) : N[i]? = some x := by
  unfold slotOf at h
  obtain ⟨h1, h2, _⟩ := List.findIdx?_eq_some_iff_getElem.mp h
  rw [List.getElem?_eq_getElem h1]
  exact congrArg some (eq_of_beq h2)
theorem slot_vis (C : CtxOk X ca k c) (h : c.slot x = some i) : X.N[i]? = some x ∧ Vis X.env.scope x := by
  unfold Cs.slot at h
  rw [C.N, C.sc]
  split at h
  · exact ⟨slotOf_at h, .inl (by assumption)⟩
  · exact ⟨slotOf_at h, .inr (.inl (by assumption))⟩
  · exact ⟨slotOf_at h, .inr (.inr (by assumption))⟩
  · cases h
theorem pe_slot (C : CtxOk X ca k c) (h : c.slot x = some i) {pos : Pos} : PE X (.Name x pos) (tVar i) := by
  obtain ⟨h1, h2⟩ := slot_vis C h
  have hm : x ∈ c.N := by rw [← C.N]; exact List.mem_of_getElem? h1
  exact pe_var h1 h2 (C.dbg x hm).1 (C.dbg x hm).2
theorem glob_of (C : CtxOk X ca k c) (h : c.glob x = true) : Gl X x ∧ (x == ("__debug__" : Str)) = false ∧ x ≠ "__name__" := by
  unfold Cs.glob at h
  split at h
  · rename_i e
    simp only [Bool.and_eq_true, Bool.not_eq_true'] at h
    refine ⟨?_, h.1, fun z => ?_⟩
    · show X.env.scope.names.lookup x = some .globalImplicit
      rw [C.sc]; exact e
    · rw [z] at h; simp at h
  · cases h
theorem isFld_of (C : CtxOk X ca k c) {y f : Str} (h : c.isFld y f = true) : Cls X.K (ca.at_ y) ∧ NoAttr X.K (ca.at_ y) f := by
  unfold Cs.isFld at h
  split at h
  · rename_i cl e
    simp only [Bool.and_eq_true, Option.isNone_iff_eq_none, List.contains_iff_mem] at h
    obtain ⟨h1, h2⟩ := (C.gcl _ _ e).cls h.1
    exact ⟨h1, h2 f h.2⟩
  · cases h
theorem zip_look : ∀ {fs : List Str} {ws : List V} {f : Str} {j : Nat} {w : V}, fs.findIdx? (· == f) = some j → fs.length = ws.length → ws[j]? = some w → (fs.zip ws).lookup f = some w
  | [], _, _, _, _, h, _, _ => by simp at h
  | g :: fs, [], _, _, _, _, l, _ => by simp at l
  | g :: fs, w' :: ws, f, j, w, h, l, hw => by
    rw [List.findIdx?_cons] at h
    rw [List.zip_cons_cons, List.lookup_cons]
    by_cases e : g = f
    · subst e
      simp at h
      subst h
      simp at hw
      simp [hw]
    · have e1 : (g == f) = false := by simpa using e
      have e2 : (f == g) = false := by simpa using fun z => e z.symm
      rw [e1] at h
      simp only [Bool.false_eq_true, if_false, Option.map_eq_some_iff] at h
      obtain ⟨j', hj, rfl⟩ := h
      rw [e2]
      exact zip_look hj (by simpa using l) (by simpa using hw)
theorem bltn_of (C : CtxOk X ca k c) (h : c.bltn x = true) : Gl X x ∧ (x == ("__debug__" : Str)) = false ∧ x ≠ "__name__" ∧ X.mg x = none := by
  unfold Cs.bltn at h
  simp only [Bool.and_eq_true] at h
  obtain ⟨h1, h2, h3⟩ := glob_of C h.1
  exact ⟨h1, h2, h3, C.free x h.2⟩
end

/-! ## places -/
inductive PathV (K : PySem.W.Frag) (ca : Ca) (H F : Hp) : V → D → List Nat → V → D → Prop
  | nil {v d} : PathV K ca H F v d [] v d
  | step {a k o xs ps j w x p v d} (hn : NdF K ca H a k (ps.map Prod.fst)) (ho : o = true → NdO ca H a k (ps.map Prod.fst)) (hx : ps.map Prod.snd = xs) (hj : ps[j]? = some (w, x)) (hc : ∃ B, DenL K ca H F ps B)
      (r : PathV K ca H F w x p v d) : PathV K ca H F (.ref a) (.node k o xs) (j :: p) v d
section
variable {K : PySem.W.Frag} {ca : Ca} {H F : Hp} {v v0 w : V} {d d0 x : D} {p q : List Nat}
theorem PathV.den (h : PathV K ca H F v0 d0 p v d) : (∃ B, DenL K ca H F [(v0, d0)] B) → ∃ B, DenL K ca H F [(v, d)] B := by
  induction h with
  | nil => exact id
  | step hn ho hx hj hc r ih =>
    intro _
    obtain ⟨B, hB⟩ := hc
    obtain ⟨C, h1, _⟩ := den_mem hB (List.mem_of_getElem? hj)
    exact ih ⟨C, h1⟩
theorem PathV.snoc (h : PathV K ca H F v0 d0 p v d) (h2 : PathV K ca H F v d q w x) : PathV K ca H F v0 d0 (p ++ q) w x := by
  induction h with
  | nil => exact h2
  | step hn ho hx hj hc r ih => exact .step hn ho hx hj hc (ih h2)
theorem path_one {k : Kd} {o : Bool} {xs : List D} {j : Nat} (hd : ∃ B, DenL K ca H F [(v, .node k o xs)] B) (sb : Sub F H) (hj : xs[j]? = some x) :
    ∃ (a : Addr) (ps : List (V × D)) (w : V), v = .ref a ∧ NdF K ca H a k (ps.map Prod.fst) ∧ ps.map Prod.snd = xs ∧ ps[j]? = some (w, x) ∧ PathV K ca H F v (.node k o xs) [j] w x := by
  obtain ⟨B, hd⟩ := hd
  cases hd with
  | frz hn hx hc hl =>
    rename_i a ps
    rw [← hx, List.getElem?_map, Option.map_eq_some_iff] at hj
    obtain ⟨⟨w, y⟩, e1, e2⟩ := hj
    subst e2
    exact ⟨a, ps, w, rfl, hn.mono sb, hx, e1, .step (hn.mono sb) (fun z => by cases z) hx e1 ⟨_, hc⟩ .nil⟩
  | own hn hx hc hl =>
    rename_i a ps A B
    rw [← hx, List.getElem?_map, Option.map_eq_some_iff] at hj
    obtain ⟨⟨w, y⟩, e1, e2⟩ := hj
    subst e2
    exact ⟨a, ps, w, rfl, hn.toF, hx, e1, .step hn.toF (fun _ => hn) hx e1 ⟨_, hc⟩ .nil⟩
end

/-- a reading that changes nothing -/
def tX (K : PySem.W.Frag) (ca : Ca) (q : List D → Option D) : TE := fun σ H Q => ∃ (e t : List (V × D)) (F : Hp), Agree ca σ e ∧ Stt K ca H F (e ++ t) ∧ ∃ d, q (e.map Prod.snd) = some d ∧ ∀ v, DenL K ca H F [(v, d)] [] → Q v H
def tP (K : PySem.W.Frag) (ca : Ca) (q : List D → Option (Nat × List Nat × D)) : TE := fun σ H Q => ∃ (e t : List (V × D)) (F : Hp), Agree ca σ e ∧ Stt K ca H F (e ++ t) ∧ ∃ i p d, q (e.map Prod.snd) = some (i, p, d) ∧
  ∀ v v0 d0, e[i]? = some (v0, d0) → d0.bound = true → PathV K ca H F v0 d0 p v d → (∃ B, DenL K ca H F [(v, d)] B) → Q v H
theorem stt_mem {K : PySem.W.Frag} {ca : Ca} {H F : Hp} {l : List (V × D)} {p : V × D} (h : Stt K ca H F l) (hp : p ∈ l) : ∃ B, DenL K ca H F [p] B := by
  obtain ⟨A, h, _⟩ := h
  obtain ⟨B, h1, _⟩ := den_mem h hp
  exact ⟨B, h1⟩
theorem plainIx_of {b : Expr} (h : isSlice b = false) : PlainIx b := by
  intro o i
  cases b <;> first | rfl | (simp [isSlice] at h)
theorem abase_of {e : Expr} {f : Str} {env : Env} (h : ∀ id p pos, e ≠ .Call (.Name id p) [] [] pos) : attributeBase e f env (eval e env) = eval e env := by
  unfold attributeBase
  split
  · rename_i id p pos
    exact absurd rfl (h id p pos)
  · rfl
theorem star_of {e : Expr} {es : List Expr} {env : Env} (h : isStar e = false) : starEach (e :: es) env = (false, eval e env) :: starEach es env := by
  cases e <;> first | rfl | (simp [isStar] at h)
theorem nostar {es : List Expr} {env : Env} {pos : Pos} (h : es.any isStar = false) : (backTo pos (starEach es env)).any (·.1) = false := by
  induction es with
  | nil => rfl
  | cons e r ih =>
    simp only [List.any_cons, Bool.or_eq_false_iff] at h
    have e1 : backTo pos (starEach (e :: r) env) = (false, eval e env) :: backTo pos (starEach r env) := by rw [star_of h.1]; rfl
    rw [e1, List.any_cons, ih h.2]
    rfl

theorem map_get {e : List (V × D)} {i : Nat} {d : D} (h : (e.map Prod.snd)[i]? = some d) : ∃ v, e[i]? = some (v, d) := by
  rw [List.getElem?_map, Option.map_eq_some_iff] at h
  obtain ⟨⟨v, d'⟩, h1, h2⟩ := h
  subst h2
  exact ⟨v, h1⟩
theorem const_of {X : Cx} {kc : Const} {d : D} {j : Nat} {pos : Pos} (h : constD kc = some d) : ∃ w, atomV d = some w ∧ PE X (.Constant kc j pos) (tC w) := by
  cases kc <;> simp only [constD] at h
  case none => cases h; exact ⟨.non, rfl, pe_non⟩
  case bool b => cases h; exact ⟨.bl b, rfl, pe_bl⟩
  case int i => cases h; exact ⟨.int i, rfl, pe_int⟩
  case str s => cases h; exact ⟨.str s, rfl, pe_str⟩
  all_goals cases h
theorem tX_none {X : Cx} {ca : Ca} {e : Expr} {q : List D → Option D} (h : ∀ η, q η = none) : PE X e (tX X.K ca q) := ⟨fun pins s σ H Q I ⟨_, _, _, _, _, d, z, _⟩ => by rw [h] at z; cases z⟩
theorem tP_none {X : Cx} {ca : Ca} {e : Expr} {q : List D → Option (Nat × List Nat × D)} (h : ∀ η, q η = none) : PE X e (tP X.K ca q) := ⟨fun pins s σ H Q I ⟨_, _, _, _, _, i, p, d, z, _⟩ => by rw [h] at z; cases z⟩
section
variable {ca : Ca} {k : Nat}
theorem sndXP (n : Nat) : (∀ (X : Cx) (c : Cs) (e : Expr), CtxOk X ca k c → PE X e (tX X.K ca (evX c n e))) ∧ (∀ (X : Cx) (c : Cs) (e : Expr), CtxOk X ca k c → PE X e (tP X.K ca (evP c n e))) := by
  induction n with
  | zero => exact ⟨fun X c e _ => tX_none fun _ => rfl, fun X c e _ => tP_none fun _ => rfl⟩
  | succ n ih =>
    obtain ⟨ihX, ihP⟩ := ih
    have viaP : ∀ (X : Cx) (c : Cs) (e : Expr), PE X e (tP X.K ca (evP c n e)) → PE X e (tX X.K ca fun η => match evP c n e η with
        | some (_, _, d) => if d.still then some d else none
        | none => none) := by
      intro X c e hP
      refine PE.weak hP fun σ H Q ⟨η, t, F, ag, st, d, hd, q⟩ => ?_
      simp only at hd
      split at hd
      · rename_i i p d' hp
        split at hd
        · rename_i hs
          cases hd
          refine ⟨η, t, F, ag, st, i, p, d, hp, fun v v0 d0 _ _ _ ⟨B, hB⟩ => q v ?_⟩
          have : B = [] := hB.still (by simp [D.stillL, hs])
          rw [← this]; exact hB
        · cases hd
      · cases hd
    refine ⟨fun X c e C => ?_, fun X c e C => ?_⟩
    · cases e <;> try exact tX_none fun _ => rfl
      case Constant kc j pos =>
        refine ⟨fun pins s σ H Q I ⟨η, t, F, ag, st, d, h, q⟩ => ?_⟩
        obtain ⟨w, h1, h2⟩ := const_of (X := X) (j := j) (pos := pos) (show constD kc = some d from h)
        exact h2.run pins s σ H Q I (q w (den_atom h1))
      case Name x pos =>
        refine ⟨fun pins s σ H Q I ⟨η, t, F, ag, st, d, h, q⟩ => ?_⟩
        simp only [evX] at h
        split at h
        · rename_i i hi
          split at h
          · rename_i d' hd
            split at h
            · rename_i hb
              cases h
              simp only [Bool.and_eq_true] at hb
              obtain ⟨v, hv⟩ := map_get hd
              refine (pe_slot C hi).run pins s σ H Q I ⟨v, ag.get hv hb.1, q v ?_⟩
              obtain ⟨B, hB⟩ := stt_mem st (List.mem_append_left t (List.mem_of_getElem? hv))
              have : B = [] := hB.still (by simp [D.stillL, hb.2])
              rw [← this]; exact hB
            · cases h
          · cases h
        · split at h
          · rename_i hg
            split at h
            · rename_i d' hv
              cases h
              obtain ⟨g1, g2, g3⟩ := glob_of C hg
              obtain ⟨hs, v, u, m1, m2, m3⟩ := C.gval _ _ hv
              exact (pe_glob g1 m1 m2 g2).run pins s σ H Q I (q v (m3 H F))
            · cases h
          · cases h
      case BinOp a op b pos =>
        refine ⟨fun pins s σ H Q I ⟨η, t, F, ag, st, d, h, q⟩ => ?_⟩
        simp only [evX] at h
        split at h
        · rename_i i j hi hj
          have hsub : ∀ {r : V}, (tX X.K ca (evX c n a)) σ H fun x H1 => (tX X.K ca (evX c n b)) σ H1 fun y H2 => x = .int i ∧ y = .int j ∧ H2 = H := fun {r} =>
            ⟨η, t, F, ag, st, _, hi, fun v hv => ⟨η, t, F, ag, st, _, hj, fun w hw => ⟨den_int hv, den_int hw, rfl⟩⟩⟩
          split at h
          · cases h
            refine (pe_op op_add (ihX X c a C) (ihX X c b C)).run pins s σ H Q I ⟨η, t, F, ag, st, _, hi, fun v hv => ⟨η, t, F, ag, st, _, hj, fun w hw => ⟨i, j, den_int hv, den_int hw, q _ (.int .nil)⟩⟩⟩
          · cases h
            refine (pe_op op_sub (ihX X c a C) (ihX X c b C)).run pins s σ H Q I ⟨η, t, F, ag, st, _, hi, fun v hv => ⟨η, t, F, ag, st, _, hj, fun w hw => ⟨i, j, den_int hv, den_int hw, q _ (.int .nil)⟩⟩⟩
          · cases h
        · cases h
      case UnaryOp op a pos =>
        refine ⟨fun pins s σ H Q I ⟨η, t, F, ag, st, d, h, q⟩ => ?_⟩
        cases op <;> simp only [evX] at h <;> try cases h
        split at h
        · rename_i i hi
          cases h
          exact (pe_un un_neg (ihX X c a C)).run pins s σ H Q I ⟨η, t, F, ag, st, _, hi, fun v hv => ⟨i, den_int hv, q _ (.int .nil)⟩⟩
        · cases h
      case Call f args kws pos =>
        refine ⟨fun pins s σ H Q I ⟨η, t, F, ag, st, d, h, q⟩ => ?_⟩
        cases f with
        | Name f fp => ?_
        | _ => simp only [evX] at h; cases h
        cases args with
        | nil => simp only [evX] at h; cases h
        | cons a as =>
          cases as with
          | cons _ _ => simp only [evX] at h; cases h
          | nil =>
            cases kws with
            | cons _ _ => simp only [evX] at h; cases h
            | nil =>
              simp only [evX] at h
              split at h
              · rename_i hf
                simp only [Bool.and_eq_true] at hf
                obtain ⟨g1, g2, g3, g4⟩ := bltn_of C hf.2
                have ef : f = ("len" : Str) := eq_of_beq hf.1
                subst ef
                by_cases hst : isStar a = true
                · cases a <;> simp [isStar] at hst
                  split at h
                  · rename_i hp; cases n <;> simp [evP] at hp
                  · split at h
                    · rename_i hp; cases n <;> simp [evX] at hp
                    · cases h
                · have hst : isStar a = false := by simpa using hst
                  have he := star_of (es := []) (env := X.env) hst
                  have mk : ∀ {ta : TE}, PE X a ta → PE X (.Call (.Name "len" fp) [a] [] pos) (tCB _ (tCons ta tNil)) := fun {ta} ha =>
                    pe_callB call_len g1 g4 (by decide +kernel) (pa_cons ha pa_nil he) g3 g2 he rfl
                  split at h
                  · rename_i i p d' hp
                    rw [Option.map_eq_some_iff] at h
                    obtain ⟨m, hm, rfl⟩ := h
                    exact (mk (ihP X c a C)).run pins s σ H Q I ⟨η, t, F, ag, st, i, p, d', hp, fun v v0 d0 _ _ _ ⟨B, hB⟩ => ⟨v, m, rfl, len_of hB st.sub hm, q _ (.int .nil)⟩⟩
                  · split at h
                    · rename_i d' hx
                      rw [Option.map_eq_some_iff] at h
                      obtain ⟨m, hm, rfl⟩ := h
                      exact (mk (ihX X c a C)).run pins s σ H Q I ⟨η, t, F, ag, st, d', hx, fun v hv => ⟨v, m, rfl, len_of hv st.sub hm, q _ (.int .nil)⟩⟩
                    · cases h
              · cases h
      case Subscript a b pos => exact viaP X c _ (ihP X c _ C)
      case Attribute a f pos => exact viaP X c _ (ihP X c _ C)
    · cases e <;> try exact tP_none fun _ => rfl
      case Name x pos =>
        refine ⟨fun pins s σ H Q I ⟨η, t, F, ag, st, i, p, d, h, q⟩ => ?_⟩
        simp only [evP] at h
        split at h
        · rename_i i' hi
          split at h
          · rename_i d' hd
            split at h
            · rename_i hb
              cases h
              obtain ⟨v, hv⟩ := map_get hd
              exact (pe_slot C hi).run pins s σ H Q I ⟨v, ag.get hv hb, q v v d hv hb .nil (stt_mem st (List.mem_append_left t (List.mem_of_getElem? hv)))⟩
            · cases h
          · cases h
        · cases h
      case Subscript a b pos =>
        refine ⟨fun pins s σ H Q I ⟨η, t, F, ag, st, i, p, d, h, q⟩ => ?_⟩
        simp only [evP] at h
        split at h
        · cases h
        · rename_i hsl
          have hsl : isSlice b = false := by simpa using hsl
          split at h
          · rename_i i' p' kd o xs m hp hm
            have main : ∀ (j : Nat) (x : D), kd ≠ .lst → True := fun _ _ _ => trivial
            have fin : ∀ (j : Nat) (x : D), (kd = .lst ∨ kd = .rol ∨ kd = .tup) → ixN xs.length m = some j → xs[j]? = some x → (i, p, d) = (i', p' ++ [j], x) → wpAny (model X.prog X.w) X.A (eval (.Subscript a b pos) X.env) (EP X pins σ Q) X.xe s := by
              intro j x hk hj hx e
              cases e
              refine (pe_ix ix_seq (ihP X c a C) (ihX X c b C) (plainIx_of hsl)).run pins s σ H Q I ⟨η, t, F, ag, st, i, p', _, hp, fun v v0 d0 e0 b0 pv hB => ⟨η, t, F, ag, st, _, hm, fun w hw => ?_⟩⟩
              cases den_int hw
              obtain ⟨a', ps, w, rfl, n1, e1, e2, pp⟩ := path_one hB st.sub hx
              have hat : atI (ps.map Prod.fst) m = some w := by
                unfold atI
                rw [len_map2 e1, hj]
                show (ps.map Prod.fst)[j]? = _
                rw [List.getElem?_map, e2]
                rfl
              have hq := q w v0 d0 e0 b0 (pv.snoc pp) (pp.den hB)
              rcases hk with rfl | rfl | rfl
              · exact .inl ⟨a', _, _, w, rfl, rfl, .inl (.inl n1), hat, hq⟩
              · exact .inl ⟨a', _, _, w, rfl, rfl, n1, hat, hq⟩
              · exact .inr (.inl ⟨a', _, _, w, rfl, rfl, n1, hat, hq⟩)
            cases kd with
            | obj _ _ => cases h
            | lst =>
              simp only at h
              split at h
              · rename_i j hj
                split at h
                · rename_i x hx
                  exact fin j x (.inl rfl) hj hx (Option.some.inj h).symm
                · cases h
              · cases h
            | rol =>
              simp only at h
              split at h
              · rename_i j hj
                split at h
                · rename_i x hx
                  exact fin j x (.inr (.inl rfl)) hj hx (Option.some.inj h).symm
                · cases h
              · cases h
            | tup =>
              simp only at h
              split at h
              · rename_i j hj
                split at h
                · rename_i x hx
                  exact fin j x (.inr (.inr rfl)) hj hx (Option.some.inj h).symm
                · cases h
              · cases h
          · cases h
      case Attribute a f pos =>
        refine ⟨fun pins s σ H Q I ⟨η, t, F, ag, st, i, p, d, h, q⟩ => ?_⟩
        simp only [evP] at h
        split at h
        · rename_i i' p' y fs o xs hp
          split at h
          · rename_i hf
            split at h
            · rename_i j hj
              split at h
              · rename_i x hx
                cases h
                obtain ⟨hc, hn⟩ := isFld_of C hf
                have hne : ∀ id p pos, a ≠ .Call (.Name id p) [] [] pos := by
                  rintro id p pos rfl
                  cases n <;> simp [evP] at hp
                refine (pe_fld (ihP X c a C) (abase_of hne)).run pins s σ H Q I ⟨η, t, F, ag, st, i, p', _, hp, fun v v0 d0 e0 b0 pv hB => ?_⟩
                obtain ⟨a', ps, w, rfl, n1, e1, e2, pp⟩ := path_one hB st.sub hx
                obtain ⟨l1, dx, n2⟩ := n1
                exact ⟨a', ca.at_ y, dx, _, w, rfl, n2, hc, hn, zip_look hj l1 (by rw [List.getElem?_map, e2]; rfl), q w v0 d0 e0 b0 (pv.snoc pp) (pp.den hB)⟩
              · cases h
            · cases h
          · cases h
        · cases h
end
end Z

set_option Elab.async false
set_option linter.all false
set_option maxRecDepth 100000
set_option maxHeartbeats 4000000
namespace Z
open PySem PySem.Spec PyProof.Rows L2
section
variable {K : PySem.W.Frag} {ca : Ca} {H F : Hp} {v v0 w : V} {d d0 x : D} {p q : List Nat}
theorem zip_inj : ∀ {fs : List Str} {ws ws' : List V}, fs.length = ws.length → fs.length = ws'.length → fs.zip ws = fs.zip ws' → ws = ws'
  | [], [], [], _, _, _ => rfl
  | f :: fs, w :: ws, w' :: ws', h1, h2, e => by
    rw [List.zip_cons_cons, List.zip_cons_cons] at e
    injection e with e1 e2
    rw [(Prod.mk.inj e1).2, zip_inj (by simpa using h1) (by simpa using h2) e2]
theorem NdO.inj {a : Addr} {k : Kd} {ws ws' : List V} (h : NdO ca H a k ws) (h' : NdO ca H a k ws') : ws = ws' := by
  cases k with
  | lst => have h : H a = Option.some (.lst ws) := h; rw [show H a = Option.some (.lst ws') from h'] at h; cases h; rfl
  | rol => have h : H a = Option.some (.lst ws) := h; rw [show H a = Option.some (.lst ws') from h'] at h; cases h; rfl
  | tup => have h : H a = Option.some (.tup ws) := h; rw [show H a = Option.some (.tup ws') from h'] at h; cases h; rfl
  | obj c fs =>
    obtain ⟨l1, dx, e1⟩ := h
    obtain ⟨l2, dx', e2⟩ := h'
    rw [e1] at e2
    injection e2 with e2
    injection e2 with _ _ e3
    exact zip_inj l1 l2 e3
theorem pairs_eq : ∀ {ps qs : List (V × D)}, ps.map Prod.fst = qs.map Prod.fst → ps.map Prod.snd = qs.map Prod.snd → ps = qs
  | [], [], _, _ => rfl
  | [], _ :: _, h, _ => by cases h
  | _ :: _, [], h, _ => by cases h
  | (a, b) :: ps, (a', b') :: qs, h1, h2 => by
    simp only [List.map_cons, List.cons.injEq] at h1 h2
    rw [h1.1, h2.1, pairs_eq h1.2 h2.2]
theorem still_path (h : PathV K ca H F v0 d0 p v d) : d0.still = true → d.still = true := by
  induction h with
  | nil => exact id
  | @step a k o xs ps j w x p v d hn ho hx hj hc r ih =>
    intro e
    simp only [D.still, Bool.and_eq_true, stillL_all, List.all_eq_true] at e
    refine ih (e.2 x ?_)
    rw [← hx]
    exact List.mem_map.mpr ⟨(w, x), List.mem_of_getElem? hj, rfl⟩
theorem set_split {α : Type} : ∀ {l : List α} {j : Nat} {x y : α}, l[j]? = some x → l.set j y = l.take j ++ y :: l.drop (j + 1) ∧ l = l.take j ++ x :: l.drop (j + 1)
  | [], _, _, _, h => by simp at h
  | a :: r, 0, x, y, h => by simp at h; subst h; simp
  | a :: r, j + 1, x, y, h => by
    have := set_split (l := r) (j := j) (x := x) (y := y) (by simpa using h)
    simp only [List.set_cons_succ, List.take_succ_cons, List.drop_succ_cons, List.cons_append]
    exact ⟨by rw [this.1], by rw [← this.2]⟩
/-- the node at the end of a way that is ours alone, with what stands around it -/
theorem focus (h : PathV K ca H F v0 d0 p v d) : ∀ {a : Addr} {k : Kd} {xs : List D}, v = .ref a → d = .node k true xs → ∀ {l : List (V × D)} {A : List Addr}, DenL K ca H F ((v0, d0) :: l) A →
    ∃ (ps : List (V × D)) (B C : List Addr), NdO ca H a k (ps.map Prod.fst) ∧ ps.map Prod.snd = xs ∧ DenL K ca H F ps B ∧ A.Perm (a :: (B ++ C)) ∧
      ∀ (H' F' : Hp) (k' : Kd) (ps' : List (V × D)) (B' : List Addr), (∀ b ∈ C, H' b = H b) → Sub F F' → NdO ca H' a k' (ps'.map Prod.fst) → DenL K ca H' F' ps' B' →
        ∃ A', DenL K ca H' F' ((v0, d0.putAt p (.node k' true (ps'.map Prod.snd))) :: l) A' ∧ A'.Perm (a :: (B' ++ C)) := by
  induction h with
  | nil =>
    intro a k xs e1 e2 l A h
    subst e1; subst e2
    cases h with
    | own hn hx hc hl =>
      rename_i ps A B
      refine ⟨ps, B, A, hn, hx, hc, .refl _, fun H' F' k' ps' B' hC sF hn' hc' => ?_⟩
      exact ⟨_, .own hn' rfl hc' (hl.mono sF hC), .refl _⟩
  | @step a0 k0 o xs0 ps0 j w x p v d hn ho hx hj hc r ih =>
    intro a k xs e1 e2 l A h
    cases h with
    | frz hn1 hx1 hc1 hl =>
      rename_i ps1
      exfalso
      have s1 : D.stillL xs0 = true := by
        have : ∀ {l : List (V × D)} {A : List Addr}, DenL K ca H F l A → A = [] → (∀ q ∈ l, q.2 ≠ .unb ∨ True) → D.stillL (l.map Prod.snd) = true := by
          intro l A h
          induction h with
          | nil => intro _ _; rfl
          | unb _ ih => intro e q; simp only [List.map_cons, D.stillL, D.still, Bool.true_and]; exact ih e fun _ _ => .inr trivial
          | non _ ih => intro e q; simp only [List.map_cons, D.stillL, D.still, Bool.true_and]; exact ih e fun _ _ => .inr trivial
          | bl _ ih => intro e q; simp only [List.map_cons, D.stillL, D.still, Bool.true_and]; exact ih e fun _ _ => .inr trivial
          | int _ ih => intro e q; simp only [List.map_cons, D.stillL, D.still, Bool.true_and]; exact ih e fun _ _ => .inr trivial
          | str _ ih => intro e q; simp only [List.map_cons, D.stillL, D.still, Bool.true_and]; exact ih e fun _ _ => .inr trivial
          | ty _ ih => intro e q; simp only [List.map_cons, D.stillL, D.still, Bool.true_and]; exact ih e fun _ _ => .inr trivial
          | frz hn hx hc hl ih1 ih2 =>
            intro e q
            simp only [List.map_cons, D.stillL, D.still, Bool.not_false, Bool.true_and, Bool.and_eq_true]
            exact ⟨by rw [← hx]; exact ih1 rfl fun _ _ => .inr trivial, ih2 e fun _ _ => .inr trivial⟩
          | own hn hx hc hl ih1 ih2 => intro e; cases e
        rw [← hx1]
        exact this hc1 rfl fun _ _ => .inr trivial
      have hxm : x ∈ xs0 := by rw [← hx]; exact List.mem_map.mpr ⟨(w, x), List.mem_of_getElem? hj, rfl⟩
      rw [stillL_all, List.all_eq_true] at s1
      have := still_path r (s1 x hxm)
      rw [e2] at this
      simp [D.still] at this
    | own hn1 hx1 hc1 hl =>
      rename_i ps1 A1 B1
      have e3 : ps1 = ps0 := pairs_eq (hn1.inj (ho rfl)) (hx1.trans hx.symm)
      subst e3
      obtain ⟨q1, q2⟩ := set_split (y := (w, x)) hj
      have pm : ps1.Perm ((w, x) :: (ps1.take j ++ ps1.drop (j + 1))) := by
        conv => lhs; rw [q2]
        exact List.perm_middle
      obtain ⟨B1', pB, hB1'⟩ := hc1.perm pm
      obtain ⟨ps, B, C, h1, h2, h3, h4, h5⟩ := ih e1 e2 hB1'
      refine ⟨ps, B, C ++ a0 :: A1, h1, h2, h3, ?_, fun H' F' k' ps' B' hC sF hn' hc' => ?_⟩
      · have p1 : (B1 ++ A1).Perm (a :: (B ++ C) ++ A1) := (pB.trans h4).append_right A1
        have p2 : (a0 :: (B1 ++ A1)).Perm (a0 :: (a :: (B ++ C) ++ A1)) := p1.cons a0
        refine p2.trans ?_
        refine (List.Perm.swap a a0 ((B ++ C) ++ A1)).trans ?_
        refine List.Perm.cons a ?_
        rw [← List.append_assoc]
        exact List.perm_middle.symm
      · obtain ⟨A', h6, h7⟩ := h5 H' F' k' ps' B' (fun b z => hC b (by simp [z])) sF hn' hc'
        let y : D := x.putAt p (.node k' true (ps'.map Prod.snd))
        have pm' : ((w, y) :: (ps1.take j ++ ps1.drop (j + 1))).Perm (ps1.set j (w, y)) := by
          rw [(set_split (y := (w, y)) hj).1]
          exact List.perm_middle.symm
        obtain ⟨A2, p2, h8⟩ := h6.perm pm'
        have f1 : (ps1.set j (w, y)).map Prod.fst = ps1.map Prod.fst := by
          rw [List.map_set]
          have : (ps1.map Prod.fst)[j]? = some w := by rw [List.getElem?_map, hj]; rfl
          exact List.ext_getElem? fun m => by
            rw [List.getElem?_set]
            split
            · rename_i e; subst e
              split
              · exact this.symm
              · rename_i hlt
                rw [List.getElem?_eq_none (by simpa using hlt)]
            · rfl
        have f2 : (ps1.set j (w, y)).map Prod.snd = xs0.set j y := by rw [List.map_set, hx]
        have g1 : xs0.getD j .unb = x := by
          rw [← hx, List.getD_eq_getElem?_getD, List.getElem?_map, hj]; rfl
        have hn0 : NdO ca H' a0 k0 ((ps1.set j (w, y)).map Prod.fst) := by rw [f1]; exact hn1.eq (hC a0 (by simp))
        have res := DenL.own hn0 f2 h8 (hl.mono sF fun b z => hC b (by simp [z]))
        have e5 : D.putAt (.node k0 true xs0) (j :: p) (.node k' true (ps'.map Prod.snd)) = .node k0 true (xs0.set j y) := by
          show D.node k0 true (xs0.set j (D.putAt (xs0.getD j .unb) p _)) = _
          rw [g1]
        rw [e5]
        refine ⟨_, res, ?_⟩
        have p3 : (A2 ++ A1).Perm (a :: (B' ++ C) ++ A1) := (p2.symm.trans h7).append_right A1
        refine (p3.cons a0).trans ?_
        refine (List.Perm.swap a a0 ((B' ++ C) ++ A1)).trans ?_
        refine List.Perm.cons a ?_
        rw [← List.append_assoc]
        exact List.perm_middle.symm
/-- a node that is ours alone gets new content, out of temporaries -/
theorem Stt.put {l : List (V × D)} {a : Addr} {k : Kd} {xs : List D} {qs : List (V × D)} (st : Stt K ca H F (qs ++ (v0, d0) :: l)) (h : PathV K ca H F v0 d0 p (.ref a) (.node k true xs)) :
    ∃ ps : List (V × D), NdO ca H a k (ps.map Prod.fst) ∧ ps.map Prod.snd = xs ∧
      ∀ (o : HO) (k' : Kd) (ps' r : List (V × D)), (ps ++ qs).Perm (ps' ++ r) → NdO ca (upd H a o) a k' (ps'.map Prod.fst) → Stt K ca (upd H a o) F (r ++ (v0, d0.putAt p (.node k' true (ps'.map Prod.snd))) :: l) := by
  obtain ⟨A, hA, nd, fr, sb, bb⟩ := st
  obtain ⟨Aq, Al, hq, hl, rfl⟩ := hA.split
  obtain ⟨ps, B, C, h1, h2, h3, h4, h5⟩ := focus h rfl rfl hl
  refine ⟨ps, h1, h2, fun o k' ps' r pm hn' => ?_⟩
  have all : (Aq ++ Al).Perm (a :: (B ++ Aq) ++ C) := by
    refine (h4.append_left Aq).trans ?_
    refine List.perm_middle.trans (List.Perm.cons a ?_)
    rw [← List.append_assoc]
    exact (List.perm_append_comm.append_right C)
  have nd2 := all.nodup_iff.mp nd
  have ha : ∀ b ∈ B ++ Aq, b ≠ a := fun b z e => by
    subst e
    simp only [List.cons_append, List.nodup_cons] at nd2
    exact nd2.1 (List.mem_append_left C z)
  have haC : ∀ b ∈ C, b ≠ a := fun b z e => by
    subst e
    simp only [List.cons_append, List.nodup_cons] at nd2
    exact nd2.1 (List.mem_append_right _ z)
  have hpq : DenL K ca (upd H a o) F (ps ++ qs) (B ++ Aq) := (h3.append hq).mono (Sub.refl F) fun b z => upd_ne (ha b z)
  obtain ⟨D1, pD, hD⟩ := hpq.perm pm
  obtain ⟨B', R, hB', hR, rfl⟩ := hD.split
  obtain ⟨A', h6, h7⟩ := h5 (upd H a o) F k' ps' B' (fun b z => upd_ne (haC b z)) (Sub.refl F) hn' hB'
  have pall : (Aq ++ Al).Perm (R ++ A') := by
    refine all.trans ?_
    have : (a :: (B ++ Aq) ++ C).Perm (a :: (B' ++ R) ++ C) := ((pD.cons a).append_right C)
    refine this.trans ?_
    refine List.Perm.trans ?_ ((h7.append_left R).symm)
    refine List.Perm.trans ?_ (List.perm_middle.symm)
    refine List.Perm.cons a ?_
    show ((B' ++ R) ++ C).Perm (R ++ (B' ++ C))
    rw [← List.append_assoc]
    exact List.perm_append_comm.append_right C
  refine ⟨R ++ A', hR.append h6, pall.nodup_iff.mp nd, fun b z => fr b (pall.mem_iff.mpr z), fun b o' e => ?_, bb⟩
  have fa : F a = none := fr a (all.mem_iff.mpr (by simp))
  by_cases q : b = a
  · subst q; rw [fa] at e; cases e
  · rw [upd_ne q]; exact sb b o' e
end
end Z

set_option Elab.async false
set_option linter.all false
set_option maxRecDepth 100000
set_option maxHeartbeats 4000000
namespace Z
open PySem PySem.Spec PyProof.Rows L2
section
variable {K : PySem.W.Frag} {ca : Ca} {H F : Hp} {v v0 w : V} {d d0 x : D} {p q : List Nat} {e t : List (V × D)} {σ : L2.St} {i : Nat}
theorem den_still {l : List (V × D)} {A : List Addr} (h : DenL K ca H F l A) (hA : A = []) : D.stillL (l.map Prod.snd) = true := by
  induction h with
  | nil => rfl
  | unb _ ih => simp only [List.map_cons, D.stillL, D.still, Bool.true_and]; exact ih hA
  | non _ ih => simp only [List.map_cons, D.stillL, D.still, Bool.true_and]; exact ih hA
  | bl _ ih => simp only [List.map_cons, D.stillL, D.still, Bool.true_and]; exact ih hA
  | int _ ih => simp only [List.map_cons, D.stillL, D.still, Bool.true_and]; exact ih hA
  | str _ ih => simp only [List.map_cons, D.stillL, D.still, Bool.true_and]; exact ih hA
  | ty _ ih => simp only [List.map_cons, D.stillL, D.still, Bool.true_and]; exact ih hA
  | frz hn hx hc hl ih1 ih2 =>
    simp only [List.map_cons, D.stillL, D.still, Bool.not_false, Bool.true_and, Bool.and_eq_true]
    exact ⟨by rw [← hx]; exact ih1 rfl, ih2 hA⟩
  | own hn hx hc hl ih1 ih2 => cases hA
theorem path_den (h : PathV K ca H F v0 d0 p v d) : ∀ {B : List Addr}, DenL K ca H F [(v0, d0)] B → ∃ C, DenL K ca H F [(v, d)] C ∧ ∀ a ∈ C, a ∈ B := by
  induction h with
  | nil => exact fun h => ⟨_, h, fun _ z => z⟩
  | @step a k o xs ps j w x p v d hn ho hx hj hc r ih =>
    intro B h
    cases h with
    | frz hn1 hx1 hc1 hl =>
      have s1 := den_still hc1 rfl
      rw [hx1] at s1
      obtain ⟨B', hB'⟩ := hc
      have e0 : B' = [] := hB'.still (by rw [hx]; exact s1)
      subst e0
      obtain ⟨C, h1, h2⟩ := den_mem hB' (List.mem_of_getElem? hj)
      obtain ⟨C', h3, h4⟩ := ih h1
      exact ⟨C', h3, fun a z => absurd (h2 a (h4 a z)) (by simp)⟩
    | own hn1 hx1 hc1 hl =>
      rename_i ps1 A1 B1
      have e3 : ps1 = ps := pairs_eq (hn1.inj (ho rfl)) (hx1.trans hx.symm)
      subst e3
      obtain ⟨C, h1, h2⟩ := den_mem hc1 (List.mem_of_getElem? hj)
      obtain ⟨C', h3, h4⟩ := ih h1
      exact ⟨C', h3, fun a z => by simp [h2 a (h4 a z)]⟩
theorem Stt.freezeP (h : Stt K ca H F ((v0, d0) :: e)) : ∃ F', Sub F F' ∧ Stt K ca H F' ((v0, d0.frz) :: e) ∧ ∀ p v d, PathV K ca H F v0 d0 p v d → DenL K ca H F' [(v, d.frz)] [] := by
  obtain ⟨A, h, n, f, s, bb⟩ := h
  obtain ⟨B, C, hb, hc, rfl⟩ := h.split1
  let F' : Hp := fun a => if a ∈ B then H a else F a
  have s1 : Sub F F' := fun a o e => by
    show (if a ∈ B then H a else F a) = some o
    split
    · exact s a o e
    · exact e
  have s2 : Sub F' H := fun a o e => by
    have e : (if a ∈ B then H a else F a) = some o := e
    split at e
    · exact e
    · exact s a o e
  have hB : ∀ a ∈ B, F' a = H a := fun a z => if_pos z
  refine ⟨F', s1, ⟨_, (hb.freeze s1 hB).append (hc.mono s1 fun _ _ => rfl), ?_, ?_, s2, bb.trans s1⟩, fun p v d pv => ?_⟩
  · simpa using (List.nodup_append.mp n).2.1
  · intro a z
    have z : a ∈ C := by simpa using z
    have : a ∉ B := fun zb => (List.nodup_append.mp n).2.2 a zb a z rfl
    show (if a ∈ B then H a else F a) = none
    rw [if_neg this]
    exact f a (by simp [z])
  · obtain ⟨C', h1, h2⟩ := path_den pv hb
    exact h1.freeze s1 fun a z => hB a (h2 a z)
theorem slot_perm (h : e[i]? = some (v, d)) : (e ++ t).Perm ((v, d) :: ((e.take i ++ e.drop (i + 1)) ++ t)) := by
  have q2 := (set_split (y := (v, d)) h).2
  have : e.Perm ((v, d) :: (e.take i ++ e.drop (i + 1))) := by
    conv => lhs; rw [q2]
    exact List.perm_middle
  exact this.append_right t
theorem slot_perm' {y : V × D} (h : e[i]? = some (v, d)) : (y :: ((e.take i ++ e.drop (i + 1)) ++ t)).Perm (e.set i y ++ t) := by
  rw [(set_split (y := y) h).1]
  rw [← List.cons_append]
  exact (List.perm_middle.symm).append_right t
/-- a slot is shared from now on -/
theorem slot_frz (st : Stt K ca H F (e ++ t)) (h : e[i]? = some (v, d)) : ∃ F', Sub F F' ∧ Stt K ca H F' (e.set i (v, d.frz) ++ t) ∧ ∀ p u x, PathV K ca H F v d p u x → DenL K ca H F' [(u, x.frz)] [] := by
  obtain ⟨F', s1, st', pp⟩ := (st.perm (slot_perm h)).freezeP
  exact ⟨F', s1, st'.perm (slot_perm' h), pp⟩
theorem map_set {y : V × D} : (e.set i y).map Prod.snd = (e.map Prod.snd).set i y.2 := by rw [List.map_set]
theorem frz_bound (d : D) : d.frz.bound = d.bound := by cases d <;> rfl
theorem setFrz_eq (h : e[i]? = some (v, d)) : setFrz i (e.map Prod.snd) = (e.set i (v, d.frz)).map Prod.snd := by
  unfold setFrz
  rw [List.getElem?_map, h]
  show ((e.map Prod.snd).set i d.frz) = _
  rw [map_set]
end

section
variable {K : PySem.W.Frag} {ca : Ca} {H F : Hp} {v v0 w : V} {d d0 x : D} {p q : List Nat} {e t : List (V × D)} {σ : L2.St} {i : Nat}
theorem putAt_self (h : PathV K ca H F v0 d0 p v d) : d0.putAt p d = d0 := by
  induction h with
  | nil => rfl
  | @step a k o xs ps j w x p v d hn ho hx hj hc r ih =>
    have g0 : xs[j]? = some x := by rw [← hx, List.getElem?_map, hj]; rfl
    have g1 : xs.getD j .unb = x := by rw [List.getD_eq_getElem?_getD, g0]; rfl
    show D.node k o (xs.set j (D.putAt (xs.getD j .unb) p d)) = _
    rw [g1, ih]
    congr 1
    exact List.ext_getElem? fun m => by
      rw [List.getElem?_set]
      split
      · rename_i e; subst e
        split
        · exact g0.symm
        · rename_i hlt; rw [List.getElem?_eq_none (by simpa using hlt)]
      · rfl
/-- what is at the end of a way may be shared, what stands around it stays -/
theorem freezeAt (h : PathV K ca H F v0 d0 p v d) : ∀ {l : List (V × D)} {A : List Addr}, DenL K ca H F ((v0, d0) :: l) A → ∃ B C : List Addr, A.Perm (B ++ C) ∧ ∀ F' : Hp, Sub F F' → (∀ a ∈ B, F' a = H a) →
    DenL K ca H F' [(v, d.frz)] [] ∧ ∃ A', A'.Perm C ∧ DenL K ca H F' ((v0, d0.putAt p d.frz) :: l) A' := by
  induction h with
  | nil =>
    intro l A h
    obtain ⟨B, C, hb, hc, rfl⟩ := h.split1
    refine ⟨B, C, .refl _, fun F' s1 hB => ?_⟩
    have h1 := hb.freeze s1 hB
    exact ⟨h1, C, .refl _, h1.append (hc.mono s1 fun _ _ => rfl)⟩
  | @step a0 k0 o xs0 ps0 j w x p v d hn ho hx hj hc r ih =>
    intro l A h
    cases h with
    | frz hn1 hx1 hc1 hl =>
      have s1 := den_still hc1 rfl
      rw [hx1] at s1
      have hxm : x ∈ xs0 := by rw [← hx]; exact List.mem_map.mpr ⟨(w, x), List.mem_of_getElem? hj, rfl⟩
      have sd : d.still = true := by
        rw [stillL_all, List.all_eq_true] at s1
        exact still_path r (s1 x hxm)
      have pv : PathV K ca H F (.ref a0) (.node k0 false xs0) (j :: p) v d := .step hn ho hx hj hc r
      obtain ⟨C', h2, h3⟩ := path_den pv (B := []) (.frz hn1 hx1 hc1 .nil)
      have e0 : C' = [] := List.eq_nil_iff_forall_not_mem.mpr fun b z => by have := h3 b z; simp at this
      subst e0
      refine ⟨[], A, .refl _, fun F' sF hB => ?_⟩
      rw [still_frz _ sd, putAt_self pv]
      exact ⟨h2.mono sF (fun b z => by cases z), A, .refl _, (DenL.frz hn1 hx1 hc1 hl).mono sF (fun _ _ => rfl)⟩
    | own hn1 hx1 hc1 hl =>
      rename_i ps1 A1 B1
      have e3 : ps1 = ps0 := pairs_eq (hn1.inj (ho rfl)) (hx1.trans hx.symm)
      subst e3
      obtain ⟨q1, q2⟩ := set_split (y := (w, x)) hj
      have pm : ps1.Perm ((w, x) :: (ps1.take j ++ ps1.drop (j + 1))) := by
        conv => lhs; rw [q2]
        exact List.perm_middle
      obtain ⟨B1', pB, hB1'⟩ := hc1.perm pm
      obtain ⟨B, C, p1, h5⟩ := ih hB1'
      refine ⟨B, a0 :: (C ++ A1), ?_, fun F' sF hB => ?_⟩
      · have p2 : (B1 ++ A1).Perm (B ++ (C ++ A1)) := by
          rw [← List.append_assoc]
          exact (pB.trans p1).append_right A1
        exact (p2.cons a0).trans List.perm_middle.symm
      · obtain ⟨h6, A', h7, h8⟩ := h5 F' sF hB
        refine ⟨h6, ?_⟩
        let y : D := x.putAt p d.frz
        have pm' : ((w, y) :: (ps1.take j ++ ps1.drop (j + 1))).Perm (ps1.set j (w, y)) := by
          rw [(set_split (y := (w, y)) hj).1]
          exact List.perm_middle.symm
        obtain ⟨A2, p3, h9⟩ := h8.perm pm'
        have f1 : (ps1.set j (w, y)).map Prod.fst = ps1.map Prod.fst := by
          rw [List.map_set]
          have hjj : (ps1.map Prod.fst)[j]? = some w := by rw [List.getElem?_map, hj]; rfl
          exact List.ext_getElem? fun m => by
            rw [List.getElem?_set]
            split
            · rename_i e; subst e
              split
              · exact hjj.symm
              · rename_i hlt; rw [List.getElem?_eq_none (by simpa using hlt)]
            · rfl
        have f2 : (ps1.set j (w, y)).map Prod.snd = xs0.set j y := by rw [List.map_set, hx]
        have g1 : xs0.getD j .unb = x := by rw [← hx, List.getD_eq_getElem?_getD, List.getElem?_map, hj]; rfl
        have e5 : D.putAt (.node k0 true xs0) (j :: p) d.frz = .node k0 true (xs0.set j y) := by
          show D.node k0 true (xs0.set j (D.putAt (xs0.getD j .unb) p _)) = _
          rw [g1]
        rw [e5]
        refine ⟨_, ?_, .own (ps := ps1.set j (w, y)) (by rw [f1]; exact hn1) f2 h9 (hl.mono sF fun _ _ => rfl)⟩
        exact ((p3.symm.trans h7).append_right A1).cons a0
/-- a thing below a slot is shared from now on -/
theorem slot_frzP (st : Stt K ca H F (e ++ t)) (h : e[i]? = some (v0, d0)) (pv : PathV K ca H F v0 d0 p v d) : ∃ F', Sub F F' ∧ Stt K ca H F' (e.set i (v0, d0.putAt p d.frz) ++ t) ∧ DenL K ca H F' [(v, d.frz)] [] := by
  obtain ⟨A, hA, n, f, s, bb⟩ := st.perm (slot_perm h)
  obtain ⟨B, C, p1, h5⟩ := freezeAt pv hA
  let F' : Hp := fun a => if a ∈ B then H a else F a
  have s1 : Sub F F' := fun a o e => by
    show (if a ∈ B then H a else F a) = some o
    split
    · exact s a o e
    · exact e
  have s2 : Sub F' H := fun a o e => by
    have e : (if a ∈ B then H a else F a) = some o := e
    split at e
    · exact e
    · exact s a o e
  obtain ⟨h6, A', h7, h8⟩ := h5 F' s1 fun a z => if_pos z
  have nBC := p1.nodup_iff.mp n
  refine ⟨F', s1, Stt.perm (l := (v0, d0.putAt p d.frz) :: ((e.take i ++ e.drop (i + 1)) ++ t)) ⟨A', h8, h7.nodup_iff.mpr (List.nodup_append.mp nBC).2.1, fun a z => ?_, s2, bb.trans s1⟩ (slot_perm' h), h6⟩
  have zc : a ∈ C := h7.mem_iff.mp z
  have : a ∉ B := fun zb => (List.nodup_append.mp nBC).2.2 a zb a zc rfl
  show (if a ∈ B then H a else F a) = none
  rw [if_neg this]
  exact f a (p1.mem_iff.mpr (by simp [zc]))
theorem setFrzP_eq (h : e[i]? = some (v0, d0)) : setFrzP i p d (e.map Prod.snd) = (e.set i (v0, d0.putAt p d.frz)).map Prod.snd := by
  unfold setFrzP
  rw [List.getElem?_map, h]
  show ((e.map Prod.snd).set i (d0.putAt p d.frz)) = _
  rw [map_set]
end
/-- a value that is shared -/
def pS (K : PySem.W.Frag) (ca : Ca) (Q : V → Hp → Prop) (t : List (V × D)) (d : D) (e : List (V × D)) (H F : Hp) : Prop := ∀ v, d.still = true → Stt K ca H F ((v, d) :: (e ++ t)) → Q v H
/-- values in a row -/
def pVs (K : PySem.W.Frag) (ca : Ca) (Q : List V → Hp → Prop) (t : List (V × D)) (ds : List D) (e : List (V × D)) (H F : Hp) : Prop := ∀ ps : List (V × D), ps.map Prod.snd = ds → Stt K ca H F (ps ++ (e ++ t)) → Q (ps.map Prod.fst) H
/-- arguments -/
inductive ArgsR (σ : L2.St) : List Arg → List V → List (V × D) → Prop
  | nil : ArgsR σ [] [] []
  | slot {i v as ws tm} (h : σ[i]? = some (some v)) (r : ArgsR σ as ws tm) : ArgsR σ (.slot i :: as) (v :: ws) tm
  | tmp {v d as ws tm} (r : ArgsR σ as ws tm) : ArgsR σ (.tmp d :: as) (v :: ws) ((v, d) :: tm)
def pAs (K : PySem.W.Frag) (ca : Ca) (σ : L2.St) (Q : List V → Hp → Prop) (t : List (V × D)) (as : List Arg) (e : List (V × D)) (H F : Hp) : Prop := ∀ ws tm, ArgsR σ as ws tm → Stt K ca H F (tm ++ (e ++ t)) → Q ws H
def tAs (K : PySem.W.Frag) (ca : Ca) (W : WX) (m : M (List Arg)) : TA := fun σ H Q =>
  ∃ (e t : List (V × D)) (F : Hp), Agree ca σ e ∧ Stt K ca H F (e ++ t) ∧ PostG K ca W σ t F (m (e.map Prod.snd)) (pAs K ca σ Q t)
def tAr (K : PySem.W.Frag) (ca : Ca) (W : WX) (m : M Arg) : TE := fun σ H Q =>
  ∃ (e t : List (V × D)) (F : Hp), Agree ca σ e ∧ Stt K ca H F (e ++ t) ∧ PostG K ca W σ t F (m (e.map Prod.snd)) (fun a => pAs K ca σ (fun ws H' => ∃ v, ws = [v] ∧ Q v H') t [a])
def tPt (K : PySem.W.Frag) (ca : Ca) (W : WX) (m : M (Option Int)) : TO := fun σ H Q =>
  ∃ (e t : List (V × D)) (F : Hp), Agree ca σ e ∧ Stt K ca H F (e ++ t) ∧ PostG K ca W σ t F (m (e.map Prod.snd)) (fun o e' H' F' => Stt K ca H' F' (e' ++ t) → Q o H')
/-- what is walked: the items, whatever the heap behind grows to -/
structure ItDen (K : PySem.W.Frag) (ca : Ca) (J : It) (F : Hp) (items : List D) : Prop where
  go : ∀ i H l, i < items.length → (∃ F', Sub F F' ∧ Stt K ca H F' l) → J.go i H
  yld : ∀ i H x H' F' l d, items[i]? = some d → Sub F F' → Stt K ca H F' l → J.yld i H x H' → Stt K ca H' F' ((x, d) :: l)
  stop : ∀ i H l, items.length ≤ i → (∃ F', Sub F F' ∧ Stt K ca H F' l) → J.stop i H
def tIt (K : PySem.W.Frag) (ca : Ca) (W : WX) (m : M (List D)) : TI := fun σ H R =>
  ∃ (e t : List (V × D)) (F : Hp), Agree ca σ e ∧ Stt K ca H F (e ++ t) ∧ PostG K ca W σ t F (m (e.map Prod.snd)) (fun items e' H' F' => ∀ J, ItDen K ca J F' items → Stt K ca H' F' (e' ++ t) → R J H')

/-- soundness at a fuel -/
structure Snd (ca : Ca) (k n : Nat) : Prop where
  E : ∀ (X : Cx) (c : Cs) (W : WX) (e : Expr), CtxOk X ca k c → Takes X W → PE X e (tM X.K ca W (evE c n e))
  R : ∀ (X : Cx) (c : Cs) (W : WX) (e : Expr), CtxOk X ca k c → Takes X W → PE X e (tMR X.K ca W (evR c n e))
  O : ∀ (X : Cx) (c : Cs) (W : WX) (e : Expr), CtxOk X ca k c → Takes X W → PE X e (tMR X.K ca W (evO c n e))
  T : ∀ (X : Cx) (c : Cs) (W : WX) (e : Expr), CtxOk X ca k c → Takes X W → PT X e (tMB X.K ca W (evT c n e))
  And : ∀ (X : Cx) (c : Cs) (W : WX) (es : List Expr) (pos : Pos), CtxOk X ca k c → Takes X W → PE X (.BoolOp .And es pos) (tM X.K ca W (evAnd c n es))
  Or : ∀ (X : Cx) (c : Cs) (W : WX) (es : List Expr) (pos : Pos), CtxOk X ca k c → Takes X W → PE X (.BoolOp .Or es pos) (tM X.K ca W (evOr c n es))
  AndT : ∀ (X : Cx) (c : Cs) (W : WX) (es : List Expr) (pos : Pos), CtxOk X ca k c → Takes X W → PW X (.BoolOp .And es pos) (tMB X.K ca W (evAndT c n es))
  OrT : ∀ (X : Cx) (c : Cs) (W : WX) (es : List Expr) (pos : Pos), CtxOk X ca k c → Takes X W → PW X (.BoolOp .Or es pos) (tMB X.K ca W (evOrT c n es))
  P : ∀ (X : Cx) (c : Cs) (W : WX) (o : Option Expr), CtxOk X ca k c → Takes X W → PO X o (tPt X.K ca W (evPart c n o))
  A : ∀ (X : Cx) (c : Cs) (W : WX) (e : Expr), CtxOk X ca k c → Takes X W → PE X e (tAr X.K ca W (evA c n e))
  I : ∀ (X : Cx) (c : Cs) (W : WX) (tg e : Expr), CtxOk X ca k c → Takes X W → PI X tg e (tIt X.K ca W (evI c n (isTupE tg) e))

section
variable {X : Cx} {ca : Ca} {W : WX} {k n : Nat} {c : Cs}
theorem tG_none {α : Type} {e : Expr} {m : M α} {P : (V → Hp → Prop) → List (V × D) → α → List (V × D) → Hp → Hp → Prop} (h : ∀ η, m η = none) : PE X e (tG X.K ca W m P) :=
  ⟨fun pins s σ H Q I ⟨_, _, _, _, _, z⟩ => by rw [h] at z; exact False.elim z⟩
theorem frz_pe {e : Expr} {m : M D} (h : PE X e (tM X.K ca W m)) : PE X e (tG X.K ca W (mFrz m) (pS X.K ca)) := by
  refine PE.weak h fun σ H Q ⟨e1, t, F, ag, st, q⟩ => ⟨e1, t, F, ag, st, ?_⟩
  unfold mFrz at q
  cases hm : m (e1.map Prod.snd) with
  | none => rw [hm] at q; exact q
  | some r =>
    rw [hm] at q
    cases r with
    | exc x fs η => exact q
    | ok d η =>
      intro e' H' F' he ag' sb v st'
      obtain ⟨F2, s2, st2⟩ := Stt.freeze (l1 := [(v, d)]) st'
      exact q e' H' F2 he ag' (sb.trans s2) v (frz_still d) st2
theorem s_to_v {e : Expr} {m : M D} (h : PE X e (tG X.K ca W m (pS X.K ca))) (hs : ∀ η d η', m η = some (.ok d η') → d.still = true) : PE X e (tM X.K ca W m) := by
  refine PE.weak h fun σ H Q ⟨e1, t, F, ag, st, q⟩ => ⟨e1, t, F, ag, st, ?_⟩
  exact q.imp (fun _ _ _ z => z) fun a e' H' F' _ _ hp v _ st' => hp v st'
/-! ### names, constants, displays -/
theorem snd_const {kc : Const} {j : Nat} {pos : Pos} : PE X (.Constant kc j pos) (tM X.K ca W (mOpt (constD kc))) := by
  refine ⟨fun pins s σ H Q I ⟨e, t, F, ag, st, h⟩ => ?_⟩
  obtain ⟨d, hd, q⟩ := PostG.opt h
  obtain ⟨w, h1, h2⟩ := const_of (X := X) (j := j) (pos := pos) hd
  exact h2.run pins s σ H Q I (q e H F rfl ag (Sub.refl F) w (st.add (den_atom h1)))
theorem snd_name (C : CtxOk X ca k c) {x : Str} {pos : Pos} : PE X (.Name x pos) (tM X.K ca W (evE c (n + 1) (.Name x pos))) := by
  refine ⟨fun pins s σ H Q I ⟨e, t, F, ag, st, h⟩ => ?_⟩
  cases hi : c.slot x with
  | some i =>
    simp only [evE, hi] at h
    cases hd : (e.map Prod.snd)[i]? with
    | none => simp only [hd] at h; exact False.elim h
    | some d =>
      simp only [hd] at h
      by_cases hb : d.bound = true
      · rw [if_pos hb] at h
        obtain ⟨v, hv⟩ := map_get hd
        obtain ⟨F', sb, st', _⟩ := slot_frz st hv
        refine (pe_slot C hi).run pins s σ H Q I ⟨v, ag.get hv hb, ?_⟩
        refine h (e.set i (v, d.frz)) H F' (by rw [map_set]) (ag.set hv (by rw [frz_bound]; exact id)) sb v ?_
        have hm : (v, d.frz) ∈ e.set i (v, d.frz) ++ t := List.mem_append_left t (List.mem_iff_getElem?.mpr ⟨i, List.getElem?_set_self (List.getElem?_eq_some_iff.mp hv).1⟩)
        obtain ⟨B, hB⟩ := stt_mem st' hm
        have e0 : B = [] := hB.still (by simp [D.stillL, frz_still])
        subst e0
        exact st'.add hB
      · rw [if_neg hb] at h; exact False.elim h
  | none =>
    by_cases hg : c.glob x = true
    · simp only [evE, hi, if_pos hg] at h
      cases hv : c.g x with
      | none => simp only [hv] at h; exact False.elim h
      | some g =>
        cases g with
        | fn _ => simp only [hv] at h; exact False.elim h
        | cls _ => simp only [hv] at h; exact False.elim h
        | val d =>
          simp only [hv] at h
          obtain ⟨g1, g2, g3⟩ := glob_of C hg
          obtain ⟨hs, v, u, m1, m2, m3⟩ := C.gval _ _ hv
          exact (pe_glob g1 m1 m2 g2).run pins s σ H Q I (h e H F rfl ag (Sub.refl F) v (st.add (m3 H F)))
    · simp only [evE, hi, if_neg hg] at h
      exact False.elim h
theorem snd_seq {f : Expr → M D} (hf : ∀ e, PE X e (tM X.K ca W (f e))) : ∀ {es : List Expr}, es.any isStar = false → PA X es (tG X.K ca W (seqM f es) (pVs X.K ca))
  | [], _ => PA.weak pa_nil fun σ H Q ⟨e, t, F, ag, st, h⟩ => h e H F rfl ag (Sub.refl F) [] rfl st
  | a :: r, hs => by
    simp only [List.any_cons, Bool.or_eq_false_iff] at hs
    refine PA.weak (pa_cons (hf a) (snd_seq hf hs.2) (star_of hs.1)) fun σ H Q ⟨e, t, F, ag, st, h⟩ => ?_
    refine ⟨e, t, F, ag, st, (PostG.bind h).imp (fun _ _ _ z => z) fun x e1 H1 F1 sb1 ag1 hx v st1 => ?_⟩
    refine ⟨e1, (v, x) :: t, F1, ag1, stt_mid st1, (PostG.bind hx).imp (fun _ _ _ => stt_drop) fun ys e2 H2 F2 sb2 ag2 hy ps hps st2 => ?_⟩
    refine hy e2 H2 F2 rfl ag2 (Sub.refl F2) ((v, x) :: ps) (by rw [List.map_cons, hps]) ?_
    refine st2.perm ?_
    rw [← List.append_assoc]
    refine List.perm_middle.trans ?_
    rw [List.append_assoc]
    exact List.Perm.refl _
theorem gives_tree {K : PySem.W.Frag} {H F : Hp} {p : Addr} {o : HO} {kd : Kd} {ps l : List (V × D)} (st : Stt K ca H F (ps ++ l)) (hp : H p = none) (hn : NdO ca (upd H p o) p kd (ps.map Prod.fst)) : Stt K ca (upd H p o) F ((.ref p, .node kd true (ps.map Prod.snd)) :: l) := st.alloc hp hn
theorem snd_tup (S : Snd ca k n) (C : CtxOk X ca k c) (tk : Takes X W) {es : List Expr} {j : Nat} {pos : Pos} : PE X (.Tuple es j pos) (tM X.K ca W (evE c (n + 1) (.Tuple es j pos))) := by
  refine ⟨fun pins s σ H Q I ⟨e, t, F, ag, st, h⟩ => ?_⟩
  unfold evE at h
  simp only at h
  split at h
  · exact False.elim h
  · rename_i hs
    refine (pe_tup (snd_seq (fun e => S.E X c W e C tk) (by simpa using hs))).run pins s σ H Q I ⟨e, t, F, ag, st, (PostG.bind h).imp (fun _ _ _ z => z) fun ds e1 H1 F1 sb1 ag1 hd ps hps st1 => ?_⟩
    split at hd
    · rename_i hl
      refine ⟨by rw [List.length_map, ← List.length_map (f := Prod.snd), hps]; exact hl, fun p hp => ?_⟩
      have := gives_tree (o := .tup (ps.map Prod.fst)) (kd := .tup) st1 hp upd_same
      rw [hps] at this
      exact hd e1 _ F1 rfl ag1 (Sub.refl F1) _ this
    · exact False.elim hd
theorem snd_list (S : Snd ca k n) (C : CtxOk X ca k c) (tk : Takes X W) {es : List Expr} {pos : Pos} : PE X (.List es pos) (tM X.K ca W (evE c (n + 1) (.List es pos))) := by
  refine ⟨fun pins s σ H Q I ⟨e, t, F, ag, st, h⟩ => ?_⟩
  unfold evE at h
  simp only at h
  split at h
  · exact False.elim h
  · rename_i hs
    refine (pe_lst (snd_seq (fun e => S.E X c W e C tk) (by simpa using hs))).run pins s σ H Q I ⟨e, t, F, ag, st, (PostG.bind h).imp (fun _ _ _ z => z) fun ds e1 H1 F1 sb1 ag1 hd ps hps st1 => ?_⟩
    split at hd
    · rename_i hl
      refine ⟨by rw [List.length_map, ← List.length_map (f := Prod.snd), hps]; exact hl, fun p hp => ?_⟩
      have := gives_tree (o := .lst (ps.map Prod.fst)) (kd := .lst) st1 hp upd_same
      rw [hps] at this
      exact hd e1 _ F1 rfl ag1 (Sub.refl F1) _ this
    · exact False.elim hd
end
end Z

set_option Elab.async false
set_option linter.all false
set_option maxRecDepth 100000
set_option maxHeartbeats 4000000
namespace Z
open PySem PySem.Spec PyProof.Rows L2
section
variable {X : Cx} {ca : Ca} {W : WX} {k n : Nat} {c : Cs}
theorem snd_bin (S : Snd ca k n) (C : CtxOk X ca k c) (tk : Takes X W) {a b : Expr} {op : Operator} {pos : Pos} : PE X (.BinOp a op b pos) (tM X.K ca W (evE c (n + 1) (.BinOp a op b pos))) := by
  refine PE.weak (pe_op (op_bin (ca := ca) op) (frz_pe (S.E X c W a C tk)) (frz_pe (S.E X c W b C tk))) fun σ H Q ⟨e, t, F, ag, st, h⟩ => ?_
  refine ⟨e, t, F, ag, st, (PostG.bind h).imp (fun _ _ _ z => z) fun x e1 H1 F1 sb1 ag1 hx v sx st1 => ?_⟩
  refine ⟨e1, (v, x) :: t, F1, ag1, stt_mid st1, (PostG.bind hx).imp (fun _ _ _ => stt_drop) fun y e2 H2 F2 sb2 ag2 hy w sy st2 => ?_⟩
  obtain ⟨d, hd, q⟩ := PostG.opt hy
  refine ⟨F2, x, y, d, st2.sub, den_one (stt_up (e := (w, y) :: e2) st2) sx, den_one st2 sy, hd, fun u H3 g => ?_⟩
  exact q e2 H3 F2 rfl ag2 (Sub.refl F2) u (g _ (stt_drop (e := e2) st2.tail))
theorem snd_neg (S : Snd ca k n) (C : CtxOk X ca k c) (tk : Takes X W) {a : Expr} {pos : Pos} : PE X (.UnaryOp .USub a pos) (tM X.K ca W (evE c (n + 1) (.UnaryOp .USub a pos))) := by
  refine PE.weak (pe_un un_neg (S.E X c W a C tk)) fun σ H Q ⟨e, t, F, ag, st, h⟩ => ?_
  refine ⟨e, t, F, ag, st, (PostG.bind h).imp (fun _ _ _ z => z) fun x e1 H1 F1 sb1 ag1 hx v st1 => ?_⟩
  cases x with
  | int i =>
    obtain ⟨B, hB⟩ := st1.den
    cases den_int hB
    exact ⟨i, rfl, hx e1 H1 F1 rfl ag1 (Sub.refl F1) _ (st1.tail.add (.int .nil))⟩
  | _ => exact False.elim hx
theorem snd_not (S : Snd ca k n) (C : CtxOk X ca k c) (tk : Takes X W) {a : Expr} {pos : Pos} : PE X (.UnaryOp .Not a pos) (tM X.K ca W (evE c (n + 1) (.UnaryOp .Not a pos))) := by
  refine PE.weak (pe_notT (S.R X c W a C tk)) fun σ H Q ⟨e, t, F, ag, st, h⟩ => ?_
  refine ⟨e, t, F, ag, st, (PostG.bind h).imp (fun _ _ _ z => z) fun x e1 H1 F1 sb1 ag1 hx v B st1 hB => ?_⟩
  obtain ⟨d, hd, q⟩ := PostG.opt hx
  rw [Option.map_eq_some_iff] at hd
  obtain ⟨b, hb, rfl⟩ := hd
  exact ⟨b, tru_of hB st1.sub hb, q e1 H1 F1 rfl ag1 (Sub.refl F1) _ (st1.add (.bl .nil))⟩
theorem snd_if (S : Snd ca k n) (C : CtxOk X ca k c) (tk : Takes X W) {t₀ a b : Expr} {pos : Pos} : PE X (.IfExp t₀ a b pos) (tM X.K ca W (evE c (n + 1) (.IfExp t₀ a b pos))) := by
  refine PE.weak (pe_ifExp (S.T X c W t₀ C tk) (S.E X c W a C tk) (S.E X c W b C tk)) fun σ H Q ⟨e, t, F, ag, st, h⟩ => ?_
  refine ⟨e, t, F, ag, st, (PostG.bind h).imp (fun _ _ _ z => z) fun x e1 H1 F1 sb1 ag1 hx st1 => ?_⟩
  cases x with
  | true => exact ⟨e1, t, F1, ag1, st1, hx⟩
  | false => exact ⟨e1, t, F1, ag1, st1, hx⟩
theorem mark_of {op : CmpOp} {b : Expr} (h : isSetE b = false) : behindInMarks op b = false := by
  cases b <;> first | rfl | (simp [isSetE] at h)
theorem mark2_of {op op2 : CmpOp} {b b2 : Expr} (h1 : op2 ≠ .In) (h2 : op2 ≠ .NotIn) : lastMarks [op, op2] [b, b2] = false := by
  have : lastMarks [op, op2] [b, b2] = behindInMarks op2 b2 := by with_unfolding_all rfl
  rw [this]
  exact nobehind _ h1 h2
/-- a value is also read -/
theorem v_to_r {e : Expr} {m : M D} (h : PE X e (tM X.K ca W m)) : PE X e (tMR X.K ca W m) :=
  PE.weak h fun σ H Q ⟨e, t, F, ag, st, q⟩ => ⟨e, t, F, ag, st, q.imp (fun _ _ _ z => z) fun x e1 H1 F1 _ _ hp v st1 => by
    obtain ⟨B, hB⟩ := st1.den
    exact hp v B st1.tail hB⟩
theorem ro_ev {b : Expr} (hb : isRo b = true) {η : List D} {r : R D} (h : evR c n b η = some r) : ∃ y, r = .ok y η := by
  cases n with
  | zero => cases h
  | succ m =>
    cases m with
    | zero => simp only [evR, evP, evE] at h; cases h
    | succ m =>
      cases b with
      | Constant kc j pos =>
        simp only [evR, evP, evE, mOpt] at h
        rw [Option.map_eq_some_iff] at h
        obtain ⟨d, _, rfl⟩ := h
        exact ⟨d, rfl⟩
      | Name x pos =>
        cases hi : c.slot x with
        | none =>
          by_cases hg : c.glob x = true
          · cases hv : c.g x with
            | none => simp only [evR, evP, hi, evE, if_pos hg, hv] at h; cases h
            | some g =>
              cases g with
              | val d => simp only [evR, evP, hi, evE, if_pos hg, hv] at h; cases h; exact ⟨_, rfl⟩
              | fn _ => simp only [evR, evP, hi, evE, if_pos hg, hv] at h; cases h
              | cls _ => simp only [evR, evP, hi, evE, if_pos hg, hv] at h; cases h
          · simp only [evR, evP, hi, evE, if_neg hg] at h; cases h
        | some i =>
          cases hd : η[i]? with
          | none => simp only [evR, evP, hi, hd, evE] at h; cases h
          | some d =>
            by_cases hbd : d.bound = true
            · simp only [evR, evP, hi, hd, if_pos hbd] at h; cases h; exact ⟨_, rfl⟩
            · simp only [evR, evP, hi, hd, if_neg hbd, evE] at h; cases h
      | _ => simp [isRo] at hb
theorem ro_pe (C : CtxOk X ca k c) {b : Expr} (hb : isRo b = true) : PE X b (fun σ H Q => ∃ (e t : List (V × D)) (F : Hp), Agree ca σ e ∧ Stt X.K ca H F (e ++ t) ∧ ∃ y, evR c n b (e.map Prod.snd) = some (.ok y (e.map Prod.snd)) ∧ ∀ w B, DenL X.K ca H F [(w, y)] B → Q w H) := by
  refine ⟨fun pins s σ H Q I ⟨e, t, F, ag, st, y, h, q⟩ => ?_⟩
  cases n with
  | zero => cases h
  | succ m =>
    cases m with
    | zero => simp only [evR, evP, evE] at h; cases h
    | succ m =>
      cases b with
      | Constant kc j pos =>
        simp only [evR, evP, evE, mOpt] at h
        rw [Option.map_eq_some_iff] at h
        obtain ⟨d, hd, e1⟩ := h
        cases e1
        obtain ⟨w, h1, h2⟩ := const_of (X := X) (j := j) (pos := pos) hd
        exact h2.run pins s σ H Q I (q w [] (den_atom h1))
      | Name x pos =>
        cases hi : c.slot x with
        | none =>
          by_cases hg : c.glob x = true
          · cases hv : c.g x with
            | none => simp only [evR, evP, hi, evE, if_pos hg, hv] at h; cases h
            | some g =>
              cases g with
              | val d =>
                simp only [evR, evP, hi, evE, if_pos hg, hv] at h
                cases h
                obtain ⟨g1, g2, g3⟩ := glob_of C hg
                obtain ⟨hs, v, u, m1, m2, m3⟩ := C.gval _ _ hv
                exact (pe_glob g1 m1 m2 g2).run pins s σ H Q I (q v [] (m3 H F))
              | fn _ => simp only [evR, evP, hi, evE, if_pos hg, hv] at h; cases h
              | cls _ => simp only [evR, evP, hi, evE, if_pos hg, hv] at h; cases h
          · simp only [evR, evP, hi, evE, if_neg hg] at h; cases h
        | some i =>
          cases hd : (e.map Prod.snd)[i]? with
          | none => simp only [evR, evP, hi, hd, evE] at h; cases h
          | some d =>
            by_cases hbd : d.bound = true
            · simp only [evR, evP, hi, hd, if_pos hbd] at h
              cases h
              obtain ⟨v, hv⟩ := map_get hd
              obtain ⟨B, hB⟩ := stt_mem st (List.mem_append_left t (List.mem_of_getElem? hv))
              exact (pe_slot C hi).run pins s σ H Q I ⟨v, ag.get hv hbd, q v B hB⟩
            · simp only [evR, evP, hi, hd, if_neg hbd, evE] at h; cases h
      | _ => simp [isRo] at hb
/-- the callee runs -/
theorem run_G {pins : List (Addr × Obj)} {s : Shared} {Q : VK} {kk : Nat} {fa : Addr} {fd : FuncData} {ps ks : List Str} {sp : Sp} {us kvs zs : List Value} {vs : List V} (Fk : FnOk X.prog X.w X.K X.mg X.base (L2.CX X.prog X.w) kk fa fd ps sp) (hr : Room kk X.A) (tk : Takes X W) (I : Inv X pins σ H s)
    (hb : BindsTo s fd ⟨us, ks.zip kvs⟩ (ps.zip zs)) (r : Vals vs zs) (h : sp vs H Q (fun cls d H' => W cls d σ H')) : wpAny (model X.prog X.w) X.A (call (.ref fa) us (ks.zip kvs)) (EP X pins σ Q) X.xe s := by
  refine wpAny_call (codeAny_mono (Fk.run X.A X.stack s H _ zs vs Q _ hr I.env0 hb r h) fun r s' hq => ?_)
  cases r with
  | error e => exact passAt tk σ pins H s e s' I hq
  | ok fl => cases fl with
    | ret u => exact I.after hq
    | next => exact False.elim hq
    | brk => exact False.elim hq
    | cont => exact False.elim hq
/-- x == y by the own class's == -/
def rOwn (K : PySem.W.Frag) (ca : Ca) (c : Cs) (op : CmpOp) : R2 := fun x y H Q => ∃ (F : Hp) (dx dy : D) (l : List (V × D)) (r : Bool), Stt K ca H F ((x, dx) :: (y, dy) :: l) ∧ c.ownEq op dx dy = some r ∧ ∀ H' F', Sub F F' → Stt K ca H' F' l → Q (.bl r) H'
theorem own_parts {op : CmpOp} {x y : D} {r : Bool} (h : c.ownEq op x y = some r) : ∃ k fs o xs fs2 o2 ys fn sh ds, op = .Eq ∧ x = .node (.obj k fs) o xs ∧ y = .node (.obj k fs2) o2 ys ∧ x.still = true ∧ y.still = true ∧ c.cur = none ∧ c.methOf k ("__eq__" : Str) fs = some fn ∧ findShape 2 [] fn.shapes = some sh ∧ sh.arr = [.inl 0, .inl 1] ∧ fn.run [x, y] = some (.ret (.bl r) ds) := by
  unfold Cs.ownEq at h
  split at h
  · rename_i k fs o xs k2 fs2 o2 ys
    split at h
    · rename_i hc
      obtain ⟨rfl, h1, h2, h3⟩ := hc
      split at h
      · rename_i fn hfn
        split at h
        · rename_i sh hsh
          split at h
          · rename_i ha hr
            cases h
            exact ⟨_, _, _, _, _, _, _, _, _, _, rfl, rfl, rfl, h1, h2, Option.isNone_iff_eq_none.mp h3, hfn, hsh, ha, hr⟩
          · cases h
        · cases h
      · cases h
    · cases h
  · cases h
theorem findShape_ok {ks : List Str} {m : Nat} : ∀ {l : List Shape} {sh : Shape}, findShape m ks l = some sh → sh ∈ l ∧ sh.n = m ∧ sh.ks = ks
  | [], _, h => by cases h
  | s :: r, sh, h => by
    unfold findShape at h
    split at h
    · rename_i hc
      cases h
      exact ⟨List.mem_cons_self, hc⟩
    · obtain ⟨h1, h2⟩ := findShape_ok h
      exact ⟨List.mem_cons_of_mem _ h1, h2⟩
theorem own_cls {x m : Str} {fs : List Str} {fn : Fn} (h : c.methOf x m fs = some fn) : ∃ cl, c.g x = some (.cls cl) ∧ cl.exc = none ∧ cl.meths.lookup m = some fn ∧ fs.contains m = false := by
  unfold Cs.methOf at h
  split at h
  · rename_i cl hg
    split at h
    · cases h
    · rename_i hn
      simp only [Bool.or_eq_true, not_or, Bool.not_eq_true, Option.isSome_eq_false_iff, Option.isNone_iff_eq_none] at hn
      exact ⟨cl, hg, hn.2, h, hn.1⟩
  · cases h
theorem op_own (C : CtxOk X ca k c) (op : CmpOp) : OpR X (compareOp op) (rOwn X.K ca c op) := by
  intro pins s σ H x y v u Q I rx ry ⟨F, dx, dy, l, r, st, h, q⟩
  obtain ⟨kx, fs, o, xs, fs2, o2, ys, fn, sh, ds, rfl, rfl, rfl, h1, h2, hcur, hm, hsh, ha, hr⟩ := own_parts h
  obtain ⟨cl, g1, g2, g3, g4⟩ := own_cls hm
  obtain ⟨fa, M, FF⟩ := C.gmeth hcur kx cl _ fn g1 g2 g3
  obtain ⟨fd, ps, lps, Fk, hshape⟩ := FF.ok
  obtain ⟨s1, s2, s3⟩ := findShape_ok hsh
  have hS := hshape sh s1
  have dX := den_one st h1
  have dY := den_one st.tail h2
  have Hx : ∃ a d fs', x = .ref a ∧ H a = some (.ins (ca.at_ kx) d fs') := by
    cases dX with
    | frz hn hx hc hl => obtain ⟨_, d, e⟩ := hn; exact ⟨_, _, _, rfl, st.sub _ _ e⟩
  have Hy : ∃ a d fs', y = .ref a ∧ H a = some (.ins (ca.at_ kx) d fs') := by
    cases dY with
    | frz hn hx hc hl => obtain ⟨_, d, e⟩ := hn; exact ⟨_, _, _, rfl, st.sub _ _ e⟩
  obtain ⟨a, da, fa1, rfl, ea⟩ := Hx
  obtain ⟨b, db, fb1, rfl, eb⟩ := Hy
  cases rx
  cases ry
  obtain ⟨mA, J, _⟩ := ins_get I.hok ea
  obtain ⟨mB, J', _⟩ := ins_get I.hok eb
  obtain ⟨od, J, _⟩ := J.look
  obtain ⟨od', J', _⟩ := J'.look
  obtain ⟨m, hF⟩ := I.fr
  show wpAny (model X.prog X.w) X.A (richCompare .Eq (.ref a) (.ref b)) (EP X pins σ Q) X.xe s
  have hu : X.A.units < cLine := by have := C.units; omega
  refine PySem.W.cmp_K (op := .Eq) (tb := .ref (ca.at_ kx)) hu hF I.ok.mod.kin J J'.type (by simp [PySem.W.notFirst]) M.at_ M.fn ?_
  obtain ⟨zs, za, zl, hb⟩ := hS.to s [.ref a, .ref b] [] I.kIn (by rw [s2]; rfl) (by rw [s3]; rfl)
  rw [ha] at za
  obtain ⟨z0, q0, e0, e1, za⟩ := za
  obtain ⟨z1, q1, e2, e3, za⟩ := za
  have za : q1 = [] := za
  subst za; subst e2; subst e0
  simp at e1 e3
  subst e1; subst e3
  have tk0 : Takes X (fun _ _ _ _ => False) := fun u s' ⟨a, B, sI, pins, σ, H', cls, d, e, I, nb, up, sky, na, os, ag, w⟩ => False.elim w
  rw [s3] at hb
  have res := run_G (Q := fun w H' => w = .bl r ∧ Q w H') (ks := []) (us := [Value.ref a, Value.ref b]) (kvs := []) (vs := [V.ref a, V.ref b]) Fk (C.room hcur) tk0 I hb (.cons rfl (.cons rfl .nil)) ?_
  · refine thn res fun w s' ⟨v, H', I', rv, ev, qv⟩ => ?_
    subst ev
    cases w <;> first | exact ⟨_, H', I', rv, qv⟩ | cases rv
  · have l2 : 2 = fn.np := (show 2 = ps.length by simpa using zl).trans lps
    refine ⟨l2, [D.node (.obj kx fs) o xs, D.node (.obj kx fs2) o2 ys], l, F, l2, ?_, ?_⟩
    · exact st
    · rw [hr]
      intro v H' F' sb st'
      obtain ⟨B, hB⟩ := st'.den
      have e := den_bl hB
      subst e
      exact ⟨rfl, q H' F' sb (Stt.right (l1 := _ :: List.zip _ ds) st')⟩
def rCmpX (K : PySem.W.Frag) (ca : Ca) (c : Cs) (op : CmpOp) : R2 := fun x y H Q => rCmp K ca op x y H Q ∨ rOwn K ca c op x y H Q
theorem op_cmpX (C : CtxOk X ca k c) (op : CmpOp) : OpR X (compareOp op) (rCmpX X.K ca c op) := by
  intro pins s σ H x y v u Q I rx ry h
  rcases h with h | h
  · exact op_cmp (ca := ca) C.units op pins s σ H x y v u Q I rx ry h
  · exact op_own C op pins s σ H x y v u Q I rx ry h
theorem own_still {op : CmpOp} {x y : D} {r : Bool} (h : c.ownEq op x y = some r) : x.still = true ∧ y.still = true := by
  obtain ⟨kx, fs, o, xs, fs2, o2, ys, fn, sh, ds, _, _, _, h1, h2, _⟩ := own_parts h
  exact ⟨h1, h2⟩
theorem cmp_ro (S : Snd ca k n) (C : CtxOk X ca k c) (tk : Takes X W) {a b : Expr} {op : CmpOp} {pos : Pos} (hse : isSetE b = false) (hro : isRo b = true) {σ : L2.St} {H : Hp} {Q : VK} (h : tM X.K ca W (evE c (n + 1) (.Compare a [op] [b] pos)) σ H Q) :
    tOp (rCmpX X.K ca c op) (tMR X.K ca W (evR c n a)) (fun σ H Q => ∃ (e t : List (V × D)) (F : Hp), Agree ca σ e ∧ Stt X.K ca H F (e ++ t) ∧ ∃ y, evR c n b (e.map Prod.snd) = some (.ok y (e.map Prod.snd)) ∧ ∀ w B, DenL X.K ca H F [(w, y)] B → Q w H) σ H Q := by
  obtain ⟨e, t, F, ag, st, h⟩ := h
  simp only [evE, hse, if_pos hro] at h
  refine ⟨e, t, F, ag, st, (PostG.bind h).imp (fun _ _ _ z => z) fun x e1 H1 F1 sb1 ag1 hx v B st1 hB => ?_⟩
  have hy := PostG.bind hx
  cases hr : evR c n b (e1.map Prod.snd) with
  | none => rw [hr] at hy; exact False.elim hy
  | some r =>
    obtain ⟨y, rfl⟩ := ro_ev hro hr
    rw [hr] at hy
    refine ⟨e1, t, F1, ag1, st1, y, hr, fun w B' hB' => ?_⟩
    obtain ⟨d, hd, q⟩ := PostG.opt (hy e1 H1 F1 rfl ag1 (Sub.refl F1))
    rw [Option.map_eq_some_iff] at hd
    obtain ⟨b, hb, rfl⟩ := hd
    unfold Cs.cmpX at hb
    cases ho : c.ownEq op x y with
    | none => rw [ho] at hb; exact .inl ⟨F1, x, y, B, B', b, st1.sub, hB, hB', hb, q e1 H1 F1 rfl ag1 (Sub.refl F1) _ (st1.add (.bl .nil))⟩
    | some r =>
      rw [ho] at hb
      cases hb
      obtain ⟨sx, sy⟩ := own_still ho
      have eB : B = [] := hB.still (by simp [D.stillL, sx])
      have eB' : B' = [] := hB'.still (by simp [D.stillL, sy])
      subst eB; subst eB'
      exact .inr ⟨F1, x, y, e1 ++ t, b, Stt.add (l1 := [(v, x)]) (st1.add hB') hB, ho, fun H' F' sb st' => q e1 H' F' rfl ag1 sb _ (st'.add (.bl .nil))⟩
theorem cmp_no (S : Snd ca k n) (C : CtxOk X ca k c) (tk : Takes X W) {a b : Expr} {op : CmpOp} {pos : Pos} (hse : isSetE b = false) (hro : ¬ isRo b = true) {σ : L2.St} {H : Hp} {Q : VK} (h : tM X.K ca W (evE c (n + 1) (.Compare a [op] [b] pos)) σ H Q) :
    tOp (rCmpX X.K ca c op) (tG X.K ca W (mFrz (evE c n a)) (pS X.K ca)) (tMR X.K ca W (evR c n b)) σ H Q := by
  obtain ⟨e, t, F, ag, st, h⟩ := h
  simp only [evE, hse, if_neg hro] at h
  refine ⟨e, t, F, ag, st, (PostG.bind h).imp (fun _ _ _ z => z) fun x e1 H1 F1 sb1 ag1 hx v sx st1 => ?_⟩
  refine ⟨e1, (v, x) :: t, F1, ag1, stt_mid st1, (PostG.bind hx).imp (fun _ _ _ => stt_drop) fun y e2 H2 F2 sb2 ag2 hy w B st2 hB => ?_⟩
  obtain ⟨d, hd, q⟩ := PostG.opt hy
  rw [Option.map_eq_some_iff] at hd
  obtain ⟨b, hb, rfl⟩ := hd
  unfold Cs.cmpX at hb
  cases ho : c.ownEq op x y with
  | none => rw [ho] at hb; exact .inl ⟨F2, x, y, [], B, b, st2.sub, den_one (stt_up st2) sx, hB, hb, q e2 H2 F2 rfl ag2 (Sub.refl F2) _ ((stt_drop st2).add (.bl .nil))⟩
  | some r =>
    rw [ho] at hb
    cases hb
    obtain ⟨sx', sy⟩ := own_still ho
    have eB : B = [] := hB.still (by simp [D.stillL, sy])
    subst eB
    exact .inr ⟨F2, x, y, e2 ++ t, b, Stt.add (l1 := [(v, x)]) (Stt.add (l1 := [(w, y)]) (stt_drop st2) hB) (den_one (stt_up st2) sx), ho, fun H' F' sb st' => q e2 H' F' rfl ag2 sb _ (st'.add (.bl .nil))⟩
theorem snd_cmp (S : Snd ca k n) (C : CtxOk X ca k c) (tk : Takes X W) {a b : Expr} {op : CmpOp} {pos : Pos} : PE X (.Compare a [op] [b] pos) (tM X.K ca W (evE c (n + 1) (.Compare a [op] [b] pos))) := by
  by_cases hse : isSetE b = true
  · refine tG_none fun η => ?_
    simp only [evE, hse]
    rfl
  have hse : isSetE b = false := by simpa using hse
  by_cases hro : isRo b = true
  · exact PE.weak (pe_cmpR (op_cmpX C op) (S.R X c W a C tk) (ro_pe (n := n) C hro) (mark_of hse)) fun σ H Q h => cmp_ro S C tk hse hro h
  · exact PE.weak (pe_cmpR (op_cmpX C op) (frz_pe (S.E X c W a C tk)) (S.R X c W b C tk) (mark_of hse)) fun σ H Q h => cmp_no S C tk hse hro h
theorem bl_truth {m : M D} {Q : Bool → Hp → Prop} {σ : L2.St} {H : Hp} (h : tMB X.K ca W (mBind m fun x => mOpt (truthD x)) σ H Q) (hb : ∀ η d η', m η = some (.ok d η') → ∃ b, d = .bl b) : tM X.K ca W m σ H (fun v H' => ∃ b, v = .bl b ∧ Q b H') := by
  obtain ⟨e, t, F, ag, st, h⟩ := h
  refine ⟨e, t, F, ag, st, ?_⟩
  have h := PostG.bind h
  cases hm : m (e.map Prod.snd) with
  | none => rw [hm] at h; exact h
  | some r =>
    rw [hm] at h
    cases r with
    | exc x fs η => exact h
    | ok d η =>
      obtain ⟨b, rfl⟩ := hb _ _ _ hm
      intro e' H' F' he ag' sb v st'
      obtain ⟨B, hB⟩ := st'.den
      cases den_bl hB
      exact ⟨b, rfl, h e' H' F' he ag' sb e' H' F' rfl ag' (Sub.refl F') st'.tail⟩
theorem bind_ok {α β : Type} {m : M α} {f : α → M β} {η η' : List D} {b : β} (h : mBind m f η = some (.ok b η')) : ∃ a η1, m η = some (.ok a η1) ∧ f a η1 = some (.ok b η') := by
  unfold mBind at h
  cases hm : m η with
  | none => rw [hm] at h; cases h
  | some r =>
    rw [hm] at h
    cases r with
    | exc _ _ _ => cases h
    | ok a η1 => exact ⟨a, η1, rfl, h⟩
theorem opt_ok {α : Type} {o : Option α} {η η' : List D} {a : α} (h : mOpt o η = some (.ok a η')) : o = some a ∧ η' = η := by
  unfold mOpt at h
  cases o with
  | none => cases h
  | some b => cases h; exact ⟨rfl, rfl⟩
theorem cmp_shape : ∀ (ops : List CmpOp) (bs : List Expr), (∃ op b, ops = [op] ∧ bs = [b]) ∨ (∃ op op2 b b2, ops = [op, op2] ∧ bs = [b, b2]) ∨ (∀ (c : Cs) (n : Nat) (a : Expr) (pos : Pos) (η : List D), evE c (n + 1) (.Compare a ops bs pos) η = none)
  | [op], [b] => .inl ⟨op, b, rfl, rfl⟩
  | [op, op2], [b, b2] => .inr (.inl ⟨op, op2, b, b2, rfl, rfl⟩)
  | [], [] => .inr (.inr fun _ _ _ _ _ => rfl)
  | [], _ :: _ => .inr (.inr fun _ _ _ _ _ => rfl)
  | [_], [] => .inr (.inr fun _ _ _ _ _ => rfl)
  | [_], _ :: _ :: _ => .inr (.inr fun _ _ _ _ _ => rfl)
  | [_, _], [] => .inr (.inr fun _ _ _ _ _ => rfl)
  | [_, _], [_] => .inr (.inr fun _ _ _ _ _ => rfl)
  | [_, _], _ :: _ :: _ :: _ => .inr (.inr fun _ _ _ _ _ => rfl)
  | _ :: _ :: _ :: _, [] => .inr (.inr fun _ _ _ _ _ => rfl)
  | _ :: _ :: _ :: _, [_] => .inr (.inr fun _ _ _ _ _ => rfl)
  | _ :: _ :: _ :: _, [_, _] => .inr (.inr fun _ _ _ _ _ => rfl)
  | _ :: _ :: _ :: _, _ :: _ :: _ :: _ => .inr (.inr fun _ _ _ _ _ => rfl)
theorem cmp_bl {a : Expr} {ops : List CmpOp} {bs : List Expr} {pos : Pos} {η η' : List D} {d : D} (h : evE c (n + 1) (.Compare a ops bs pos) η = some (.ok d η')) : ∃ b, d = .bl b := by
  rcases cmp_shape ops bs with ⟨op, b, rfl, rfl⟩ | ⟨op, op2, b, b2, rfl, rfl⟩ | hn
  · cases hse : isSetE b with
    | true => simp only [evE, hse] at h; cases h
    | false =>
      simp only [evE, hse, Bool.false_eq_true, if_false] at h
      obtain ⟨x, η1, _, h⟩ := bind_ok h
      obtain ⟨y, η2, _, h⟩ := bind_ok h
      obtain ⟨h, _⟩ := opt_ok h
      rw [Option.map_eq_some_iff] at h
      obtain ⟨r, _, rfl⟩ := h
      exact ⟨r, rfl⟩
  · cases ho : (op2 == CmpOp.In || op2 == CmpOp.NotIn) with
    | true => simp only [evE, ho] at h; cases h
    | false =>
      simp only [evE, ho, Bool.false_eq_true, if_false] at h
      obtain ⟨x, η1, _, h⟩ := bind_ok h
      obtain ⟨y, η2, _, h⟩ := bind_ok h
      obtain ⟨r, η3, _, h⟩ := bind_ok h
      cases r with
      | false =>
        simp only [Bool.false_eq_true, if_false] at h
        cases h; exact ⟨_, rfl⟩
      | true =>
        simp only [if_true] at h
        obtain ⟨z, η4, _, h⟩ := bind_ok h
        obtain ⟨h, _⟩ := opt_ok h
        rw [Option.map_eq_some_iff] at h
        obtain ⟨r, _, rfl⟩ := h
        exact ⟨r, rfl⟩
  · rw [hn] at h; cases h
theorem chain_imp (S : Snd ca k n) (C : CtxOk X ca k c) (tk : Takes X W) {a b b2 : Expr} {op op2 : CmpOp} {pos : Pos} (ho : (op2 == CmpOp.In || op2 == CmpOp.NotIn) = false) {σ : L2.St} {H : Hp} {Q : VK} (h : tM X.K ca W (evE c (n + 1) (.Compare a [op, op2] [b, b2] pos)) σ H Q) :
    tChain (rCmp X.K ca op) (rCmp X.K ca op2) (tG X.K ca W (mFrz (evE c n a)) (pS X.K ca)) (tG X.K ca W (mFrz (evE c n b)) (pS X.K ca)) (tMR X.K ca W (evR c n b2)) σ H Q := by
  obtain ⟨e, t, F, ag, st, h⟩ := h
  simp only [evE, ho] at h
  refine ⟨e, t, F, ag, st, (PostG.bind h).imp (fun _ _ _ z => z) fun x e1 H1 F1 sb1 ag1 hx v sx st1 => ?_⟩
  refine ⟨e1, (v, x) :: t, F1, ag1, stt_mid st1, (PostG.bind hx).imp (fun _ _ _ => stt_drop) fun y e2 H2 F2 sb2 ag2 hy w sy st2 => ?_⟩
  obtain ⟨kk, hk, q⟩ := PostG.opt (PostG.bind hy)
  refine ⟨F2, x, y, [], [], kk, st2.sub, den_one (stt_up (e := (w, y) :: e2) st2) sx, den_one st2 sy, hk, kk, rfl, ?_⟩
  have q := q e2 H2 F2 rfl ag2 (Sub.refl F2)
  have st3 := stt_drop (e := (w, y) :: e2) st2
  cases kk with
  | false => exact q e2 H2 F2 rfl ag2 (Sub.refl F2) _ (st3.tail.add (.bl .nil))
  | true =>
    refine ⟨e2, (w, y) :: t, F2, ag2, stt_mid st3, (PostG.bind q).imp (fun _ _ _ => stt_drop) fun z e3 H3 F3 sb3 ag3 hz u B st4 hB => ?_⟩
    obtain ⟨d, hd, q⟩ := PostG.opt hz
    rw [Option.map_eq_some_iff] at hd
    obtain ⟨b, hb, rfl⟩ := hd
    exact ⟨F3, y, z, [], B, b, st4.sub, den_one (stt_up st4) sy, hB, hb, q e3 H3 F3 rfl ag3 (Sub.refl F3) _ ((stt_drop st4).add (.bl .nil))⟩
theorem snd_chain (S : Snd ca k n) (C : CtxOk X ca k c) (tk : Takes X W) {a b b2 : Expr} {op op2 : CmpOp} {pos : Pos} : PE X (.Compare a [op, op2] [b, b2] pos) (tM X.K ca W (evE c (n + 1) (.Compare a [op, op2] [b, b2] pos))) := by
  by_cases ho : (op2 == .In || op2 == .NotIn) = true
  · refine tG_none fun η => ?_
    simp only [evE, ho]
    rfl
  · have h1 : op2 ≠ .In := fun z => ho (by rw [z]; rfl)
    have h2 : op2 ≠ .NotIn := fun z => ho (by rw [z]; rfl)
    exact PE.weak (pe_chain (op_cmp (ca := ca) C.units op) (op_cmp (ca := ca) C.units op2) (frz_pe (S.E X c W a C tk)) (frz_pe (S.E X c W b C tk)) (S.R X c W b2 C tk) (mark2_of h1 h2)) fun σ H Q h => chain_imp S C tk (by simpa using ho) h
theorem tgB_none {e : Expr} {m : M Bool} (h : ∀ η, m η = none) : PT X e (tMB X.K ca W m) := ⟨fun pins s σ H Q I ⟨_, _, _, _, _, z⟩ => by rw [h] at z; exact False.elim z⟩
/-- tests -/
theorem snd_T (S : Snd ca k n) (S' : ∀ m, n = m + 1 → Snd ca k m) (C : CtxOk X ca k c) (tk : Takes X W) {a : Expr} : PT X a (tMB X.K ca W (evT c (n + 1) a)) := by
  have gen : (∀ whole, PySem.isTrue a X.env whole = (do let v ← whole; standAt a.pos; holding [v] (truthy v))) → PT X a (tMB X.K ca W (mBind (evR c n a) fun x => mOpt (truthD x))) := fun he =>
    PT.weak (pt_truth (S.R X c W a C tk) he) fun σ H Q ⟨e, t, F, ag, st, h⟩ =>
      ⟨e, t, F, ag, st, (PostG.bind h).imp (fun _ _ _ z => z) fun x e1 H1 F1 sb1 ag1 hx v B st1 hB => by
        obtain ⟨b, hb, q⟩ := PostG.opt hx
        exact ⟨b, tru_of hB st1.sub hb, q e1 H1 F1 rfl ag1 (Sub.refl F1) st1⟩⟩
  cases a with
  | BoolOp op es pos => cases op with
    | And => exact (S.AndT X c W es pos C tk).pt
    | Or => exact (S.OrT X c W es pos C tk).pt
  | UnaryOp op b pos => cases op with
    | Not =>
      refine PT.weak (pt_not (S.T X c W b C tk)) fun σ H Q ⟨e, t, F, ag, st, h⟩ => ?_
      exact ⟨e, t, F, ag, st, (PostG.bind h).imp (fun _ _ _ z => z) fun x e1 H1 F1 sb1 ag1 hx st1 => hx e1 H1 F1 rfl ag1 (Sub.refl F1) st1⟩
    | _ => exact gen fun _ => rfl
  | IfExp t₀ a b pos =>
    refine ⟨fun pins s σ H Q I ⟨e, t, F, ag, st, h⟩ => ?_⟩
    show wpAny _ _ (do if ← PySem.isTrue t₀ X.env (eval t₀ X.env) then PySem.isTrue a X.env (eval a X.env) else PySem.isTrue b X.env (eval b X.env)) _ _ _
    refine wpAny_bind (thn ((S.T X c W t₀ C tk).run pins s σ H (fun kk H1 => (if kk = true then tMB X.K ca W (evT c n a) else tMB X.K ca W (evT c n b)) σ H1 Q) I ?_) fun kk s1 ⟨H1, I1, q⟩ => ?_)
    · refine ⟨e, t, F, ag, st, (PostG.bind h).imp (fun _ _ _ z => z) fun x e1 H1 F1 sb1 ag1 hx st1 => ?_⟩
      cases x with
      | true => exact ⟨e1, t, F1, ag1, st1, hx⟩
      | false => exact ⟨e1, t, F1, ag1, st1, hx⟩
    · cases kk with
      | true => exact (S.T X c W a C tk).run pins s1 σ H1 Q I1 q
      | false => exact (S.T X c W b C tk).run pins s1 σ H1 Q I1 q
  | Compare a ops bs pos =>
    cases n with
    | zero => exact tgB_none fun _ => rfl
    | succ m =>
      have Sm := S' m rfl
      have nn : (∀ η, evE c (m + 1) (.Compare a ops bs pos) η = none) → PT X (.Compare a ops bs pos) (tMB X.K ca W (evT c (m + 1 + 1) (.Compare a ops bs pos))) := fun z => tgB_none fun η => by
        show mBind (evE c (m + 1) (.Compare a ops bs pos)) _ η = none
        unfold mBind
        rw [z]
      rcases cmp_shape ops bs with ⟨op, b, rfl, rfl⟩ | ⟨op, op2, b, b2, rfl, rfl⟩ | hn
      · by_cases hse : isSetE b = true
        · exact nn fun _ => by simp only [evE, hse]; rfl
        have hse : isSetE b = false := by simpa using hse
        by_cases hro : isRo b = true
        · exact PT.weak (pt_cmpR (op_cmpX C op) (Sm.R X c W a C tk) (ro_pe (n := m) C hro) (mark_of hse)) fun σ H Q h => cmp_ro Sm C tk (pos := pos) hse hro (bl_truth h fun _ _ _ z => cmp_bl z)
        · exact PT.weak (pt_cmpR (op_cmpX C op) (frz_pe (Sm.E X c W a C tk)) (Sm.R X c W b C tk) (mark_of hse)) fun σ H Q h => cmp_no Sm C tk (pos := pos) hse hro (bl_truth h fun _ _ _ z => cmp_bl z)
      · by_cases ho : (op2 == CmpOp.In || op2 == CmpOp.NotIn) = true
        · exact nn fun _ => by simp only [evE, ho]; rfl
        · have h1 : op2 ≠ .In := fun z => ho (by rw [z]; rfl)
          have h2 : op2 ≠ .NotIn := fun z => ho (by rw [z]; rfl)
          exact PT.weak (pt_chain (op_cmp (ca := ca) C.units op) (op_cmp (ca := ca) C.units op2) (frz_pe (Sm.E X c W a C tk)) (frz_pe (Sm.E X c W b C tk)) (Sm.R X c W b2 C tk) (mark2_of h1 h2)) fun σ H Q h => chain_imp Sm C tk (pos := pos) (by simpa using ho) (bl_truth h fun _ _ _ z => cmp_bl z)
      · exact nn fun η => hn c m a pos η
  | _ => exact gen fun _ => rfl
theorem snd_cut (S : Snd ca k n) (C : CtxOk X ca k c) (tk : Takes X W) {a : Expr} {lo hi : Option Expr} {p pos : Pos} : PE X (.Subscript a (.Slice lo hi none p) pos) (tM X.K ca W (evE c (n + 1) (.Subscript a (.Slice lo hi none p) pos))) := by
  refine PE.weak (pe_slice (sl_cut (ca := ca)) (frz_pe (S.E X c W a C tk)) (S.P X c W lo C tk) (S.P X c W hi C tk)) fun σ H Q ⟨e, t, F, ag, st, h⟩ => ?_
  refine ⟨e, t, F, ag, st, (PostG.bind h).imp (fun _ _ _ z => z) fun x e1 H1 F1 sb1 ag1 hx v sx st1 => ?_⟩
  refine ⟨e1, (v, x) :: t, F1, ag1, stt_mid st1, (PostG.bind hx).imp (fun _ _ _ => stt_drop) fun l e2 H2 F2 sb2 ag2 hl st2 => ?_⟩
  refine ⟨e2, (v, x) :: t, F2, ag2, st2, (PostG.bind hl).imp (fun _ _ _ => stt_drop) fun u e3 H3 F3 sb3 ag3 hu st3 => ?_⟩
  obtain ⟨d, hd, q⟩ := PostG.opt hu
  refine ⟨F3, x, d, st3.sub, den_one (stt_up st3) sx, hd, fun w H4 g => ?_⟩
  exact q e3 H4 F3 rfl ag3 (Sub.refl F3) w (g _ (stt_drop st3))
theorem snd_part (S : Snd ca k n) (C : CtxOk X ca k c) (tk : Takes X W) {o : Option Expr} : PO X o (tPt X.K ca W (evPart c (n + 1) o)) := by
  cases o with
  | none => exact ⟨fun pins s σ H Q I ⟨e, t, F, ag, st, h⟩ => po_none.run pins s σ H Q I (h e H F rfl ag (Sub.refl F) st)⟩
  | some a =>
    refine ⟨fun pins s σ H Q I ⟨e, t, F, ag, st, h⟩ => (po_some (S.E X c W a C tk)).run pins s σ H Q I ?_⟩
    refine ⟨e, t, F, ag, st, (PostG.bind h).imp (fun _ _ _ z => z) fun x e1 H1 F1 sb1 ag1 hx v st1 => ?_⟩
    obtain ⟨l, hl, q⟩ := PostG.opt hx
    unfold partD at hl
    split at hl
    · cases hl
      obtain ⟨B, hB⟩ := st1.den
      cases den_int hB
      exact ⟨_, rfl, q e1 H1 F1 rfl ag1 (Sub.refl F1) st1.tail⟩
    · cases hl
theorem snd_and (S : Snd ca k n) (C : CtxOk X ca k c) (tk : Takes X W) {es : List Expr} {pos : Pos} : PE X (.BoolOp .And es pos) (tM X.K ca W (evAnd c (n + 1) es)) := by
  cases es with
  | nil => exact tG_none fun _ => rfl
  | cons a r =>
    cases r with
    | nil => exact pe_one (S.E X c W a C tk)
    | cons b r =>
      refine PE.weak (pe_andT (S.E X c W a C tk) (S.And X c W (b :: r) pos C tk)) fun σ H Q ⟨e, t, F, ag, st, h⟩ => ?_
      refine ⟨e, t, F, ag, st, (PostG.bind h).imp (fun _ _ _ z => z) fun x e1 H1 F1 sb1 ag1 hx v st1 => ?_⟩
      obtain ⟨B, hB⟩ := st1.den
      cases ht : truthD x with
      | none => simp only [ht] at hx; exact False.elim hx
      | some kk =>
        refine ⟨kk, tru_of hB st1.sub ht, ?_⟩
        cases kk with
        | true => simp only [ht] at hx; exact ⟨e1, t, F1, ag1, st1.tail, hx⟩
        | false => simp only [ht] at hx; exact hx e1 H1 F1 rfl ag1 (Sub.refl F1) v st1
theorem snd_or (S : Snd ca k n) (C : CtxOk X ca k c) (tk : Takes X W) {es : List Expr} {pos : Pos} : PE X (.BoolOp .Or es pos) (tM X.K ca W (evOr c (n + 1) es)) := by
  cases es with
  | nil => exact tG_none fun _ => rfl
  | cons a r =>
    cases r with
    | nil => exact pe_one (S.E X c W a C tk)
    | cons b r =>
      refine PE.weak (pe_orT (S.E X c W a C tk) (S.Or X c W (b :: r) pos C tk)) fun σ H Q ⟨e, t, F, ag, st, h⟩ => ?_
      refine ⟨e, t, F, ag, st, (PostG.bind h).imp (fun _ _ _ z => z) fun x e1 H1 F1 sb1 ag1 hx v st1 => ?_⟩
      obtain ⟨B, hB⟩ := st1.den
      cases ht : truthD x with
      | none => simp only [ht] at hx; exact False.elim hx
      | some kk =>
        refine ⟨kk, tru_of hB st1.sub ht, ?_⟩
        cases kk with
        | false => simp only [ht] at hx; exact ⟨e1, t, F1, ag1, st1.tail, hx⟩
        | true => simp only [ht] at hx; exact hx e1 H1 F1 rfl ag1 (Sub.refl F1) v st1
theorem snd_andT (S : Snd ca k n) (C : CtxOk X ca k c) (tk : Takes X W) {es : List Expr} {pos : Pos} : PW X (.BoolOp .And es pos) (tMB X.K ca W (evAndT c (n + 1) es)) := by
  cases es with
  | nil => exact ⟨fun whole pins s σ H Q I ⟨_, _, _, _, _, z⟩ => False.elim z⟩
  | cons a r =>
    cases r with
    | nil => exact pw_and1 (S.T X c W a C tk)
    | cons b r =>
      refine ⟨fun whole pins s σ H Q I ⟨e, t, F, ag, st, h⟩ => (pw_and (S.T X c W a C tk) (S.AndT X c W (b :: r) pos C tk)).run whole pins s σ H Q I ?_⟩
      refine ⟨e, t, F, ag, st, (PostG.bind h).imp (fun _ _ _ z => z) fun x e1 H1 F1 sb1 ag1 hx st1 => ?_⟩
      cases x with
      | true => exact ⟨e1, t, F1, ag1, st1, hx⟩
      | false => exact hx e1 H1 F1 rfl ag1 (Sub.refl F1) st1
theorem snd_orT (S : Snd ca k n) (C : CtxOk X ca k c) (tk : Takes X W) {es : List Expr} {pos : Pos} : PW X (.BoolOp .Or es pos) (tMB X.K ca W (evOrT c (n + 1) es)) := by
  cases es with
  | nil => exact ⟨fun whole pins s σ H Q I ⟨_, _, _, _, _, z⟩ => False.elim z⟩
  | cons a r =>
    cases r with
    | nil => exact pw_or1 (S.T X c W a C tk)
    | cons b r =>
      refine ⟨fun whole pins s σ H Q I ⟨e, t, F, ag, st, h⟩ => (pw_or (S.T X c W a C tk) (S.OrT X c W (b :: r) pos C tk)).run whole pins s σ H Q I ?_⟩
      refine ⟨e, t, F, ag, st, (PostG.bind h).imp (fun _ _ _ z => z) fun x e1 H1 F1 sb1 ag1 hx st1 => ?_⟩
      cases x with
      | false => exact ⟨e1, t, F1, ag1, st1, hx⟩
      | true => exact hx e1 H1 F1 rfl ag1 (Sub.refl F1) st1
theorem snd_R (S : Snd ca k n) (C : CtxOk X ca k c) (tk : Takes X W) {a : Expr} : PE X a (tMR X.K ca W (evR c (n + 1) a)) := by
  refine ⟨fun pins s σ H Q I ⟨e, t, F, ag, st, h⟩ => ?_⟩
  simp only [evR] at h
  split at h
  · rename_i i p d hp
    exact ((sndXP n).2 X c a C).run pins s σ H Q I ⟨e, t, F, ag, st, i, p, d, hp, fun v v0 d0 _ _ _ ⟨B, hB⟩ => h e H F rfl ag (Sub.refl F) v B st hB⟩
  · exact (v_to_r (S.E X c W a C tk)).run pins s σ H Q I ⟨e, t, F, ag, st, h⟩
theorem snd_O (S : Snd ca k n) (C : CtxOk X ca k c) (tk : Takes X W) {a : Expr} : PE X a (tMR X.K ca W (evO c (n + 1) a)) := by
  refine ⟨fun pins s σ H Q I ⟨e, t, F, ag, st, h⟩ => ?_⟩
  simp only [evO] at h
  split at h
  · rename_i i p d hp
    split at h
    · exact ((sndXP n).2 X c a C).run pins s σ H Q I ⟨e, t, F, ag, st, i, p, d, hp, fun v v0 d0 _ _ _ ⟨B, hB⟩ => h e H F rfl ag (Sub.refl F) v B st hB⟩
    · refine ((sndXP n).2 X c a C).run pins s σ H Q I ⟨e, t, F, ag, st, i, p, d, hp, fun v v0 d0 e0 b0 pv _ => ?_⟩
      obtain ⟨F', sb, st', pp⟩ := slot_frzP st e0 pv
      rw [setFrzP_eq e0] at h
      exact h _ H F' rfl (ag.set e0 (fun _ => b0)) sb v [] st' pp
  · refine (frz_pe (S.E X c W a C tk)).run pins s σ H Q I ⟨e, t, F, ag, st, h.imp (fun _ _ _ z => z) fun x e1 H1 F1 sb1 ag1 hx v sx st1 => ?_⟩
    exact hx v [] st1.tail (den_one st1 sx)
theorem snd_A (S : Snd ca k n) (C : CtxOk X ca k c) (tk : Takes X W) {a : Expr} : PE X a (tAr X.K ca W (evA c (n + 1) a)) := by
  refine ⟨fun pins s σ H Q I ⟨e, t, F, ag, st, h⟩ => ?_⟩
  cases hb : (isName a).bind c.slot with
  | none =>
    simp only [evA, hb] at h
    refine (S.E X c W a C tk).run pins s σ H Q I ⟨e, t, F, ag, st, (PostG.bind h).imp (fun _ _ _ z => z) fun x e1 H1 F1 sb1 ag1 hx v st1 => ?_⟩
    obtain ⟨v', e2, q⟩ := hx e1 H1 F1 rfl ag1 (Sub.refl F1) [v] [(v, x)] (.tmp .nil) st1
    cases e2
    exact q
  | some i =>
    simp only [evA, hb] at h
    cases hd : (e.map Prod.snd)[i]? with
    | none => simp only [hd] at h; exact False.elim h
    | some d =>
      simp only [hd] at h
      by_cases hbd : d.bound = true
      · rw [if_pos hbd] at h
        cases a with
        | Name x pos =>
          obtain ⟨v, hv⟩ := map_get hd
          refine (pe_slot C (i := i) hb).run pins s σ H Q I ⟨v, ag.get hv hbd, ?_⟩
          obtain ⟨v', e2, q⟩ := h e H F rfl ag (Sub.refl F) [v] [] (.slot (ag.get hv hbd) .nil) st
          cases e2
          exact q
        | _ => simp [isName] at hb
      · rw [if_neg hbd] at h; exact False.elim h
theorem snd_sub (S : Snd ca k n) (C : CtxOk X ca k c) (tk : Takes X W) {a b : Expr} {pos : Pos} (hn : ∀ lo hi p, b ≠ .Slice lo hi none p) : PE X (.Subscript a b pos) (tM X.K ca W (evE c (n + 1) (.Subscript a b pos))) := by
  refine ⟨fun pins s σ H Q I ⟨e, t, F, ag, st, h⟩ => ?_⟩
  have h : PostG X.K ca W σ t F (match evP c n (.Subscript a b pos) (e.map Prod.snd) with
      | some (i, p, d) => if d.still = true then some (.ok d (e.map Prod.snd)) else some (.ok d.frz (setFrzP i p d (e.map Prod.snd)))
      | none => if isSlice b then none else mBind (evE c n a) (fun x => mBind (evE c n b) fun y => mOpt (idxD x y)) (e.map Prod.snd)) (pV X.K ca Q t) := by
    cases b with
    | Slice lo hi stp p =>
      cases stp with
      | none => exact absurd rfl (hn lo hi p)
      | some _ => exact h
    | _ => exact h
  split at h
  · rename_i i p d hp
    split at h
    · rename_i hs
      refine ((sndXP n).2 X c _ C).run pins s σ H Q I ⟨e, t, F, ag, st, i, p, d, hp, fun v v0 d0 _ _ _ ⟨B, hB⟩ => h e H F rfl ag (Sub.refl F) v ?_⟩
      have e0 : B = [] := hB.still (by simp [D.stillL, hs])
      subst e0
      exact st.add hB
    · refine ((sndXP n).2 X c _ C).run pins s σ H Q I ⟨e, t, F, ag, st, i, p, d, hp, fun v v0 d0 e0 b0 pv _ => ?_⟩
      obtain ⟨F', sb, st', pp⟩ := slot_frzP st e0 pv
      rw [setFrzP_eq e0] at h
      exact h _ H F' rfl (ag.set e0 (fun _ => b0)) sb v (st'.add pp)
  · split at h
    · exact False.elim h
    · rename_i hsl
      refine (pe_ix ix_seq (S.E X c W a C tk) (S.E X c W b C tk) (plainIx_of (by simpa using hsl))).run pins s σ H Q I ?_
      refine ⟨e, t, F, ag, st, (PostG.bind h).imp (fun _ _ _ z => z) fun x e1 H1 F1 sb1 ag1 hx v st1 => ?_⟩
      refine ⟨e1, (v, x) :: t, F1, ag1, stt_mid st1, (PostG.bind hx).imp (fun _ _ _ => stt_drop) fun y e2 H2 F2 sb2 ag2 hy w st2 => ?_⟩
      obtain ⟨d, hd, q⟩ := PostG.opt hy
      have hyi : ∃ i, y = .int i := by
        unfold idxD at hd
        split at hd <;> first | exact ⟨_, rfl⟩ | cases hd
      obtain ⟨i, rfl⟩ := hyi
      obtain ⟨Bw, hBw⟩ := st2.den
      cases den_int hBw
      -- the item is taken out of the temporary
      obtain ⟨A, hA, nd, fr, sb, bb⟩ := stt_up st2.tail
      obtain ⟨B, Cc, hB, hC, rfl⟩ := hA.split1
      refine idx_of hd hB sb fun u C' hu ⟨R, hR⟩ => ?_
      refine q e2 H2 F2 rfl ag2 (Sub.refl F2) u ⟨C' ++ Cc, hu.append hC, ?_, ?_, sb, bb⟩
      · have n2 := (hR.append_right Cc).nodup_iff.mp nd
        rw [List.append_assoc, List.nodup_append] at n2
        rw [List.nodup_append]
        exact ⟨n2.1, (List.nodup_append.mp n2.2.1).2.1, fun a za b zb => n2.2.2 a za b (List.mem_append_right R zb)⟩
      · intro a z
        refine fr a ?_
        rcases List.mem_append.mp z with z | z
        · exact List.mem_append_left Cc (hR.mem_iff.mpr (List.mem_append_left R z))
        · exact List.mem_append_right B z
end
end Z

set_option Elab.async false
set_option linter.all false
set_option maxRecDepth 100000
set_option maxHeartbeats 4000000
namespace Z
open PySem PySem.Spec PyProof.Rows L2
section
variable {X : Cx} {ca : Ca} {W : WX} {k n : Nat} {c : Cs} {H F : Hp}
theorem stt_one {ps l : List (V × D)} {d : D} (h : ps.map Prod.snd = [d]) : ∃ v, ps = [(v, d)] := by
  cases ps with
  | nil => cases h
  | cons p r =>
    obtain ⟨v, d'⟩ := p
    cases r with
    | nil => simp at h; exact ⟨v, by rw [h]⟩
    | cons _ _ => simp at h
theorem stt_two {ps l : List (V × D)} {d d' : D} (h : ps.map Prod.snd = [d, d']) : ∃ v v', ps = [(v, d), (v', d')] := by
  cases ps with
  | nil => cases h
  | cons p r =>
    obtain ⟨v, d1⟩ := p
    simp only [List.map_cons, List.cons.injEq] at h
    obtain ⟨v', e⟩ := stt_one (l := l) h.2
    exact ⟨v, v', by rw [e, h.1]⟩
/-! ### built-ins of values -/
theorem snd_callB (S : Snd ca k n) (C : CtxOk X ca k c) (tk : Takes X W) {f : Str} {args : List Expr} {p pos : Pos} (hf : c.bltn f = true) (hs : args.any isStar = false) (hcur : c.cur = none) (hb : isB f = true) (hne : args ≠ []) :
    PE X (.Call (.Name f p) args [] pos) (tM X.K ca W (mBind (seqM (evE c n) args) fun vs => mOpt (callB f vs))) := by
  obtain ⟨g1, g2, g3, g4⟩ := bltn_of C hf
  refine ⟨fun pins s σ H Q I ⟨e, t, F, ag, st, h⟩ => ?_⟩
  cases args with
  | nil =>
    cases hne rfl
  | cons a as =>
    have hs' : isStar a = false ∧ as.any isStar = false := by simpa [List.any_cons, Bool.or_eq_false_iff] using hs
    have args := snd_seq (ca := ca) (W := W) (fun e => S.E X c W e C tk) hs
    -- which built-in it is
    by_cases f1 : f = ("int" : Str)
    · subst f1
      refine (pe_callTy call_int1 g1 g4 (by decide +kernel) args g3 g2 (star_of hs'.1) (nostar hs'.2)).run pins s σ H Q I ⟨e, t, F, ag, st, (PostG.bind h).imp (fun _ _ _ z => z) fun vs e1 H1 F1 sb1 ag1 hv ps hps st1 => ?_⟩
      obtain ⟨d, hd, q⟩ := PostG.opt hv
      unfold callB at hd
      rw [if_pos rfl] at hd
      split at hd
      · cases hd
        obtain ⟨v, rfl⟩ := stt_one (l := []) hps
        obtain ⟨B, hB⟩ := Stt.den st1
        cases den_int hB
        exact .inl ⟨_, rfl, q e1 H1 F1 rfl ag1 (Sub.refl F1) _ ((Stt.tail st1).add (.int .nil))⟩
      · cases hd
        obtain ⟨v, rfl⟩ := stt_one (l := []) hps
        obtain ⟨B, hB⟩ := Stt.den st1
        cases den_bl hB
        exact .inr ⟨_, rfl, q e1 H1 F1 rfl ag1 (Sub.refl F1) _ ((Stt.tail st1).add (.int .nil))⟩
      · cases hd
    by_cases f2 : f = ("abs" : Str)
    · subst f2
      refine (pe_callB call_abs g1 g4 (by decide +kernel) args g3 g2 (star_of hs'.1) (nostar hs'.2)).run pins s σ H Q I ⟨e, t, F, ag, st, (PostG.bind h).imp (fun _ _ _ z => z) fun vs e1 H1 F1 sb1 ag1 hv ps hps st1 => ?_⟩
      obtain ⟨d, hd, q⟩ := PostG.opt hv
      unfold callB at hd
      rw [if_neg (by decide +kernel), if_pos rfl] at hd
      split at hd
      · cases hd
        obtain ⟨v, rfl⟩ := stt_one (l := []) hps
        obtain ⟨B, hB⟩ := Stt.den st1
        cases den_int hB
        exact ⟨_, rfl, q e1 H1 F1 rfl ag1 (Sub.refl F1) _ ((Stt.tail st1).add (.int .nil))⟩
      · cases hd
    by_cases f3 : f = ("min" : Str)
    · subst f3
      refine (pe_callB (call_min2 (C.calm hcur)) g1 g4 (by decide +kernel) args g3 g2 (star_of hs'.1) (nostar hs'.2)).run pins s σ H Q I ⟨e, t, F, ag, st, (PostG.bind h).imp (fun _ _ _ z => z) fun vs e1 H1 F1 sb1 ag1 hv ps hps st1 => ?_⟩
      obtain ⟨d, hd, q⟩ := PostG.opt hv
      unfold callB at hd
      rw [if_neg (by decide +kernel), if_neg (by decide +kernel), if_pos rfl] at hd
      split at hd
      · cases hd
        obtain ⟨v, v', rfl⟩ := stt_two (l := []) hps
        obtain ⟨B, hB⟩ := Stt.den st1
        obtain ⟨B', hB'⟩ := Stt.den (Stt.tail st1)
        cases den_int hB
        cases den_int hB'
        exact ⟨_, _, rfl, q e1 H1 F1 rfl ag1 (Sub.refl F1) _ ((Stt.tail (Stt.tail st1)).add (.int .nil))⟩
      · cases hd
    by_cases f4 : f = ("max" : Str)
    · subst f4
      refine (pe_callB (call_max2 (C.calm hcur)) g1 g4 (by decide +kernel) args g3 g2 (star_of hs'.1) (nostar hs'.2)).run pins s σ H Q I ⟨e, t, F, ag, st, (PostG.bind h).imp (fun _ _ _ z => z) fun vs e1 H1 F1 sb1 ag1 hv ps hps st1 => ?_⟩
      obtain ⟨d, hd, q⟩ := PostG.opt hv
      unfold callB at hd
      rw [if_neg (by decide +kernel), if_neg (by decide +kernel), if_neg (by decide +kernel), if_pos rfl] at hd
      split at hd
      · cases hd
        obtain ⟨v, v', rfl⟩ := stt_two (l := []) hps
        obtain ⟨B, hB⟩ := Stt.den st1
        obtain ⟨B', hB'⟩ := Stt.den (Stt.tail st1)
        cases den_int hB
        cases den_int hB'
        exact ⟨_, _, rfl, q e1 H1 F1 rfl ag1 (Sub.refl F1) _ ((Stt.tail (Stt.tail st1)).add (.int .nil))⟩
      · cases hd
    · simp [isB, f1, f2, f3, f4] at hb
theorem snd_len (S : Snd ca k n) (C : CtxOk X ca k c) (tk : Takes X W) {a : Expr} {p pos : Pos} (hf : c.bltn ("len" : Str) = true) (hs : isStar a = false) :
    PE X (.Call (.Name "len" p) [a] [] pos) (tM X.K ca W (mBind (evR c n a) fun x => mOpt ((lenD x).map fun (m : Nat) => D.int m))) := by
  obtain ⟨g1, g2, g3, g4⟩ := bltn_of C hf
  refine PE.weak (pe_callB call_len g1 g4 (by decide +kernel) (pa_cons (S.R X c W a C tk) pa_nil (star_of hs)) g3 g2 (star_of hs) rfl) fun σ H Q ⟨e, t, F, ag, st, h⟩ => ?_
  refine ⟨e, t, F, ag, st, (PostG.bind h).imp (fun _ _ _ z => z) fun x e1 H1 F1 sb1 ag1 hx v B st1 hB => ?_⟩
  obtain ⟨d, hd, q⟩ := PostG.opt hx
  rw [Option.map_eq_some_iff] at hd
  obtain ⟨m, hm, rfl⟩ := hd
  exact ⟨v, m, rfl, len_of hB st1.sub hm, q e1 H1 F1 rfl ag1 (Sub.refl F1) _ (st1.add (.int .nil))⟩
/-! ### list, tuple, all, any -/
theorem bls_of : ∀ {ps : List (V × D)} {B : List Addr} {bs : List Bool}, DenL X.K ca H F ps B → blsD (ps.map Prod.snd) = some bs → ps.map Prod.fst = bs.map V.bl
  | [], _, bs, _, h => by cases h; rfl
  | (v, d) :: r, B, bs, hd, h => by
    obtain ⟨B1, C1, h1, h2, rfl⟩ := hd.split1
    cases d <;> simp only [List.map_cons, blsD] at h <;> try cases h
    rw [Option.map_eq_some_iff] at h
    obtain ⟨q, hq, rfl⟩ := h
    cases den_bl h1
    rw [List.map_cons, List.map_cons, bls_of h2 hq]
theorem den_kids {v : V} {kd : Kd} {o : Bool} {xs : List D} {B : List Addr} (h : DenL X.K ca H F [(v, .node kd o xs)] B) (sb : Sub F H) (hs : D.stillL xs = true) : ∃ a ps, v = .ref a ∧ ps.map Prod.snd = xs ∧ NdF X.K ca H a kd (ps.map Prod.fst) ∧ DenL X.K ca H F ps [] := by
  obtain ⟨a, ps, B', e1, e2, n1, c1⟩ := den_node h sb
  have : B' = [] := c1.still (by rw [e2]; exact hs)
  subst this
  exact ⟨a, ps, e1, e2, n1, c1⟩
theorem evO_kids {a : Expr} {η η' : List D} {d : D} (h : evO c n a η = some (.ok d η')) : kidsStill d = true := by
  have fk : ∀ d : D, kidsStill d.frz = true := fun d => by
    cases d <;> first | rfl | exact frzL_still _
  cases n with
  | zero => cases h
  | succ m =>
    simp only [evO] at h
    split at h
    · split at h
      · cases h; assumption
      · cases h; exact fk _
    · unfold mFrz at h
      split at h
      · cases h; exact fk _
      · rename_i hne
        cases he : evE c m a η with
        | none => rw [he] at h; cases h
        | some r =>
          cases r with
          | ok d η1 => exact absurd he (hne d η1)
          | exc _ _ _ => rw [he] at h; cases h
/-- what was read has still items -/
theorem PostG.kids {σ : L2.St} {t : List (V × D)} {a : Expr} {η : List D} {P : D → List (V × D) → Hp → Hp → Prop} (h : PostG X.K ca W σ t F (evO c n a η) P) : PostG X.K ca W σ t F (evO c n a η) (fun d e H F => kidsStill d = true ∧ P d e H F) := by
  cases hr : evO c n a η with
  | none => rw [hr] at h; exact h
  | some r =>
    rw [hr] at h
    cases r with
    | exc _ _ _ => exact h
    | ok d η' => exact fun e' H' F' he ag sb => ⟨evO_kids hr, h e' H' F' he ag sb⟩
theorem snd_callO (S : Snd ca k n) (C : CtxOk X ca k c) (tk : Takes X W) {f : Str} {a : Expr} {p pos : Pos} (hf : c.bltn f = true) (hs : isStar a = false) (hcur : c.cur = none) (hn : f = ("list" : Str) ∨ f = ("tuple" : Str) ∨ f = ("all" : Str) ∨ f = ("any" : Str)) :
    PE X (.Call (.Name f p) [a] [] pos) (tM X.K ca W (mBind (evO c n a) fun x => mOpt (callO f x))) := by
  obtain ⟨g1, g2, g3, g4⟩ := bltn_of C hf
  have args := pa_cons (S.O X c W a C tk) pa_nil (star_of hs)
  have fin : ∀ {σ : L2.St} {H : Hp} {Q : VK} {r : List V → Hp → VK → Prop}, tM X.K ca W (mBind (evO c n a) fun x => mOpt (callO f x)) σ H Q →
      (∀ v x d B H1 F1, kidsStill x = true → Sub F1 H1 → DenL X.K ca H1 F1 [(v, x)] B → callO f x = some d → (∀ u H2, Gives X.K ca H1 F1 H2 u d → Q u H2) → r [v] H1 Q) → (tCB r (tCons (tMR X.K ca W (evO c n a)) tNil)) σ H Q := by
    intro σ H Q r ⟨e, t, F, ag, st, h⟩ hr
    refine ⟨e, t, F, ag, st, (PostG.kids (PostG.bind h)).imp (fun _ _ _ z => z) fun x e1 H1 F1 sb1 ag1 ⟨kx, hx⟩ v B st1 hB => ?_⟩
    obtain ⟨d, hd, q⟩ := PostG.opt hx
    exact hr v x d B H1 F1 kx st1.sub hB hd fun u H2 g => q e1 H2 F1 rfl ag1 (Sub.refl F1) u (g _ st1)
  rcases hn with rfl | rfl | rfl | rfl
  · refine PE.weak (pe_callTy call_list_of g1 g4 (by decide +kernel) args g3 g2 (star_of hs) rfl) fun σ H Q h => fin h fun v x d B H1 F1 kx sb hB hd q => ?_
    unfold callO at hd
    rw [if_pos rfl] at hd
    split at hd
    · cases hd
      obtain ⟨a, ps, rfl, e2, n1, c1⟩ := den_kids hB sb kx
      refine ⟨a, _, rfl, .inl (.inl (.inl n1)), fun l hl => q _ _ ?_⟩
      rw [← e2]; exact gives_new hl c1 upd_same
    · cases hd
      obtain ⟨a, ps, rfl, e2, n1, c1⟩ := den_kids hB sb kx
      refine ⟨a, _, rfl, .inl n1, fun l hl => q _ _ ?_⟩
      rw [← e2]; exact gives_new hl c1 upd_same
    · cases hd
      obtain ⟨a, ps, rfl, e2, n1, c1⟩ := den_kids hB sb kx
      refine ⟨a, _, rfl, .inr n1, fun l hl => q _ _ ?_⟩
      rw [← e2]; exact gives_new hl c1 upd_same
    · cases hd
  · refine PE.weak (pe_callTy call_tuple_of g1 g4 (by decide +kernel) args g3 g2 (star_of hs) rfl) fun σ H Q h => fin h fun v x d B H1 F1 kx sb hB hd q => ?_
    unfold callO at hd
    rw [if_neg (by decide +kernel), if_pos rfl] at hd
    split at hd
    · cases hd
      obtain ⟨a, ps, rfl, e2, n1, c1⟩ := den_kids hB sb kx
      refine ⟨a, _, rfl, .inl ⟨.inl (.inl n1), fun l hl => q _ _ ?_⟩⟩
      rw [← e2]; exact gives_new hl c1 upd_same
    · cases hd
      obtain ⟨a, ps, rfl, e2, n1, c1⟩ := den_kids hB sb kx
      refine ⟨a, _, rfl, .inl ⟨n1, fun l hl => q _ _ ?_⟩⟩
      rw [← e2]; exact gives_new hl c1 upd_same
    · cases hd
  · refine PE.weak (pe_callB (cr_all (C.calm hcur)) g1 g4 (by decide +kernel) args g3 g2 (star_of hs) rfl) fun σ H Q h => fin h fun v x d B H1 F1 kx sb hB hd q => ?_
    unfold callO at hd
    rw [if_neg (by decide +kernel), if_neg (by decide +kernel), if_pos rfl] at hd
    split at hd
    · rw [Option.map_eq_some_iff] at hd
      obtain ⟨bs, hb, rfl⟩ := hd
      obtain ⟨a, ps, rfl, e2, n1, c1⟩ := den_kids hB sb kx
      rw [← e2] at hb
      refine ⟨a, bs, rfl, .inl (.inl ?_), q _ _ (gives_atom (.bl .nil))⟩
      rw [← bls_of c1 hb]; exact n1
    · cases hd
  · refine PE.weak (pe_callB (cr_any (C.calm hcur)) g1 g4 (by decide +kernel) args g3 g2 (star_of hs) rfl) fun σ H Q h => fin h fun v x d B H1 F1 kx sb hB hd q => ?_
    unfold callO at hd
    rw [if_neg (by decide +kernel), if_neg (by decide +kernel), if_neg (by decide +kernel), if_pos rfl] at hd
    split at hd
    · rw [Option.map_eq_some_iff] at hd
      obtain ⟨bs, hb, rfl⟩ := hd
      obtain ⟨a, ps, rfl, e2, n1, c1⟩ := den_kids hB sb kx
      rw [← e2] at hb
      refine ⟨a, bs, rfl, .inl (.inl ?_), q _ _ (gives_atom (.bl .nil))⟩
      rw [← bls_of c1 hb]; exact n1
    · cases hd
/-! ### isinstance -/
theorem tyX_of {v : V} {d : D} {B : List Addr} {T : String} (h : DenL X.K ca H F [(v, d)] B) (sb : Sub F H) (e : tyD d = some T) : TyX X.K H v (.type T) := by
  unfold tyD at e
  split at e
  · cases e; cases den_non h; exact .base .non
  · cases e; cases den_bl h; exact .base (.bl _)
  · cases e; cases den_int h; exact .base (.int _)
  · cases e; cases den_str h; exact .base (.str _)
  · cases e
    obtain ⟨a, ps, B', rfl, e1, n1, _⟩ := den_node h sb
    exact .base (.lst n1)
  · cases e
    obtain ⟨a, ps, B', rfl, e1, n1, _⟩ := den_node h sb
    rcases n1 with (n1 | ⟨o, n1⟩) | ⟨o, its, m, h1, h2, _⟩
    · exact .base (.lst n1)
    · exact .base (.frz n1)
    · exact .kList h1 h2
  · cases e
    obtain ⟨a, ps, B', rfl, e1, n1, _⟩ := den_node h sb
    rcases n1 with (n1 | ⟨o, n1⟩) | ⟨o, its, m, h1, h2, _⟩
    · exact .base (.tup n1)
    · exact .fTuple n1
    · exact .kTuple h1 h2
  · cases e
theorem tgt_of (C : CtxOk X ca k c) {x : Str} (h : c.isTgt x = true) : ∃ v, ClsV v (tgtU c.g ca x) ∧ ∀ pos, PE X (.Name x pos) (tC v) := by
  unfold Cs.isTgt at h
  simp only [Bool.and_eq_true] at h
  obtain ⟨hg, h⟩ := h
  obtain ⟨g1, g2, g3⟩ := glob_of C hg
  cases hx : c.g x with
  | some g =>
    rw [hx] at h
    cases g with
    | cls cl =>
      refine ⟨.ref (ca.at_ x), ?_, fun pos => pe_glob g1 (C.gcl _ _ hx).at_ rfl g2⟩
      unfold tgtU; rw [hx]; exact .own _
    | _ => cases h
  | none =>
    rw [hx] at h
    simp only [Bool.and_eq_true] at h
    have hm := C.free x h.1
    cases ht : tyName x with
    | none => rw [ht] at h; simp at h
    | some T =>
      refine ⟨.ty T, ?_, fun pos => pe_bltn g1 hm ?_ rfl g3 g2⟩
      · unfold tgtU; rw [hx, ht]; exact .ty _
      · unfold tyName at ht
        split at ht
        · cases ht; subst x; decide +kernel
        split at ht
        · cases ht; subst x; decide +kernel
        split at ht
        · cases ht; subst x; decide +kernel
        split at ht
        · cases ht; subst x; decide +kernel
        split at ht
        · cases ht; subst x; decide +kernel
        · cases ht
/-- the type that isinstance sees -/
theorem isa_ty (C : CtxOk X ca k c) {v : V} {d : D} {B : List Addr} (h : DenL X.K ca H F [(v, d)] B) (sb : Sub F H) : ∀ {xs : List Str} {b : Bool}, c.isaAny d xs = some b → xs ≠ [] → ∃ t, TyX X.K H v t ∧ PySem.W.kitAny X.K t (xs.map (tgtU c.g ca)) = some b := by
  have one : (∃ t, TyX X.K H v t ∧ ∀ x b, c.isaOne d x = some b → PySem.W.kitOne X.K t (tgtU c.g ca x) = some b) ∨ ∀ x, c.isaOne d x = none := by
    by_cases hobj : ∃ y fs o xs, d = .node (.obj y fs) o xs
    · obtain ⟨y, fs, o, xs, rfl⟩ := hobj
      cases hy : c.g y with
      | none => exact .inr fun x => by simp only [Cs.isaOne, hy]
      | some g =>
        cases g with
        | val _ => exact .inr fun x => by simp only [Cs.isaOne, hy]
        | fn _ => exact .inr fun x => by simp only [Cs.isaOne, hy]
        | cls cy =>
          cases hex : cy.exc with
          | some _ => exact .inr fun x => by simp [Cs.isaOne, hy, hex]
          | none =>
            refine .inl ?_
            have CF := C.gcl _ _ hy
            obtain ⟨a, ps, B', rfl, e1, n1, _⟩ := den_node h sb
            obtain ⟨l1, dx, n1⟩ := n1
            obtain ⟨t1, t2, t3, t4⟩ := CF.ty hex
            refine ⟨.ref (ca.at_ y), .base (.ins n1 (CF.cls hex).1 t1 t2 t3 t4), fun x b hb => ?_⟩
            simp only [Cs.isaOne, hy, hex, Option.isNone_none, if_true] at hb
            exact CF.isa hex x b hb
    · cases ht : tyD d with
      | none =>
        refine .inr fun x => ?_
        unfold Cs.isaOne
        split
        · exact absurd ⟨_, _, _, _, rfl⟩ hobj
        · rw [ht]
      | some T =>
        refine .inl ⟨.type T, tyX_of h sb ht, fun x b hb => ?_⟩
        have hb : (match tyD d with
            | none => none
            | some t => match c.g x with
              | some (.cls cl) => if cl.notb.contains t then some false else none
              | some _ => none
              | none => (match tyName x with
                | some T => kitB t T
                | none => none)) = some b := by
          unfold Cs.isaOne at hb
          split at hb
          · exact absurd ⟨_, _, _, _, rfl⟩ hobj
          · exact hb
        rw [ht] at hb
        simp only at hb
        split at hb
        · rename_i cl hc
          split at hb
          · rename_i hn
            cases hb
            unfold tgtU; rw [hc]
            exact (C.gcl _ _ hc).notb T hn
          · cases hb
        · cases hb
        · rename_i hc
          split at hb
          · rename_i T' hT
            unfold tgtU; rw [hc, hT]
            exact kit_ty hb
          · cases hb
  intro xs b hb hne
  rcases one with ⟨t, h1, h2⟩ | hn
  · refine ⟨t, h1, ?_⟩
    clear hne
    induction xs with
    | nil => cases hb; rfl
    | cons x r ih =>
      unfold Cs.isaAny at hb
      split at hb
      · cases hb
      · rename_i hx
        cases hb
        simp only [List.map_cons, PySem.W.kitAny, h2 x true hx]
      · rename_i hx
        simp only [List.map_cons, PySem.W.kitAny, h2 x false hx]
        exact ih hb
  · cases xs with
    | nil => exact absurd rfl hne
    | cons x r => unfold Cs.isaAny at hb; rw [hn x] at hb; cases hb
end
end Z

set_option Elab.async false
set_option linter.all false
set_option maxRecDepth 100000
set_option maxHeartbeats 4000000
namespace Z
open PySem PySem.Spec PyProof.Rows L2
section
variable {X : Cx} {ca : Ca} {W : WX} {k n : Nat} {c : Cs} {H F : Hp} {σ : L2.St}
theorem snd_isa (S : Snd ca k n) (C : CtxOk X ca k c) (tk : Takes X W) {a t₀ : Expr} {p pos : Pos} {xs : List Str} (hf : c.bltn ("isinstance" : Str) = true) (hs : isStar a = false) (hx : isaNames t₀ = some xs) (ht : xs.all c.isTgt = true) :
    PE X (.Call (.Name "isinstance" p) [a, t₀] [] pos) (tM X.K ca W (mBind (evR c n a) fun x => mOpt ((c.isaAny x xs).map .bl))) := by
  obtain ⟨g1, g2, g3, g4⟩ := bltn_of C hf
  have st2 : ∀ {e : Expr}, isaNames e = some xs → isStar e = false := fun {e} h => by
    cases e <;> first | rfl | (simp [isaNames] at h)
  have hst := st2 hx
  have hpl : (backTo pos (starEach [t₀] X.env)).any (·.1) = false := nostar (by simp [hst])
  have hst2 : starEach [a, t₀] X.env = (false, eval a X.env) :: starEach [t₀] X.env := star_of hs
  cases t₀ with
  | Name x p2 =>
    cases hx
    obtain ⟨v, h1, h2⟩ := tgt_of C (by simpa using ht)
    refine PE.weak (pe_callB call_isi g1 g4 (by decide +kernel) (pa_cons (S.R X c W a C tk) (pa_cons (h2 p2) pa_nil) hst2) g3 g2 hst2 hpl) fun σ H Q ⟨e, t, F, ag, st, h⟩ => ?_
    refine ⟨e, t, F, ag, st, (PostG.bind h).imp (fun _ _ _ z => z) fun d e1 H1 F1 sb1 ag1 hd w B st1 hB => ?_⟩
    obtain ⟨r, hr, q⟩ := PostG.opt hd
    rw [Option.map_eq_some_iff] at hr
    obtain ⟨b, hb, rfl⟩ := hr
    obtain ⟨T, t1, t2⟩ := isa_ty C hB st1.sub hb (by simp)
    refine ⟨w, v, T, _, b, rfl, h1, t1, ?_, q e1 H1 F1 rfl ag1 (Sub.refl F1) _ (st1.add (.bl .nil))⟩
    simp only [List.map_cons, List.map_nil, PySem.W.kitAny] at t2
    split at t2
    · cases t2; assumption
    · cases t2; assumption
    · cases t2
  | Tuple es j p2 =>
    have names : ∀ {es : List Expr} {xs : List Str}, es.mapM isName = some xs → xs.all c.isTgt = true → ∃ vs, Paired ClsV vs (xs.map (tgtU c.g ca)) ∧ PA X es (fun σ H Q => Q vs H) := by
      intro es
      induction es with
      | nil => intro xs h _; cases h; exact ⟨[], .nil, pa_nil⟩
      | cons e r ih =>
        intro xs h hall
        rw [List.mapM_cons] at h
        cases e with
        | Name x p3 =>
          simp only [isName, Option.pure_def, Option.bind_eq_bind, Option.bind_some, Option.bind_eq_some_iff] at h
          obtain ⟨ys, hy, h⟩ := h
          cases h
          simp only [List.all_cons, Bool.and_eq_true] at hall
          obtain ⟨v, h1, h2⟩ := tgt_of C hall.1
          obtain ⟨vs, h3, h4⟩ := ih hy hall.2
          exact ⟨v :: vs, .cons h1 h3, pa_cons (h2 p3) h4 rfl⟩
        | _ => simp [isName] at h
    have hx2 : (if es.length ≤ 100 ∧ es.length ≠ 0 then es.mapM isName else none) = some xs := hx
    have hlen : es.length ≤ 100 ∧ es.length ≠ 0 := by
      by_cases h : es.length ≤ 100 ∧ es.length ≠ 0
      · exact h
      · rw [if_neg h] at hx2; cases hx2
    rw [if_pos hlen] at hx2
    obtain ⟨vs, h1, h2⟩ := names hx2 ht
    have hl : vs.length = es.length := by
      have e1 := Paired.length h1
      rw [List.length_map] at e1
      have : ∀ {es : List Expr} {xs : List Str}, es.mapM isName = some xs → xs.length = es.length := by
        intro es
        induction es with
        | nil => intro xs h; cases h; rfl
        | cons e r ih =>
          intro xs h
          rw [List.mapM_cons] at h
          simp only [Option.pure_def, Option.bind_eq_bind, Option.bind_eq_some_iff] at h
          obtain ⟨y, _, ys, hy, h⟩ := h
          cases h
          simp [ih hy]
      rw [e1, this hx2]
    refine PE.weak (pe_callB call_isiT g1 g4 (by decide +kernel) (pa_cons (S.R X c W a C tk) (pa_cons (pe_tup h2) pa_nil) hst2) g3 g2 hst2 hpl) fun σ H Q ⟨e, t, F, ag, st, h⟩ => ?_
    refine ⟨e, t, F, ag, st, (PostG.bind h).imp (fun _ _ _ z => z) fun d e1 H1 F1 sb1 ag1 hd w B st1 hB => ?_⟩
    obtain ⟨r, hr, q⟩ := PostG.opt hd
    rw [Option.map_eq_some_iff] at hr
    obtain ⟨b, hb, rfl⟩ := hr
    refine ⟨by rw [hl]; exact Nat.le_trans hlen.1 (by decide), fun q' hq' => ?_⟩
    have hB' : DenL X.K ca (upd H1 q' (.tup vs)) F1 [(w, d)] B := hB.mono (Sub.refl F1) fun a z => upd_ne fun e0 => hB.there a z (e0 ▸ hq')
    have st1' := st1.laid (o := .tup vs) hq'
    have hne : xs ≠ [] := by
      rintro rfl
      cases h1
      exact hlen.2 hl.symm
    obtain ⟨T, t1, t2⟩ := isa_ty C hB' st1'.sub hb hne
    exact ⟨w, q', vs, T, _, b, rfl, upd_same, h1, t1, t2, q e1 _ F1 rfl ag1 (Sub.refl F1) _ (st1'.add (.bl .nil))⟩
  | _ => simp [isaNames] at hx

/-! ### arguments in a row -/
theorem ArgsR.app {as bs : List Arg} {ws us : List V} {tm tn : List (V × D)} (h : ArgsR σ as ws tm) (h2 : ArgsR σ bs us tn) : ArgsR σ (as ++ bs) (ws ++ us) (tm ++ tn) := by
  induction h with
  | nil => exact h2
  | slot hi _ ih => exact .slot hi ih
  | tmp _ ih => exact .tmp ih
theorem ArgsR.len {as : List Arg} {ws : List V} {tm : List (V × D)} (h : ArgsR σ as ws tm) : as.length = ws.length := by
  induction h with
  | nil => rfl
  | slot hi _ ih => simp [ih]
  | tmp _ ih => simp [ih]
theorem seq_len {α β : Type} {f : α → M β} : ∀ {xs : List α} {η η' : List D} {ys : List β}, seqM f xs η = some (.ok ys η') → ys.length = xs.length
  | [], _, _, _, h => by cases h; rfl
  | x :: r, _, _, _, h => by
    obtain ⟨y, η1, _, h⟩ := bind_ok h
    obtain ⟨q, η2, hq, h⟩ := bind_ok h
    cases h
    simp [seq_len hq]
theorem snd_args {f : Expr → M Arg} (hf : ∀ e, PE X e (tAr X.K ca W (f e))) : ∀ {es : List Expr}, es.any isStar = false → PA X es (tAs X.K ca W (seqM f es))
  | [], _ => PA.weak pa_nil fun σ H Q ⟨e, t, F, ag, st, h⟩ => h e H F rfl ag (Sub.refl F) [] [] .nil st
  | a :: r, hs => by
    simp only [List.any_cons, Bool.or_eq_false_iff] at hs
    refine PA.weak (pa_cons (hf a) (snd_args hf hs.2) (star_of hs.1)) fun σ H Q ⟨e, t, F, ag, st, h⟩ => ?_
    refine ⟨e, t, F, ag, st, (PostG.bind h).imp (fun _ _ _ z => z) fun x e1 H1 F1 sb1 ag1 hx ws tm ha st1 => ?_⟩
    have hl := ha.len
    cases ws with
    | nil => simp at hl
    | cons v ws =>
      cases ws with
      | cons _ _ => simp at hl
      | nil =>
        refine ⟨v, rfl, e1, tm ++ t, F1, ag1, ?_, (PostG.bind hx).imp (fun H F e z => ?_) fun ys e2 H2 F2 sb2 ag2 hy us tn hb st2 => ?_⟩
        · exact st1.perm (perm_mu (by simp only [mu_app]; ac_rfl))
        · exact Stt.right (l1 := tm) (z.perm (perm_mu (by simp only [mu_app]; ac_rfl)))
        · refine hy e2 H2 F2 rfl ag2 (Sub.refl F2) (v :: us) (tm ++ tn) (ha.app hb) (st2.perm ?_)
          exact perm_mu (by simp only [mu_app]; ac_rfl)
end
end Z

set_option Elab.async false
set_option linter.all false
set_option maxRecDepth 100000
set_option maxHeartbeats 4000000
namespace Z
open PySem PySem.Spec PyProof.Rows L2
section
variable {X : Cx} {ca : Ca} {W : WX} {k n : Nat} {c : Cs} {H F : Hp} {σ : L2.St} {K : PySem.W.Frag}
/-! ### which temporaries are whose -/
def tmp1 : Arg → V → List (V × D)
  | .tmp d, w => [(w, d)]
  | .slot _, _ => []
def tms : List Arg → List V → List (V × D)
  | a :: as, w :: ws => tmp1 a w ++ tms as ws
  | _, _ => []
def tmAt : List Arg → List V → Nat → List (V × D)
  | a :: _, w :: _, 0 => tmp1 a w
  | _ :: as, _ :: ws, j + 1 => tmAt as ws j
  | _, _, _ => []
theorem ArgsR.tms {as : List Arg} {ws : List V} {tm : List (V × D)} (h : ArgsR σ as ws tm) : tm = Z.tms as ws := by
  induction h with
  | nil => rfl
  | slot _ _ ih => rw [ih]; rfl
  | tmp _ ih => rw [ih]; rfl
theorem tms_take : ∀ (as : List Arg) (ws : List V) (j : Nat), (tms as ws).Perm (tmAt as ws j ++ tms (as.set j (.slot 0)) ws)
  | [], _, j => by cases j <;> exact List.Perm.refl _
  | a :: as, [], j => by cases j <;> exact List.Perm.refl _
  | a :: as, w :: ws, 0 => List.Perm.refl _
  | a :: as, w :: ws, j + 1 => by
    show (tmp1 a w ++ tms as ws).Perm (tmAt as ws j ++ (tmp1 a w ++ tms (as.set j (.slot 0)) ws))
    exact ((tms_take as ws j).append_left _).trans (perm_mu (by simp only [mu_app]; ac_rfl))
theorem tmAt_set : ∀ (as : List Arg) (ws : List V) (j l : Nat) (x : Arg), j ≠ l → tmAt (as.set j x) ws l = tmAt as ws l
  | [], _, j, l, _, _ => by cases l <;> rfl
  | a :: as, [], j, l, _, _ => by cases j <;> cases l <;> rfl
  | a :: as, w :: ws, 0, l + 1, _, _ => rfl
  | a :: as, w :: ws, j + 1, 0, _, _ => rfl
  | a :: as, w :: ws, j + 1, l + 1, x, h => tmAt_set as ws j l x (fun e => h (by rw [e]))
  | a :: as, w :: ws, 0, 0, _, h => absurd rfl h
theorem tms_all : ∀ (L : List Nat) (as : List Arg) (ws : List V), L.Nodup → ∃ rest, (tms as ws).Perm (L.flatMap (tmAt as ws) ++ rest)
  | [], as, ws, _ => ⟨_, List.Perm.refl _⟩
  | j :: L, as, ws, h => by
    obtain ⟨rest, p⟩ := tms_all L (as.set j (.slot 0)) ws (List.nodup_cons.mp h).2
    have e : L.flatMap (tmAt (as.set j (.slot 0)) ws) = L.flatMap (tmAt as ws) := by
      have hj := (List.nodup_cons.mp h).1
      clear p h
      induction L with
      | nil => rfl
      | cons l L ih =>
        simp only [List.mem_cons, not_or] at hj
        rw [List.flatMap_cons, List.flatMap_cons, tmAt_set as ws j l _ hj.1, ih hj.2]
    rw [e] at p
    refine ⟨rest, (tms_take as ws j).trans ((p.append_left _).trans ?_)⟩
    rw [List.flatMap_cons]
    exact perm_mu (by simp only [mu_app]; ac_rfl)
theorem args_at : ∀ {as : List Arg} {ws : List V} {tm : List (V × D)}, ArgsR σ as ws tm → ∀ {j : Nat} {a : Arg}, as[j]? = some a → ∃ w, ws[j]? = some w ∧ ∀ {as' : List Arg} {vs : List V} {tn : List (V × D)}, ArgsR σ as' vs tn → ArgsR σ (a :: as') (w :: vs) (tmAt as ws j ++ tn) := by
  intro as ws tm h
  induction h with
  | nil => intro j a e; simp at e
  | slot hi _ ih =>
    intro j a e
    cases j with
    | zero => simp at e; subst e; exact ⟨_, rfl, fun r => .slot hi r⟩
    | succ j => obtain ⟨w, h1, h2⟩ := ih (j := j) (by simpa using e); exact ⟨w, by simpa using h1, h2⟩
  | tmp _ ih =>
    intro j a e
    cases j with
    | zero => simp at e; subst e; exact ⟨_, rfl, fun r => .tmp r⟩
    | succ j => obtain ⟨w, h1, h2⟩ := ih (j := j) (by simpa using e); exact ⟨w, by simpa using h1, h2⟩
def inls (arr : List (Nat ⊕ D)) : List Nat := arr.filterMap fun x => match x with
  | .inl j => some j
  | .inr _ => none
theorem pick_ok {as : List Arg} {ws : List V} {tm : List (V × D)} {uz : List Value} (hA : ArgsR σ as ws tm) (hv : Vals ws uz) : ∀ {arr : List (Nat ⊕ D)} {zs : List Value} {bs : List Arg}, ArrV uz arr zs → pickAll as arr = some bs →
    ∃ vs tm' at', Vals vs zs ∧ ArgsR σ bs vs tm' ∧ (∀ H F, DenL K ca H F at' []) ∧ tm'.Perm (at' ++ (inls arr).flatMap (tmAt as ws)) ∧ ∀ j r, arr = .inl j :: r → ∃ w vs', ws[j]? = some w ∧ vs = w :: vs' := by
  intro arr
  induction arr with
  | nil => intro zs bs h1 h2; cases h2; cases h1; exact ⟨[], [], [], .nil, .nil, fun _ _ => .nil, List.Perm.refl _, fun j r e => by cases e⟩
  | cons x arr ih =>
    intro zs bs h1 h2
    unfold pickAll at h2
    split at h2
    · rename_i a q ha hq
      cases h2
      cases x with
      | inl j =>
        obtain ⟨z, zs', rfl, hz, h1⟩ := h1
        obtain ⟨vs, tm', at', i1, i2, i3, i4, _⟩ := ih h1 hq
        obtain ⟨w, w1, w2⟩ := args_at hA (show as[j]? = some a from ha)
        refine ⟨w :: vs, tmAt as ws j ++ tm', at', .cons ?_ i1, w2 i2, i3, ?_, fun j' r e => by cases e; exact ⟨w, vs, w1, rfl⟩⟩
        · obtain ⟨u, hu, r⟩ := hv.get w1
          rw [hz] at hu
          cases hu
          exact r
        · have : inls (Sum.inl j :: arr) = j :: inls arr := rfl
          rw [this, List.flatMap_cons]
          exact (i4.append_left _).trans (perm_mu (by simp only [mu_app]; ac_rfl))
      | inr d =>
        obtain ⟨z, zs', v, rfl, hz, hr, h1⟩ := h1
        obtain ⟨vs, tm', at', i1, i2, i3, i4, _⟩ := ih h1 hq
        cases ha
        refine ⟨v :: vs, (v, d) :: tm', (v, d) :: at', .cons hr i1, .tmp i2, fun H F => (den_atom hz).append (i3 H F), ?_, fun j r e => by cases e⟩
        exact i4.cons _
    · cases h2
theorem Agree.put {e : List (V × D)} {i : Nat} {v : V} {d : D} (a : Agree ca σ e) (h : σ[i]? = some (some v)) : Agree ca σ (e.set i (v, d)) := by
  refine ⟨by rw [List.length_set]; exact a.1, fun j w q hj hq => ?_, a.2.2⟩
  by_cases e1 : i = j
  · subst e1
    by_cases hl : i < e.length
    · rw [List.getElem?_set_self hl] at hj
      cases hj
      exact h
    · rw [List.getElem?_eq_none (by simpa using hl)] at hj; cases hj
  · rw [List.getElem?_set_ne e1] at hj
    exact a.2.1 j w q hj hq
theorem take_ok (keep : Nat → Bool) : ∀ {bs : List Arg} {vs : List V} {tm : List (V × D)}, ArgsR σ bs vs tm → ∀ {k : Nat} {ds η' : List D} {wb : List (Option Nat)} {e t : List (V × D)} {F : Hp}, takeArgs keep k bs (e.map Prod.snd) = some (ds, η', wb) → Agree ca σ e → Stt K ca H F (tm ++ (e ++ t)) →
    ∃ (F' : Hp) (e' : List (V × D)), Sub F F' ∧ e'.map Prod.snd = η' ∧ Agree ca σ e' ∧ Stt K ca H F' (vs.zip ds ++ (e' ++ t)) ∧ ds.length = bs.length ∧ wb.length = bs.length ∧ ∀ (j i : Nat), wb[j]? = some (some i) → ∃ v, vs[j]? = some v ∧ σ[i]? = some (some v) := by
  intro bs vs tm h
  induction h with
  | nil =>
    intro k ds η' wb e t F hh ag st
    cases hh
    exact ⟨F, e, Sub.refl F, rfl, ag, st, rfl, rfl, fun j i z => by simp at z⟩
  | @tmp v d as ws tm _ ih =>
    intro k ds η' wb e t F hh ag st
    unfold takeArgs at hh
    split at hh
    · rename_i ds1 η1 wb1 h1
      cases hh
      obtain ⟨F', e', s1, e1, ag1, st1, l1, l2, hw⟩ := ih (t := (v, d) :: t) h1 ag (st.perm (perm_mu (by simp only [mu_app, mu_c, List.cons_append]; ac_rfl)))
      refine ⟨F', e', s1, e1, ag1, st1.perm (perm_mu (by simp only [mu_app, mu_c, List.cons_append, List.zip_cons_cons]; ac_rfl)), by simp [l1], by simp [l2], fun j i z => ?_⟩
      cases j with
      | zero => simp at z
      | succ j => exact hw j i (by simpa using z)
    · cases hh
  | @slot i v as ws tm hi _ ih =>
    intro k ds η' wb e t F hh ag st
    unfold takeArgs at hh
    split at hh
    · cases hh
    · rename_i d hd
      obtain ⟨v', hv⟩ := map_get hd
      have hb : d.bound = true := by
        by_cases hb : d.bound = true
        · exact hb
        · rw [if_neg hb] at hh; cases hh
      rw [if_pos hb] at hh
      have ev : v' = v := by
        have := ag.get hv hb
        rw [hi] at this
        exact (Option.some.inj (Option.some.inj this)).symm
      subst ev
      have fin : ∀ {ds1 η1 : List D} {wb1 : List (Option Nat)} {e1 : List (V × D)} {F1 : Hp} {x : D}, takeArgs keep (k + 1) as (e1.map Prod.snd) = some (ds1, η1, wb1) → Agree ca σ e1 → Sub F F1 → Stt K ca H F1 ((v', x) :: (tm ++ (e1 ++ t))) →
          ∃ (F' : Hp) (e' : List (V × D)), Sub F F' ∧ e'.map Prod.snd = η1 ∧ Agree ca σ e' ∧ Stt K ca H F' ((v', x) :: (ws.zip ds1 ++ (e' ++ t))) ∧ ds1.length = as.length ∧ wb1.length = as.length ∧ ∀ (j i : Nat), wb1[j]? = some (some i) → ∃ v, ws[j]? = some v ∧ σ[i]? = some (some v) := by
        intro ds1 η1 wb1 e1 F1 x h1 ag1 sb1 st1
        obtain ⟨F', e', s1, e2, ag2, st2, l1, l2, hw⟩ := ih (t := (v', x) :: t) h1 ag1 (st1.perm (perm_mu (by simp only [mu_app, mu_c]; ac_rfl)))
        exact ⟨F', e', sb1.trans s1, e2, ag2, st2.perm (perm_mu (by simp only [mu_app, mu_c]; ac_rfl)), l1, l2, hw⟩
      have hmem : (v', d) ∈ tm ++ (e ++ t) := List.mem_append_right _ (List.mem_append_left _ (List.mem_of_getElem? hv))
      by_cases hs : d.still = true
      · rw [if_pos hs] at hh
        cases h1 : takeArgs keep (k + 1) as (e.map Prod.snd) with
        | none => rw [h1] at hh; cases hh
        | some r =>
          obtain ⟨ds1, η1, wb1⟩ := r
          rw [h1] at hh
          cases hh
          obtain ⟨B, hB⟩ := stt_mem st hmem
          have e0 : B = [] := hB.still (by simp [D.stillL, hs])
          subst e0
          obtain ⟨F', e', s1, e2, ag2, st2, l1, l2, hw⟩ := fin h1 ag (Sub.refl F) (st.add hB)
          refine ⟨F', e', s1, e2, ag2, st2, by simp [l1], by simp [l2], fun j i z => ?_⟩
          cases j with
          | zero => simp at z
          | succ j => exact hw j i (by simpa using z)
      · rw [if_neg hs] at hh
        by_cases hk : keep k = true
        · rw [if_pos hk] at hh
          have e3 : ((e.map Prod.snd).set i .unb) = (e.set i (v', .unb)).map Prod.snd := by rw [map_set]
          rw [e3] at hh
          cases h1 : takeArgs keep (k + 1) as ((e.set i (v', .unb)).map Prod.snd) with
          | none => rw [h1] at hh; cases hh
          | some r =>
            obtain ⟨ds1, η1, wb1⟩ := r
            rw [h1] at hh
            cases hh
            have st1 : Stt K ca H F ((v', d) :: (tm ++ (e.set i (v', .unb) ++ t))) := by
              have p1 : Stt K ca H F ((v', d) :: ((e.take i ++ e.drop (i + 1)) ++ (tm ++ t))) := st.perm ((perm_mu (by simp only [mu_app]; ac_rfl)).trans (slot_perm (t := tm ++ t) hv))
              have p2 : Stt K ca H F ((v', .unb) :: ((v', d) :: ((e.take i ++ e.drop (i + 1)) ++ (tm ++ t)))) := p1.add (.unb .nil)
              have q := slot_perm' (t := tm ++ t) (y := (v', .unb)) hv
              refine p2.perm ((List.Perm.swap _ _ _).trans ((q.cons _).trans ?_))
              exact perm_mu (by simp only [mu_app, mu_c]; ac_rfl)
            obtain ⟨F', e', s1, e2, ag2, st2, l1, l2, hw⟩ := fin h1 (ag.put hi) (Sub.refl F) st1
            refine ⟨F', e', s1, e2, ag2, st2, by simp [l1], by simp [l2], fun j i' z => ?_⟩
            cases j with
            | zero => simp at z; subst z; exact ⟨v', rfl, hi⟩
            | succ j => exact hw j i' (by simpa using z)
        · rw [if_neg hk] at hh
          have e3 : ((e.map Prod.snd).set i d.frz) = (e.set i (v', d.frz)).map Prod.snd := by rw [map_set]
          rw [e3] at hh
          cases h1 : takeArgs keep (k + 1) as ((e.set i (v', d.frz)).map Prod.snd) with
          | none => rw [h1] at hh; cases hh
          | some r =>
            obtain ⟨ds1, η1, wb1⟩ := r
            rw [h1] at hh
            cases hh
            obtain ⟨F1, sb1, st1, _⟩ := slot_frz (t := tm ++ t) (st.perm (perm_mu (by simp only [mu_app]; ac_rfl))) hv
            have hm : (v', d.frz) ∈ e.set i (v', d.frz) ++ (tm ++ t) := List.mem_append_left _ (List.mem_iff_getElem?.mpr ⟨i, List.getElem?_set_self (List.getElem?_eq_some_iff.mp hv).1⟩)
            obtain ⟨B, hB⟩ := stt_mem st1 hm
            have e0 : B = [] := hB.still (by simp [D.stillL, frz_still])
            subst e0
            have st3 : Stt K ca H F1 (tm ++ (e.set i (v', d.frz) ++ t)) := st1.perm (perm_mu (by simp only [mu_app]; ac_rfl))
            obtain ⟨F', e', s1, e2, ag2, st2, l1, l2, hw⟩ := fin h1 (ag.put hi) sb1 (st3.add hB)
            refine ⟨F', e', s1, e2, ag2, st2, by simp [l1], by simp [l2], fun j i' z => ?_⟩
            cases j with
            | zero => simp at z
            | succ j => exact hw j i' (by simpa using z)
theorem give_ok : ∀ {wb : List (Option Nat)} {ds : List D} {vs : List V} {e t : List (V × D)}, vs.length = ds.length → Agree ca σ e → Stt K ca H F (vs.zip ds ++ (e ++ t)) → (∀ (j i : Nat), wb[j]? = some (some i) → ∃ v, vs[j]? = some v ∧ σ[i]? = some (some v)) →
    ∃ e' : List (V × D), e'.map Prod.snd = giveBack wb ds (e.map Prod.snd) ∧ Agree ca σ e' ∧ Stt K ca H F (e' ++ t)
  | [], ds, vs, e, t, _, ag, st, _ => ⟨e, by cases ds <;> rfl, ag, Stt.right st⟩
  | x :: wb, [], vs, e, t, _, ag, st, _ => ⟨e, by cases x <;> rfl, ag, Stt.right st⟩
  | x :: wb, d :: ds, [], e, t, hl, _, _, _ => by simp at hl
  | none :: wb, d :: ds, v :: vs, e, t, hl, ag, st, hw => by
    have st' : Stt K ca H F (vs.zip ds ++ (e ++ t)) := Stt.tail (v := v) (d := d) st
    exact give_ok (wb := wb) (ds := ds) (vs := vs) (by simpa using hl) ag st' fun j i z => by
      obtain ⟨v', h1, h2⟩ := hw (j + 1) i (by simpa using z)
      exact ⟨v', by simpa using h1, h2⟩
  | some i :: wb, d :: ds, v :: vs, e, t, hl, ag, st, hw => by
    obtain ⟨v', h1, h2⟩ := hw 0 i rfl
    cases h1
    have st' : Stt K ca H F (vs.zip ds ++ (e.set i (v, d) ++ t)) := by
      by_cases hi : i < e.length
      · have hg := List.getElem?_eq_getElem hi
        generalize e[i] = p at hg
        obtain ⟨w, x⟩ := p
        have p1 : Stt K ca H F ((v, d) :: ((w, x) :: ((e.take i ++ e.drop (i + 1)) ++ (vs.zip ds ++ t)))) := by
          have q := slot_perm (t := vs.zip ds ++ t) hg
          refine (Stt.perm st ?_)
          refine List.Perm.trans ?_ (q.cons (v, d))
          exact perm_mu (by simp only [mu_app, mu_c, List.zip_cons_cons, List.cons_append]; ac_rfl)
        have p2 : Stt K ca H F ((v, d) :: ((e.take i ++ e.drop (i + 1)) ++ (vs.zip ds ++ t))) := Stt.tail (p1.perm (List.Perm.swap _ _ _))
        exact (p2.perm (slot_perm' (t := vs.zip ds ++ t) (y := (v, d)) hg)).perm (perm_mu (by simp only [mu_app]; ac_rfl))
      · rw [List.set_eq_of_length_le (by omega)]
        exact Stt.tail (v := v) (d := d) st
    obtain ⟨e', g1, g2, g3⟩ := give_ok (wb := wb) (ds := ds) (vs := vs) (by simpa using hl) (ag.put h2) st' fun j i z => by
      obtain ⟨v', h1, h2⟩ := hw (j + 1) i (by simpa using z)
      exact ⟨v', by simpa using h1, h2⟩
    refine ⟨e', ?_, g2, g3⟩
    rw [g1, map_set]
    rfl
end
end Z

set_option Elab.async false
set_option linter.all false
set_option maxRecDepth 100000
set_option maxHeartbeats 4000000
namespace Z
open PySem PySem.Spec PyProof.Rows L2
section
variable {X : Cx} {ca : Ca} {W : WX} {k n : Nat} {c : Cs} {H F : Hp} {σ : L2.St}
/-- what a call wants of the def's promise -/
theorem callF_ok {f : Fn} {sh : Shape} {as : List Arg} {ws : List V} {tm e t : List (V × D)} {uz zs : List Value} {Q : VK} (hA : ArgsR σ as ws tm) (hv : Vals ws uz) (hz : ArrV uz sh.arr zs) (hn : (inls sh.arr).Nodup) (ag : Agree ca σ e) (st : Stt X.K ca H F (tm ++ (e ++ t)))
    (hnp : zs.length = f.np) (hlen : (∀ ds d ds', f.run ds = some (.ret d ds') → ds'.length = f.np) ∧ ∀ ds x fs ds', f.run ds = some (.exc x fs ds') → ds'.length = f.np) (h : PostG X.K ca W σ t F (callF f sh as (e.map Prod.snd)) (pV X.K ca Q t)) :
    ∃ vs, Vals vs zs ∧ spF X.K ca f.np f.run vs H Q (fun cls d H' => W cls d σ H') := by
  unfold callF at h
  cases hp : pickAll as sh.arr with
  | none => rw [hp] at h; exact False.elim h
  | some bs =>
    rw [hp] at h
    simp only at h
    cases ht : takeArgs f.keep 0 bs (e.map Prod.snd) with
    | none => rw [ht] at h; exact False.elim h
    | some r =>
      obtain ⟨ds, η1, wb⟩ := r
      rw [ht] at h
      simp only at h
      obtain ⟨vs, tm', at', p1, p2, p3, p4, _⟩ := pick_ok (K := X.K) (ca := ca) hA hv hz hp
      obtain ⟨rest, pr⟩ := tms_all (inls sh.arr) as ws hn
      rw [← hA.tms] at pr
      have st1 : Stt X.K ca H F (tm' ++ (e ++ (rest ++ t))) := by
        refine (st.add (p3 H F)).perm ?_
        have q1 : (tm' ++ rest).Perm (at' ++ tm) := ((p4.append_right rest).trans (by rw [List.append_assoc]; exact (pr.symm.append_left at')))
        refine List.Perm.trans ?_ ((q1.symm.append_right (e ++ t)).trans ?_)
        · exact perm_mu (by simp only [mu_app]; ac_rfl)
        · exact perm_mu (by simp only [mu_app]; ac_rfl)
      obtain ⟨F', e', s1, e1, ag1, st2, l1, l2, hw⟩ := take_ok f.keep p2 ht ag st1
      subst e1
      have lv : vs.length = ds.length := by rw [l1, ← p2.len]
      have lz : vs.length = f.np := by rw [p1.length, hnp]
      refine ⟨vs, p1, lz, ds, e' ++ (rest ++ t), F', by rw [← lv, lz], st2, ?_⟩
      cases hr : f.run ds with
      | none => rw [hr] at h; exact False.elim h
      | some r =>
        rw [hr] at h
        cases r with
        | ret d ds' =>
          have ld := hlen.1 _ _ _ hr
          intro v H' F2 sb2 st3
          have st4 : Stt X.K ca H' F2 (vs.zip ds' ++ (e' ++ ((v, d) :: t))) := by
            have := st3.perm (l1 := rest ++ (vs.zip ds' ++ (e' ++ ((v, d) :: t)))) (perm_mu (by simp only [mu_app, mu_c]; ac_rfl))
            exact Stt.right this
          obtain ⟨e2, g1, g2, g3⟩ := give_ok (wb := wb) (by rw [lz, ld]) ag1 st4 hw
          exact h e2 H' F2 g1 g2 (s1.trans sb2) v (g3.perm (perm_mu (by simp only [mu_app, mu_c]; ac_rfl)))
        | exc x fs ds' =>
          have ld := hlen.2 _ _ _ _ hr
          intro dx H' F2 sb2 hx st3
          have st4 : Stt X.K ca H' F2 (vs.zip ds' ++ (e' ++ t)) := by
            have := st3.perm (l1 := rest ++ (vs.zip ds' ++ (e' ++ t))) (perm_mu (by simp only [mu_app, mu_c]; ac_rfl))
            exact Stt.right this
          obtain ⟨e2, g1, g2, g3⟩ := give_ok (wb := wb) (by rw [lz, ld]) ag1 st4 hw
          exact h dx e2 H' F2 g1 g2 (s1.trans sb2) hx g3
theorem kws_of {kws : List Keyword} {ks : List Str} {pos : Pos} {env : Env} (h : kwNames kws = some ks) : (backToKw pos (keywordEach kws env)).all (·.1.isSome) = true ∧ (backToKw pos (keywordEach kws env)).filterMap (·.1) = ks ∧ (backToKw pos (keywordEach kws env)).any (·.1.isNone) = false ∧ kws.length = ks.length := by
  induction kws generalizing ks with
  | nil => cases h; exact ⟨rfl, rfl, rfl, rfl⟩
  | cons q r ih =>
    obtain ⟨a, v, kp⟩ := q
    unfold kwNames at h
    cases a with
    | none => cases h
    | some x =>
      cases hr : kwNames r with
      | none => rw [hr] at h; cases h
      | some q =>
        rw [hr] at h
        cases h
        obtain ⟨h1, h2, h3, h4⟩ := ih hr
        refine ⟨?_, ?_, ?_, by simp [h4]⟩
        · show ((some x).isSome && (backToKw pos (keywordEach r env)).all (·.1.isSome)) = true
          rw [h1]; rfl
        · show x :: (backToKw pos (keywordEach r env)).filterMap (·.1) = _
          rw [h2]
        · show ((some x).isNone || (backToKw pos (keywordEach r env)).any (·.1.isNone)) = false
          rw [h3]; rfl
theorem snd_kws {f : Expr → M Arg} (hf : ∀ e, PE X e (tAr X.K ca W (f e))) : ∀ {kws : List Keyword}, PK X kws (tAs X.K ca W (seqM f (kws.map (·.value))))
  | [] => ⟨fun pos pins s σ H Q I ⟨e, t, F, ag, st, h⟩ => pk_nil.run pos pins s σ H Q I (h e H F rfl ag (Sub.refl F) [] [] .nil st)⟩
  | ⟨nm, a, kp⟩ :: r => by
    refine ⟨fun pos pins s σ H Q I ⟨e, t, F, ag, st, h⟩ => (pk_cons (nm := nm) (kpos := kp) (hf a) (snd_kws hf)).run pos pins s σ H Q I ?_⟩
    refine ⟨e, t, F, ag, st, (PostG.bind h).imp (fun _ _ _ z => z) fun x e1 H1 F1 sb1 ag1 hx ws tm ha st1 => ?_⟩
    have hl := ha.len
    cases ws with
    | nil => simp at hl
    | cons v ws =>
      cases ws with
      | cons _ _ => simp at hl
      | nil =>
        refine ⟨v, rfl, e1, tm ++ t, F1, ag1, ?_, (PostG.bind hx).imp (fun H F e z => ?_) fun ys e2 H2 F2 sb2 ag2 hy us tn hb st2 => ?_⟩
        · exact st1.perm (perm_mu (by simp only [mu_app]; ac_rfl))
        · exact Stt.right (l1 := tm) (z.perm (perm_mu (by simp only [mu_app]; ac_rfl)))
        · refine hy e2 H2 F2 rfl ag2 (Sub.refl F2) (v :: us) (tm ++ tn) (ha.app hb) (st2.perm ?_)
          exact perm_mu (by simp only [mu_app]; ac_rfl)
theorem vals_app {a b : List V} {x y : List Value} (h : Vals a x) (h2 : Vals b y) : Vals (a ++ b) (x ++ y) := h.append h2
/-- arguments by place and by name, then whatever is done with them -/
theorem PostG.eqn {α : Type} {t : List (V × D)} {r : Option (R α)} {P : α → List (V × D) → Hp → Hp → Prop} (h : PostG X.K ca W σ t F r P) : PostG X.K ca W σ t F r (fun a e H F => (∃ η, r = some (.ok a η)) ∧ P a e H F) := by
  cases r with
  | none => exact h
  | some r => cases r with
    | exc _ _ _ => exact h
    | ok a η => exact fun e' H' F' he ag sb => ⟨⟨η, rfl⟩, h e' H' F' he ag sb⟩
theorem with_args {es : List Expr} {kws : List Keyword} {ks : List Str} {pos : Pos} {f : Value} {first : List Value} {pins : List (Addr × Obj)} {s : Shared} {e t tms : List (V × D)} {β : Type} {Qv : Value → Shared → Prop} (S : Snd ca k n) (C : CtxOk X ca k c) (tk : Takes X W) (hk : PySem.W.keepIn X.K f = true)
    (hs : es.any isStar = false) (hkw : kwNames kws = some ks) {g : List Arg → M β} {P : β → List (V × D) → Hp → Hp → Prop} (I : Inv X pins σ H s) (ag : Agree ca σ e) (st : Stt X.K ca H F (e ++ (tms ++ t)))
    (h : PostG X.K ca W σ t F (mBind (seqM (evA c n) es) (fun as => mBind (seqM (evA c n) (kws.map (·.value))) fun zs => g (as ++ zs)) (e.map Prod.snd)) P)
    (hq : ∀ (s2 : Shared) (H2 F2 : Hp) (e2 tm : List (V × D)) (as : List Arg) (ws : List V) (us kvs : List Value), Inv X pins σ H2 s2 → Agree ca σ e2 → Sub F F2 → Stt X.K ca H2 F2 (tm ++ (e2 ++ (tms ++ t))) → ArgsR σ as ws tm → Vals ws (us ++ kvs) → us.length = es.length → kvs.length = ks.length →
      PostG X.K ca W σ t F2 (g as (e2.map Prod.snd)) P → wpAny (model X.prog X.w) X.A (call f (first ++ us) (ks.zip kvs)) Qv X.xe s2) :
    wpAny (model X.prog X.w) X.A (callWith pos f first (backTo pos (starEach es X.env)) (backToKw pos (keywordEach kws X.env))) Qv X.xe s := by
  obtain ⟨k1, k2, k3, k4⟩ := kws_of (pos := pos) (env := X.env) hkw
  have hA : ∀ e, PE X e (tAr X.K ca W (evA c n e)) := fun e => S.A X c W e C tk
  have fin : ∀ (us : List Value) (vs : List V) (H1 : Hp), Vals vs us → us.length = es.length → (∃ (e1 tm : List (V × D)) (F1 : Hp) (as : List Arg), Agree ca σ e1 ∧ Sub F F1 ∧ ArgsR σ as vs tm ∧ Stt X.K ca H1 F1 (tm ++ (e1 ++ (tms ++ t))) ∧ PostG X.K ca W σ t F1 (mBind (seqM (evA c n) (kws.map (·.value))) (fun zs => g (as ++ zs)) (e1.map Prod.snd)) P) →
      (tAs X.K ca W (seqM (evA c n) (kws.map (·.value)))) σ H1 fun zs H2 => zs.length = ks.length ∧ ∀ s2 kvs, Inv X pins σ H2 s2 → Vals zs kvs → wpAny (model X.prog X.w) X.A (call f (first ++ us) (ks.zip kvs)) Qv X.xe s2 := by
    intro us vs H1 rv lu ⟨e1, tm, F1, as, ag1, sb1, ha, st1, h1⟩
    refine ⟨e1, tm ++ (tms ++ t), F1, ag1, st1.perm (perm_mu (by simp only [mu_app]; ac_rfl)), ((PostG.bind h1).eqn).imp (fun H F e z => ?_) fun zs e2 H2 F2 sb2 ag2 ⟨⟨η2, hr⟩, hz⟩ ws tn hb st2 => ?_⟩
    · exact Stt.right (l1 := tm ++ tms) (z.perm (perm_mu (by simp only [mu_app]; ac_rfl)))
    · have lz : ws.length = ks.length := by rw [← hb.len, seq_len hr, List.length_map, k4]
      refine ⟨lz, fun s2 kvs I2 rk => ?_⟩
      exact hq s2 H2 F2 e2 (tm ++ tn) (as ++ zs) (vs ++ ws) us kvs I2 ag2 (sb1.trans sb2) (st2.perm (perm_mu (by simp only [mu_app]; ac_rfl))) (ha.app hb) (rv.append rk) lu (by rw [← rk.length, lz]) hz
  cases es with
  | nil =>
    refine PySem.W.callWith_KW0 (h₀ := X.base) I.ok.mod.kin hk k1 (thn ((snd_kws hA).run pos pins s σ H _ I (fin [] [] H .nil rfl ⟨e, [], F, [], ag, Sub.refl F, .nil, st, h⟩)) fun kvs s2 ⟨zs, H2, I2, rk, lz, q⟩ => ⟨I2.kIn, ?_⟩) (by rw [k3]; rfl)
    rw [k2]
    exact q s2 kvs I2 rk
  | cons a r =>
    have hs' : isStar a = false ∧ r.any isStar = false := by simpa [List.any_cons, Bool.or_eq_false_iff] using hs
    refine PySem.W.callWith_KW (h₀ := X.base) I.ok.mod.kin hk k1 ?_ (by rw [nostar hs, k3]; rfl) (star_of hs'.1)
    refine thn ((snd_args hA hs).run pos pins s σ H (fun vs H1 => vs.length = (a :: r).length ∧ ∃ (e1 tm : List (V × D)) (F1 : Hp) (as : List Arg), Agree ca σ e1 ∧ Sub F F1 ∧ ArgsR σ as vs tm ∧ Stt X.K ca H1 F1 (tm ++ (e1 ++ (tms ++ t))) ∧ PostG X.K ca W σ t F1 (mBind (seqM (evA c n) (kws.map (·.value))) (fun zs => g (as ++ zs)) (e1.map Prod.snd)) P) I ?_) fun us s1 ⟨vs, H1, I1, rv, lv, q⟩ => ?_
    · refine ⟨e, tms ++ t, F, ag, st, ((PostG.bind h).eqn).imp (fun H F e z => Stt.right (l1 := tms) (z.perm (perm_mu (by simp only [mu_app]; ac_rfl)))) fun as e1 H1 F1 sb1 ag1 ⟨⟨η1, hr⟩, hx⟩ ws tm ha st1 => ?_⟩
      exact ⟨by rw [← ha.len, seq_len hr], e1, tm, F1, as, ag1, sb1, ha, st1, hx⟩
    · refine thn ((snd_kws hA).run pos pins s1 σ H1 _ I1 (fin us vs H1 rv (by rw [← rv.length, lv]) q)) fun kvs s2 ⟨zs, H2, I2, rk, lz, q2⟩ => ⟨I2.kIn, ?_⟩
      rw [k2]
      exact q2 s2 kvs I2 rk
/-- a def is called -/
theorem snd_fn (S : Snd ca k n) (C : CtxOk X ca k c) (tk : Takes X W) {f : Str} {fn : Fn} {sh : Shape} {es : List Expr} {kws : List Keyword} {ks : List Str} {p pos : Pos} (hcur : c.cur = none) (hf : c.isFn f = some fn) (hs : es.any isStar = false) (hkw : kwNames kws = some ks) (hsh : findShape es.length ks fn.shapes = some sh) :
    PE X (.Call (.Name f p) es kws pos) (tM X.K ca W (mBind (seqM (evA c n) es) fun as => mBind (seqM (evA c n) (kws.map (·.value))) fun zs => callF fn sh (as ++ zs))) := by
  unfold Cs.isFn at hf
  split at hf
  · rename_i hg
    split at hf
    · rename_i fn' hv
      cases hf
      obtain ⟨g1, g2, g3⟩ := glob_of C hg
      obtain ⟨fa, hm, FF⟩ := C.gfn hcur _ _ hv
      obtain ⟨fd, ps, lps, Fk, hshape⟩ := FF.ok
      obtain ⟨h1, h2, h3⟩ := findShape_ok hsh
      have SO := hshape sh h1
      refine ⟨fun pins s σ H Q I ⟨e, t, F, ag, st, h⟩ => ?_⟩
      refine wpAny_Call_Name_kw (ld_glob I g1 hm ?_ g2)
      refine with_args (first := []) (tms := []) S C tk FF.kp hs hkw I ag st h fun s2 H2 F2 e2 tm as ws us kvs I2 ag2 sb2 st2 ha rv lu lk hp => ?_
      obtain ⟨zs, a1, a2, a3⟩ := SO.to s2 us kvs I2.kIn (by rw [lu, h2]) (by rw [lk, h3])
      obtain ⟨vs, r1, r2⟩ := callF_ok ha rv a1 SO.once ag2 st2 (by rw [a2, lps]) ⟨FF.len, FF.len2⟩ hp
      rw [h3] at a3
      exact run_G Fk (C.room hcur) tk I2 a3 r1 r2
    · cases hf
  · cases hf
end
end Z

set_option Elab.async false
set_option linter.all false
set_option maxRecDepth 100000
set_option maxHeartbeats 4000000
namespace Z
open PySem PySem.Spec PyProof.Rows L2
section
variable {X : Cx} {ca : Ca} {W : WX} {k n : Nat} {c : Cs} {H F : Hp} {σ : L2.St}
theorem takeArgs_head {x : Str} {as bs : List Arg} {arr : List (Nat ⊕ D)} {keep : Nat → Bool} {d : D} {η ds η1 : List D} {wb : List (Option Nat)} (hp : pickAll (.tmp d :: as) arr = some bs) (ht : takeArgs keep 0 bs η = some (ds, η1, wb)) (hh : headSelf arr = true) : wb[0]? = some none := by
  unfold headSelf at hh
  split at hh
  · unfold pickAll at hp
    split at hp
    · rename_i a q ha hq
      cases hp
      cases ha
      unfold takeArgs at ht
      split at ht
      · cases ht; rfl
      · cases ht
    · cases hp
  · cases hh
theorem callC_ok {x : Str} {f : Fn} {sh : Shape} {as : List Arg} {ws : List V} {tm e t : List (V × D)} {uz zs : List Value} {Q : VK} {xr : Addr} (hA : ArgsR σ as ws tm) (hv : Vals (.ref xr :: ws) uz) (hz : ArrV uz sh.arr zs) (hn : (inls sh.arr).Nodup) (ag : Agree ca σ e)
    (st : Stt X.K ca H F (((.ref xr, .node (.obj x []) true []) :: tm) ++ (e ++ t)))
    (hnp : zs.length = f.np) (hlen : (∀ ds d ds', f.run ds = some (.ret d ds') → ds'.length = f.np) ∧ ∀ ds x fs ds', f.run ds = some (.exc x fs ds') → ds'.length = f.np) (h : PostG X.K ca W σ t F (callC x f sh as (e.map Prod.snd)) (pV X.K ca Q t)) :
    ∃ vs, Vals vs zs ∧ spF X.K ca f.np f.run vs H (fun v H2 => v = .non ∧ Q (.ref xr) H2) (fun cls d H' => W cls d σ H') := by
  unfold callC at h
  have hc : headSelf sh.arr = true ∧ f.keep 0 = true := by
    by_cases hc : headSelf sh.arr = true ∧ f.keep 0 = true
    · exact hc
    · rw [if_neg hc] at h; exact False.elim h
  rw [if_pos hc] at h
  have hA' : ArgsR σ (.tmp (.node (.obj x []) true []) :: as) (.ref xr :: ws) ((.ref xr, .node (.obj x []) true []) :: tm) := .tmp hA
  cases hp : pickAll (.tmp (.node (.obj x []) true []) :: as) sh.arr with
  | none => rw [hp] at h; exact False.elim h
  | some bs =>
    rw [hp] at h
    simp only at h
    cases ht : takeArgs f.keep 0 bs (e.map Prod.snd) with
    | none => rw [ht] at h; exact False.elim h
    | some r =>
      obtain ⟨ds, η1, wb⟩ := r
      rw [ht] at h
      simp only at h
      obtain ⟨vs, tm', at', p1, p2, p3, p4, p5⟩ := pick_ok (K := X.K) (ca := ca) hA' hv hz hp
      have hhead : ∃ vs', vs = .ref xr :: vs' := by
        have hh := hc.1
        unfold headSelf at hh
        split at hh
        · rename_i r e0
          obtain ⟨w, vs', h1, h2⟩ := p5 _ _ e0
          cases h1
          exact ⟨vs', h2⟩
        · cases hh
      obtain ⟨rest, pr⟩ := tms_all (inls sh.arr) (.tmp (.node (.obj x []) true []) :: as) (.ref xr :: ws) hn
      rw [← hA'.tms] at pr
      have st1 : Stt X.K ca H F (tm' ++ (e ++ (rest ++ t))) := by
        refine (st.add (p3 H F)).perm ?_
        have q1 : (tm' ++ rest).Perm (at' ++ ((.ref xr, .node (.obj x []) true []) :: tm)) := ((p4.append_right rest).trans (by rw [List.append_assoc]; exact (pr.symm.append_left at')))
        refine List.Perm.trans ?_ ((q1.symm.append_right (e ++ t)).trans ?_)
        · exact perm_mu (by simp only [mu_app]; ac_rfl)
        · exact perm_mu (by simp only [mu_app]; ac_rfl)
      obtain ⟨F', e', s1, e1, ag1, st2, l1, l2, hw⟩ := take_ok f.keep p2 ht ag st1
      subst e1
      have lv : vs.length = ds.length := by rw [l1, ← p2.len]
      have lz : vs.length = f.np := by rw [p1.length, hnp]
      refine ⟨vs, p1, lz, ds, e' ++ (rest ++ t), F', by rw [← lv, lz], st2, ?_⟩
      cases hr : f.run ds with
      | none => rw [hr] at h; exact False.elim h
      | some r =>
        rw [hr] at h
        cases r with
        | ret d ds' =>
          have ld := hlen.1 _ _ _ hr
          intro v H' F2 sb2 st3
          cases d with
          | non =>
            cases ds' with
            | nil => exact False.elim h
            | cons self ds' =>
              obtain ⟨vs', rfl⟩ := hhead
              simp only at h
              obtain ⟨Bv, hBv⟩ := st3.den
              refine ⟨den_non hBv, ?_⟩
              have st3' := st3.tail
              -- the pairs of the parameters, the instance's own kept as a temporary
              have st4 : Stt X.K ca H' F2 ((V.ref xr, self) :: (vs'.zip ds' ++ (e' ++ t))) := by
                have := st3'.perm (l1 := rest ++ ((V.ref xr, self) :: (vs'.zip ds' ++ (e' ++ t)))) (perm_mu (by simp only [mu_app, mu_c, List.zip_cons_cons, List.cons_append]; ac_rfl))
                exact Stt.right this
              have hw0 : ∀ i, wb[0]? ≠ some (some i) := fun i z => by
                have := takeArgs_head (x := x) hp ht hc.1
                rw [this] at z
                cases z
              cases wb with
              | nil =>
                have st5 : Stt X.K ca H' F2 ((V.ref xr, self) :: (e' ++ t)) := by
                  have := st4.perm (l1 := vs'.zip ds' ++ ((V.ref xr, self) :: (e' ++ t))) (perm_mu (by simp only [mu_app, mu_c]; ac_rfl))
                  exact Stt.right this
                exact h e' H' F2 (by simp [giveBack]) ag1 (s1.trans sb2) _ st5
              | cons w0 wb =>
                cases w0 with
                | some i => exact absurd rfl (hw0 i)
                | none =>
                  obtain ⟨e2, g1, g2, g3⟩ := give_ok (wb := wb) (ds := ds') (vs := vs') (t := (V.ref xr, self) :: t) (by have := lz; simp at this ld; omega) ag1 (st4.perm (perm_mu (by simp only [mu_app, mu_c]; ac_rfl))) fun j i z => by
                    obtain ⟨v', h1, h2⟩ := hw (j + 1) i (by simpa using z)
                    exact ⟨v', by simpa using h1, h2⟩
                  exact h e2 H' F2 (by rw [g1]; rfl) g2 (s1.trans sb2) _ (g3.perm (perm_mu (by simp only [mu_app, mu_c]; ac_rfl)))
          | _ => exact False.elim h
        | exc y fs ds' =>
          have ld := hlen.2 _ _ _ _ hr
          intro dx H' F2 sb2 hx st3
          have st4 : Stt X.K ca H' F2 (vs.zip ds' ++ (e' ++ t)) := by
            have := st3.perm (l1 := rest ++ (vs.zip ds' ++ (e' ++ t))) (perm_mu (by simp only [mu_app, mu_c]; ac_rfl))
            exact Stt.right this
          obtain ⟨e2, g1, g2, g3⟩ := give_ok (wb := wb) (by rw [lz, ld]) ag1 st4 hw
          exact h dx e2 H' F2 g1 g2 (s1.trans sb2) hx g3
theorem run_C {pins : List (Addr × Obj)} {s : Shared} {Q : VK} {kk : Nat} {fi Cc : Addr} {fd : FuncData} {ps ks : List Str} {sp : Sp} {us kvs : List Value} (M : Mk X.K Cc fi) (Fk : FnOk X.prog X.w X.K X.mg X.base (L2.CX X.prog X.w) kk fi fd ps sp) (hr : Room (kk + 1) X.A) (tk : Takes X W) (I : Inv X pins σ H s)
    (h : ∀ (x dx : Addr) (s' : Shared), H x = none → H dx = none → dx ≠ x → x = s.heap.objs.size + 1 → X.K.In s'.heap → ∃ zs vs, BindsTo s' fd ⟨.ref x :: us, ks.zip kvs⟩ (ps.zip zs) ∧ Vals vs zs ∧ sp vs (upd (upd H dx (.own x)) x (.ins Cc dx [])) (fun v H2 => v = .non ∧ Q (.ref x) H2) (fun cls d H' => W cls d σ H')) :
    wpAny (model X.prog X.w) X.A (call (.ref Cc) us (ks.zip kvs)) (EP X pins σ Q) X.xe s := by
  have J := Inv.made (C := Cc) I
  have f1 : H (s.heap.objs.size + 1) = none := I.hok.fresh (Nat.le_succ _)
  have f2 : H s.heap.objs.size = none := I.hok.fresh (Nat.le_refl _)
  obtain ⟨zs, vs, hb, rv, hsp⟩ := h (s.heap.objs.size + 1) s.heap.objs.size _ f1 f2 (Nat.ne_of_lt (Nat.lt_succ_self _)) rfl J.kIn
  refine wpAny_call (make_map (f := fi) I.kIn M.makes M.init (beq_iff_eq.mp M.fn) (codeAny_mono (Fk.run _ X.stack _ _ _ zs vs _ _ (hr.make Cc us _) (J.env0.make Cc us _) hb rv hsp) fun r s' hq => ?_))
  cases r with
  | error e => exact passAt tk σ pins _ _ e s' J hq
  | ok fl => cases fl with
    | ret u =>
      obtain ⟨v, H', J2, rv', ev, q⟩ := J.after hq
      subst ev
      exact ⟨rv', ⟨V.ref (s.heap.objs.size + 1), H', J2, rfl, q⟩⟩
    | next => exact False.elim hq
    | brk => exact False.elim hq
    | cont => exact False.elim hq
theorem snd_cl (S : Snd ca k n) (C : CtxOk X ca k c) (tk : Takes X W) {f : Str} {cl : Cl} {fn : Fn} {sh : Shape} {es : List Expr} {kws : List Keyword} {ks : List Str} {p pos : Pos} (hcur : c.cur = none) (hf : c.isCl f = some cl) (hex : cl.exc = none) (hin : cl.init = some fn) (hs : es.any isStar = false) (hkw : kwNames kws = some ks)
    (hsh : findShape (es.length + 1) ks fn.shapes = some sh) : PE X (.Call (.Name f p) es kws pos) (tM X.K ca W (mBind (seqM (evA c n) es) fun as => mBind (seqM (evA c n) (kws.map (·.value))) fun zs => callC f fn sh (as ++ zs))) := by
  unfold Cs.isCl at hf
  split at hf
  · rename_i hg
    split at hf
    · rename_i cl' hv
      cases hf
      obtain ⟨g1, g2, g3⟩ := glob_of C hg
      obtain ⟨fa, kk, M, hkk, FF⟩ := C.ginit hcur _ _ _ hv hex hin
      obtain ⟨fd, ps, lps, Fk, hshape⟩ := FF.ok
      obtain ⟨h1, h2, h3⟩ := findShape_ok hsh
      have SO := hshape sh h1
      refine ⟨fun pins s σ H Q I ⟨e, t, F, ag, st, h⟩ => ?_⟩
      refine wpAny_Call_Name_kw (ld_glob I g1 (C.gcl _ _ hv).at_ ?_ g2)
      refine with_args (first := []) (tms := []) S C tk M.kp hs hkw I ag st h fun s2 H2 F2 e2 tm as ws us kvs I2 ag2 sb2 st2 ha rv lu lk hp => ?_
      refine run_C M Fk ((C.room hcur).mono hkk) tk I2 fun x dx s' hx hdx hne ex kin => ?_
      obtain ⟨zs, a1, a2, a3⟩ := SO.to s' (.ref x :: us) kvs kin (by simp [lu, h2]) (by rw [lk, h3])
      have st3 : Stt X.K ca (upd (upd H2 dx (.own x)) x (.ins (ca.at_ f) dx [])) F2 (((.ref x, .node (.obj f []) true []) :: tm) ++ (e2 ++ t)) := by
        have q1 := st2.laid (o := .own x) hdx
        exact Stt.alloc (k := .obj f []) (ps := []) q1 (by rw [upd_ne (fun e => hne e.symm)]; exact hx) ⟨rfl, dx, upd_same⟩
      obtain ⟨vs, r1, r2⟩ := callC_ok ha (show Vals (.ref x :: ws) (.ref x :: us ++ kvs) from .cons rfl rv) a1 SO.once ag2 st3 (by rw [a2, lps]) ⟨FF.len, FF.len2⟩ hp
      rw [h3] at a3
      exact ⟨zs, vs, a3, r1, r2⟩
    · cases hf
  · cases hf
end
end Z

set_option Elab.async false
set_option linter.all false
set_option maxRecDepth 100000
set_option maxHeartbeats 4000000
namespace Z
open PySem PySem.Spec PyProof.Rows L2
section
variable {X : Cx} {ca : Ca} {W : WX} {k n : Nat} {c : Cs} {H F : Hp} {σ : L2.St}
theorem base_ok {o : Expr} {m : Str} {env : Env} (h : okBase o = true) : attributeBase o m env (eval o env) = eval o env := by
  by_cases hc : ∃ id p pos, o = .Call (.Name id p) [] [] pos
  · obtain ⟨id, p, pos, rfl⟩ := hc
    exact abase_call h
  · exact abase_of fun id p pos e => hc ⟨id, p, pos, e⟩
theorem form_ok {es : List Expr} {kws : List Keyword} {ks : List Str} {pos : Pos} {env : Env} (hs : es.any isStar = false) (hk : kwNames kws = some ks) (hl : es.length + kws.length < 29) : methodCallForm (es.length + kws.length) (backTo pos (starEach es env)) (backToKw pos (keywordEach kws env)) = true := by
  unfold methodCallForm
  have h1 : (backTo pos (starEach es env)).all (!·.1) = true := by
    have := nostar (env := env) (pos := pos) hs
    rw [List.any_eq_false] at this
    rw [List.all_eq_true]
    intro x hx
    simpa using this x hx
  have h2 := (kws_of (pos := pos) (env := env) hk).1
  rw [h1, h2]
  simp only [Bool.and_true, Bool.true_and, decide_eq_true_eq]
  split <;> omega
/-- a method of an own object -/
theorem meth_run {o : Expr} {m : Str} {apos pos : Pos} {es : List Expr} {kws : List Keyword} {ks : List Str} {pins : List (Addr × Obj)} {s : Shared} {Q : Value → Shared → Prop} {te : TE} (he : PE X o te) (I : Inv X pins σ H s) (hb : okBase o = true) (hs : es.any isStar = false) (hk : kwNames kws = some ks) (hl : es.length + kws.length < 29) (hline : (apos.endLine == pos.line) = true)
    (h : te σ H fun x H1 => ∃ a Cc dx fs g, x = .ref a ∧ H1 a = some (.ins Cc dx fs) ∧ Cls X.K Cc ∧ Meth X.K Cc m g ∧ fs.lookup m = none ∧
      ∀ s1, Inv X pins σ H1 s1 → wpAny (model X.prog X.w) X.A (callWith pos (.ref g) [.ref a] (backTo pos (starEach es X.env)) (backToKw pos (keywordEach kws X.env))) Q X.xe s1) :
    wpAny (model X.prog X.w) X.A (eval (.Call (.Attribute o m apos) es kws pos) X.env) Q X.xe s := by
  have ht : eval (.Call (.Attribute o m apos) es kws pos) X.env = (do
      let ov ← eval o X.env
      standAt apos.atName
      let (f, first) ← holding [ov] (getMethod ov m (plainOf o X.env))
      callWith pos f first (backTo pos (starEach es X.env)) (backToKw pos (keywordEach kws X.env))) := mcall_of (base_ok hb) fun ov => mcall_line (form_ok hs hk hl) hline
  refine PySem.W.methodCall_KW (pl := plainOf o X.env) (thn (he.run pins s σ H _ I h) fun u s1 ⟨x, H1, I1, rx, a, Cc, dx, fs, g, ex, ea, cl, mt, lk, q⟩ => ?_) ht
  subst ex
  obtain rfl : u = Value.ref a := rx
  exact getmeth_ok I1 ea cl mt lk (q s1 I1)
theorem look_none : ∀ {fs : List Str} {ws : List V} {m : Str}, fs.contains m = false → (fs.zip ws).lookup m = none
  | [], _, _, _ => rfl
  | f :: fs, [], _, _ => rfl
  | f :: fs, w :: ws, m, h => by
    rw [List.contains_cons, Bool.or_eq_false_iff] at h
    rw [List.zip_cons_cons, List.lookup_cons, h.1]
    exact look_none h.2
theorem methOf_ok (C : CtxOk X ca k c) (hcur : c.cur = none) {x m : Str} {fs : List Str} {fn : Fn} (h : c.methOf x m fs = some fn) : Cls X.K (ca.at_ x) ∧ fs.contains m = false ∧ ∃ fa, Meth X.K (ca.at_ x) m fa ∧ FnFact X ca k fa fn := by
  unfold Cs.methOf at h
  split at h
  · rename_i cl hc
    split at h
    · cases h
    · rename_i hn
      simp only [Bool.or_eq_true, not_or, Bool.not_eq_true] at hn
      have hex : cl.exc = none := by simpa using hn.2
      exact ⟨((C.gcl _ _ hc).cls hex).1, hn.1, C.gmeth hcur _ _ _ _ hc hex h⟩
  · cases h
/-- the call behind the method's own look -/
theorem meth_call (S : Snd ca k n) (C : CtxOk X ca k c) (tk : Takes X W) (hcur : c.cur = none) {x m : Str} {fs : List Str} {fn : Fn} {sh : Shape} {es : List Expr} {kws : List Keyword} {ks : List Str} {pos : Pos} {pins : List (Addr × Obj)} {s : Shared} {e t : List (V × D)} {Q : VK} {a fa : Addr} {sa : Arg} {tms : List (V × D)}
    (FF : FnFact X ca k fa fn) (hs : es.any isStar = false) (hkw : kwNames kws = some ks) (hsh : findShape (es.length + 1) ks fn.shapes = some sh) (I : Inv X pins σ H s) (ag : Agree ca σ e) (st : Stt X.K ca H F (e ++ (tms ++ t))) (hsa : ∀ {as ws tm}, ArgsR σ as ws tm → ArgsR σ (sa :: as) (.ref a :: ws) (tms ++ tm))
    (h : PostG X.K ca W σ t F (mBind (seqM (evA c n) es) (fun as => mBind (seqM (evA c n) (kws.map (·.value))) fun zs => callF fn sh (sa :: (as ++ zs))) (e.map Prod.snd)) (pV X.K ca Q t)) :
    wpAny (model X.prog X.w) X.A (callWith pos (.ref fa) [.ref a] (backTo pos (starEach es X.env)) (backToKw pos (keywordEach kws X.env))) (EP X pins σ Q) X.xe s := by
  obtain ⟨fd, ps, lps, Fk, hshape⟩ := FF.ok
  obtain ⟨h1, h2, h3⟩ := findShape_ok hsh
  have SO := hshape sh h1
  refine with_args (first := [.ref a]) (g := fun as => callF fn sh (sa :: as)) (tms := tms) S C tk FF.kp hs hkw I ag st h fun s2 H2 F2 e2 tm as ws us kvs I2 ag2 sb2 st2 ha rv lu lk hp => ?_
  obtain ⟨zs, a1, a2, a3⟩ := SO.to s2 (.ref a :: us) kvs I2.kIn (by simp [lu, h2]) (by rw [lk, h3])
  obtain ⟨vs, r1, r2⟩ := callF_ok (hsa ha) (show Vals (.ref a :: ws) (.ref a :: us ++ kvs) from .cons rfl rv) a1 SO.once ag2 (t := t) (st2.perm (perm_mu (by simp only [mu_app]; ac_rfl))) (by rw [a2, lps]) ⟨FF.len, FF.len2⟩ hp
  rw [h3] at a3
  exact run_G Fk (C.room hcur) tk I2 a3 r1 r2
end
end Z

set_option Elab.async false
set_option linter.all false
set_option maxRecDepth 100000
set_option maxHeartbeats 4000000
namespace Z
open PySem PySem.Spec PyProof.Rows L2
section
variable {X : Cx} {ca : Ca} {W : WX} {k n : Nat} {c : Cs} {H F : Hp} {σ : L2.St}
theorem evP_nil {o : Expr} {η : List D} {i : Nat} {d : D} (h : evP c n o η = some (i, [], d)) : ∃ x pos, o = .Name x pos ∧ c.slot x = some i ∧ η[i]? = some d ∧ d.bound = true := by
  cases n with
  | zero => cases h
  | succ n =>
    cases o with
    | Name x pos =>
      simp only [evP] at h
      split at h
      · split at h
        · split at h
          · cases h; exact ⟨x, pos, rfl, by assumption, by assumption, by assumption⟩
          · cases h
        · cases h
      · cases h
    | Subscript a b pos =>
      simp only [evP] at h
      split at h
      · cases h
      · split at h
        · split at h
          · cases h
          · split at h
            · split at h
              · injection h with h; injection h with _ h; injection h with h _; simp at h
              · cases h
            · cases h
        · cases h
    | Attribute a f pos =>
      simp only [evP] at h
      split at h
      · split at h
        · split at h
          · split at h
            · injection h with h; injection h with _ h; injection h with h _; simp at h
            · cases h
          · cases h
        · cases h
      · cases h
    | _ => cases h
/-- a list's method at work: m's own rule holds -/
theorem methL_app {v0 : V} {d0 d : D} {p : List Nat} {a : Addr} {xs xs' vs : List D} {ps l : List (V × D)} {Q : VK} (st : Stt X.K ca H F (ps ++ (v0, d0) :: l)) (hp : PathV X.K ca H F v0 d0 p (.ref a) (.node .lst true xs)) (hv : ps.map Prod.snd = vs)
    (h : methL "append" xs vs = some (d, xs')) (q : ∀ w H', Stt X.K ca H' F ((w, d) :: (v0, d0.putAt p (.node .lst true xs')) :: l) → Q w H') : rAppend (.ref a) (ps.map Prod.fst) H Q := by
  unfold methL at h
  rw [if_pos rfl] at h
  split at h
  · split at h
    · rename_i v hl
      cases h
      obtain ⟨w, rfl⟩ := stt_one (l := []) hv
      obtain ⟨ps0, n0, e0, put⟩ := st.put hp
      have l0 := len_map2 e0
      refine ⟨a, ps0.map Prod.fst, w, rfl, rfl, n0, by rw [l0]; exact hl, q _ _ ?_⟩
      have := put (.lst (ps0.map Prod.fst ++ [w])) .lst (ps0 ++ [(w, v)]) [] (by rw [List.append_nil]) (by first | (rw [List.map_append]; done) | (rw [List.map_append]; exact upd_same))
      rw [List.map_append, e0] at this
      exact Stt.add (l1 := [(V.non, D.non)]) this (.non .nil)
    · cases h
  · cases h
theorem methL_pop {v0 : V} {d0 d : D} {p : List Nat} {a : Addr} {xs xs' vs : List D} {ps l : List (V × D)} {Q : VK} (st : Stt X.K ca H F (ps ++ (v0, d0) :: l)) (hp : PathV X.K ca H F v0 d0 p (.ref a) (.node .lst true xs)) (hv : ps.map Prod.snd = vs)
    (h : methL "pop" xs vs = some (d, xs')) (q : ∀ w H', Stt X.K ca H' F ((w, d) :: (v0, d0.putAt p (.node .lst true xs')) :: l) → Q w H') : rPop (.ref a) (ps.map Prod.fst) H Q := by
  unfold methL at h
  rw [if_neg (by decide +kernel), if_pos rfl] at h
  split at h
  · split at h
    · rename_i x hl
      cases h
      have e1 : ps = [] := by simpa using hv
      subst e1
      obtain ⟨ps0, n0, e0, put⟩ := st.put hp
      have hg : ∃ w, ps0.getLast? = some (w, d) := by
        rw [← e0, List.getLast?_map, Option.map_eq_some_iff] at hl
        obtain ⟨⟨w, y⟩, h1, h2⟩ := hl
        subst h2
        exact ⟨w, h1⟩
      obtain ⟨w, hg⟩ := hg
      have hdec : ps0.dropLast ++ [(w, d)] = ps0 := by
        rw [List.getLast?_eq_some_iff] at hg
        obtain ⟨ys, rfl⟩ := hg
        simp
      refine ⟨a, ps0.map Prod.fst, w, rfl, rfl, n0, ?_, q _ _ ?_⟩
      · rw [← List.getLast?_eq_getElem?, List.getLast?_map, hg]; rfl
      · have := put (.lst (ps0.map Prod.fst).dropLast) .lst ps0.dropLast [(w, d)] (by rw [List.append_nil, hdec]) (by first | (rw [List.map_dropLast]; done) | (rw [List.map_dropLast]; exact upd_same))
        rw [List.map_dropLast, e0] at this
        exact this
    · cases h
  · cases h
theorem methL_ins {v0 : V} {d0 d : D} {p : List Nat} {a : Addr} {xs xs' vs : List D} {ps l : List (V × D)} {Q : VK} (st : Stt X.K ca H F (ps ++ (v0, d0) :: l)) (hp : PathV X.K ca H F v0 d0 p (.ref a) (.node .lst true xs)) (hv : ps.map Prod.snd = vs)
    (h : methL "insert" xs vs = some (d, xs')) (q : ∀ w H', Stt X.K ca H' F ((w, d) :: (v0, d0.putAt p (.node .lst true xs')) :: l) → Q w H') :
    ∃ l₁ xs₁ i y, (V.ref a) = V.ref l₁ ∧ ps.map Prod.fst = [V.int i, y] ∧ H l₁ = some (.lst xs₁) ∧ xs₁.length < sizeLine ∧ 0 ≤ i ∧ i < 2 ^ 63 ∧ Q V.non (upd H l₁ (.lst (xs₁.take i.toNat ++ [y] ++ xs₁.drop i.toNat))) := by
  unfold methL at h
  rw [if_neg (by decide +kernel), if_neg (by decide +kernel), if_pos rfl] at h
  split at h
  · split at h
    · rename_i i v hl
      cases h
      obtain ⟨w1, w, rfl⟩ := stt_two (l := []) hv
      obtain ⟨B, hB⟩ := Stt.den st
      cases den_int hB
      obtain ⟨ps0, n0, e0, put⟩ := st.put hp
      have l0 := len_map2 e0
      refine ⟨a, ps0.map Prod.fst, i, w, rfl, rfl, n0, by rw [l0]; exact hl.1, hl.2.1, hl.2.2, q _ _ ?_⟩
      have := put (.lst ((ps0.map Prod.fst).take i.toNat ++ [w] ++ (ps0.map Prod.fst).drop i.toNat)) .lst (ps0.take i.toNat ++ [(w, v)] ++ ps0.drop i.toNat) [(V.int i, .int i)] ?_ (by simp only [List.map_append, List.map_take, List.map_drop]; exact upd_same)
      · simp only [List.map_append, List.map_take, List.map_drop, e0] at this
        exact (Stt.tail (v := V.int i) (d := .int i) this).add (l1 := [(V.non, D.non)]) (.non .nil)
      · conv => lhs; rw [← List.take_append_drop i.toNat ps0]
        exact perm_mu (by simp only [mu_app, mu_c]; ac_rfl)
    · cases h
  · cases h
theorem ml_cases {m : Str} (h : isML m = true) : m = ("append" : Str) ∨ m = ("pop" : Str) ∨ m = ("insert" : Str) := by
  unfold isML at h
  simp only [Bool.or_eq_true, decide_eq_true_eq] at h
  rcases h with (h | h) | h
  · exact .inl h
  · exact .inr (.inl h)
  · exact .inr (.inr h)
/-- the rule of the known methods of lists -/
def rML (K : PySem.W.Frag) (ca : Ca) (m : Str) : V → List V → Hp → VK → Prop := fun x vs H Q => ∃ (a : Addr) (F : Hp) (v0 : V) (d0 d : D) (p : List Nat) (xs xs' : List D) (ps l : List (V × D)),
  x = .ref a ∧ ps.map Prod.fst = vs ∧ Stt K ca H F (ps ++ (v0, d0) :: l) ∧ PathV K ca H F v0 d0 p (.ref a) (.node .lst true xs) ∧ methL m xs (ps.map Prod.snd) = some (d, xs') ∧ ∀ w H', Stt K ca H' F ((w, d) :: (v0, d0.putAt p (.node .lst true xs')) :: l) → Q w H'
theorem mt_ML {m : Str} (h : isML m = true) : ∃ id, Slot "list" m id ∧ typeOf (.builtin id) = pure (.type "method_descriptor") ∧ MtR X id (rML X.K ca m) := by
  rcases ml_cases h with rfl | rfl | rfl
  · refine ⟨_, PySem.F.slot_list_append, PySem.F.type_list_append, fun pins s σ H x vs v us Q I r1 r2 h => ?_⟩
    obtain ⟨a, F, v0, d0, d, p, xs, xs', ps, l, rfl, rfl, h1, h2, h3, h4⟩ := h
    exact mt_append pins s σ H _ _ v us Q I r1 r2 (methL_app h1 h2 rfl h3 h4)
  · refine ⟨_, PySem.F.slot_list_pop, PySem.F.type_list_pop, fun pins s σ H x vs v us Q I r1 r2 h => ?_⟩
    obtain ⟨a, F, v0, d0, d, p, xs, xs', ps, l, rfl, rfl, h1, h2, h3, h4⟩ := h
    exact mt_pop pins s σ H _ _ v us Q I r1 r2 (methL_pop h1 h2 rfl h3 h4)
  · refine ⟨_, PySem.F.slot_list_insert, PySem.F.type_list_insert, fun pins s σ H x vs v us Q I r1 r2 h => ?_⟩
    obtain ⟨a, F, v0, d0, d, p, xs, xs', ps, l, rfl, rfl, h1, h2, h3, h4⟩ := h
    exact mt_insert pins s σ H _ _ v us Q I r1 r2 (methL_ins h1 h2 rfl h3 h4)
/-- x.m(..), a list's method, its receiver read by te, its arguments by ta -/
theorem ml_pe0 {o : Expr} {m : Str} {apos pos : Pos} {te : TE} (he : PE X o te) (hm : isML m = true) (hb : okBase o = true) (hline : (apos.endLine == pos.line) = true) : PE X (.Call (.Attribute o m apos) [] [] pos) (tBM0 X.K "list" (rML X.K ca m) te) := by
  obtain ⟨id, slot, ty, mt⟩ := mt_ML (X := X) (ca := ca) hm
  exact pe_bm0 PySem.F.plainAttrs_list slot ty mt he (base_ok hb) hline
theorem ml_pe1 {o e : Expr} {m : Str} {apos pos : Pos} {r : List Expr} {te : TE} {ta : TA} (he : PE X o te) (ha : PA X (e :: r) ta) (hm : isML m = true) (hb : okBase o = true) (hs : (e :: r).any isStar = false) (hl : (e :: r).length < 29) (hline : (apos.endLine == pos.line) = true) :
    PE X (.Call (.Attribute o m apos) (e :: r) [] pos) (tBM X.K "list" (rML X.K ca m) te ta) := by
  obtain ⟨id, slot, ty, mt⟩ := mt_ML (X := X) (ca := ca) hm
  have hs' : isStar e = false ∧ r.any isStar = false := by simpa [List.any_cons, Bool.or_eq_false_iff] using hs
  exact pe_bm PySem.F.plainAttrs_list slot ty mt he ha (base_ok hb) (form_ok (kws := []) (ks := []) (pos := pos) (env := X.env) hs rfl (by simpa using hl)) hline (star_of hs'.1) (nostar hs'.2)
/-- arguments that change nothing -/
theorem pa_X (C : CtxOk X ca k c) : ∀ {es : List Expr}, es.any isStar = false → PA X es (fun σ H Q => ∃ (e t : List (V × D)) (F : Hp), Agree ca σ e ∧ Stt X.K ca H F (e ++ t) ∧ ∃ ds, es.mapM (fun a => evX c n a (e.map Prod.snd)) = some ds ∧ ∀ ps : List (V × D), ps.map Prod.snd = ds → DenL X.K ca H F ps [] → Q (ps.map Prod.fst) H)
  | [], _ => PA.weak pa_nil fun σ H Q ⟨e, t, F, ag, st, ds, h, q⟩ => by cases h; exact q [] rfl .nil
  | a :: r, hs => by
    simp only [List.any_cons, Bool.or_eq_false_iff] at hs
    refine PA.weak (pa_cons ((sndXP n).1 X c a C) (pa_X C hs.2) (star_of hs.1)) fun σ H Q ⟨e, t, F, ag, st, ds, h, q⟩ => ?_
    rw [List.mapM_cons] at h
    simp only [Option.pure_def, Option.bind_eq_bind, Option.bind_eq_some_iff] at h
    obtain ⟨d, hd, ds', hds, h⟩ := h
    cases h
    exact ⟨e, t, F, ag, st, d, hd, fun v hv => ⟨e, t, F, ag, st, ds', hds, fun ps hps hp => q ((v, d) :: ps) (by rw [List.map_cons, hps]) (hv.append hp)⟩⟩
theorem path_list {v : V} {xs : List D} {B : List Addr} (hB : DenL X.K ca H F [(v, .node .lst true xs)] B) (sb : Sub F H) : ∃ a, v = .ref a ∧ ∃ ys, SqL X.K H a ys := by
  obtain ⟨a, ps, _, e, _, n1, _⟩ := den_node hB sb
  exact ⟨a, e, _, .inl (.inl n1)⟩
/-- o.m(..) -/
theorem snd_meth (S : Snd ca k n) (C : CtxOk X ca k c) (tk : Takes X W) {o : Expr} {m : Str} {apos pos : Pos} {es : List Expr} {kws : List Keyword} : PE X (.Call (.Attribute o m apos) es kws pos) (tM X.K ca W (evE c (n + 1) (.Call (.Attribute o m apos) es kws pos))) := by
  by_cases hc : (es.any isStar || c.cur.isSome || !(apos.endLine == pos.line) || !decide (es.length + kws.length < 29) || !okBase o) = true
  · refine tG_none fun η => ?_
    simp only [evE, hc]
    rfl
  have hc' : (es.any isStar || c.cur.isSome || !(apos.endLine == pos.line) || !decide (es.length + kws.length < 29) || !okBase o) = false := by simpa using hc
  simp only [Bool.or_eq_false_iff, Bool.not_eq_false'] at hc'
  obtain ⟨⟨⟨⟨hs, hcur⟩, hline⟩, hlen⟩, hb⟩ := hc'
  have hcur : c.cur = none := by simpa using hcur
  have hlen : es.length + kws.length < 29 := by simpa using hlen
  cases hkw : kwNames kws with
  | none =>
    refine tG_none fun η => ?_
    simp only [evE, hc, hkw]
    rfl
  | some ks =>
  refine ⟨fun pins s σ H Q I ⟨e, t, F, ag, st, h⟩ => ?_⟩
  simp only [evE, hc, hkw, Bool.false_eq_true, if_false] at h
  have hkl' : es.length + kws.length < 29 := hlen
  cases hp : evP c n o (e.map Prod.snd) with
  | some r =>
    obtain ⟨i, p, d⟩ := r
    simp only [hp] at h
    have hP := (sndXP n).2 X c o C
    cases d with
    | node kd ow xs0 =>
      cases kd with
      | lst =>
        cases ow with
        | false => exact False.elim h
        | true =>
          by_cases hcm : (!kws.isEmpty || !isML m) = true
          · simp only [hcm, if_true] at h; exact False.elim h
          have hcm' : (!kws.isEmpty || !isML m) = false := by simpa using hcm
          simp only [Bool.or_eq_false_iff, Bool.not_eq_false'] at hcm'
          obtain ⟨hke, hm⟩ := hcm'
          have hke : kws = [] := by simpa using hke
          subst hke
          simp only [hcm, Bool.false_eq_true, if_false] at h
          by_cases hpn : p = []
          · subst hpn
            simp only [if_true] at h
            obtain ⟨x, xp, rfl, hsl, hget, hbd⟩ := evP_nil hp
            obtain ⟨v0, hv0⟩ := map_get hget
            have hPE := pe_slot C hsl (pos := xp)
            have hσ := ag.get hv0 hbd
            have ty : ∀ {a : Addr} {H : Hp} {xs : List V}, H a = some (.lst xs) → tyV X.K "list" (V.ref a) H := fun hh => .inl ⟨rfl, _, .inl (.inl hh)⟩
            obtain ⟨B0, hB0⟩ := stt_mem st (List.mem_append_left t (List.mem_of_getElem? hv0))
            obtain ⟨a, ps00, _, rfl, _, n00, _⟩ := den_node hB0 st.sub
            -- behind the arguments
            have fin : ∀ (vs : List D) (e1 : List (V × D)) (H1 F1 : Hp) (ps : List (V × D)), Agree ca σ e1 → Sub F F1 → ps.map Prod.snd = vs → Stt X.K ca H1 F1 (ps ++ (e1 ++ t)) →
                PostG X.K ca W σ t F (match (e1.map Prod.snd)[i]? with
                  | some (.node .lst true xs) => (match methL m xs vs with
                    | some (d, xs') => some (.ok d ((e1.map Prod.snd).set i (.node .lst true xs')))
                    | none => none)
                  | _ => none) (pV X.K ca Q t) → rML X.K ca m (.ref a) (ps.map Prod.fst) H1 Q := by
              intro vs e1 H1 F1 ps ag1 sb1 hps st1 h1
              cases hd : (e1.map Prod.snd)[i]? with
              | none => rw [hd] at h1; exact False.elim h1
              | some d1 =>
                rw [hd] at h1
                cases d1 with
                | node kd ow xs =>
                  cases kd with
                  | lst =>
                    cases ow with
                    | true =>
                      simp only at h1
                      cases hml : methL m xs vs with
                      | none => rw [hml] at h1; exact False.elim h1
                      | some r =>
                        obtain ⟨d, xs'⟩ := r
                        rw [hml] at h1
                        obtain ⟨v1, hv1⟩ := map_get hd
                        have ev : v1 = .ref a := by
                          have q1 := ag1.get hv1 rfl
                          rw [hσ] at q1
                          exact (Option.some.inj (Option.some.inj q1)).symm
                        subst ev
                        have st2 : Stt X.K ca H1 F1 (ps ++ (V.ref a, D.node .lst true xs) :: ((e1.take i ++ e1.drop (i + 1)) ++ t)) := st1.perm ((slot_perm (t := t) hv1).append_left ps)
                        refine ⟨a, F1, .ref a, _, d, [], xs, xs', ps, _, rfl, rfl, st2, .nil, by rw [hps]; exact hml, fun w H' st3 => ?_⟩
                        refine h1 (e1.set i (.ref a, .node .lst true xs')) H' F1 (by rw [map_set]) (ag1.put hσ) sb1 w ?_
                        exact st3.perm ((slot_perm' (t := t) (y := (V.ref a, D.node .lst true xs')) hv1).cons _)
                    | false => exact False.elim h1
                  | _ => exact False.elim h1
                | _ => exact False.elim h1
            cases es with
            | nil =>
              refine (ml_pe0 (ca := ca) hPE hm hb hline).run pins s σ H Q I ⟨.ref a, hσ, ty n00, ?_⟩
              exact fin [] e H F [] ag (Sub.refl F) rfl st h
            | cons a0 r0 =>
              refine (ml_pe1 (ca := ca) hPE (snd_seq (ca := ca) (W := W) (fun e => S.E X c W e C tk) hs) hm hb hs (by simpa using hlen) hline).run pins s σ H Q I ⟨.ref a, hσ, ty n00, e, t, F, ag, st, ?_⟩
              cases hr : seqM (evE c n) (a0 :: r0) (e.map Prod.snd) with
              | none => rw [hr] at h; exact False.elim h
              | some r =>
                rw [hr] at h
                cases r with
                | exc y fs η1 => exact h
                | ok vs η1 =>
                  intro e1 H1 F1 he1 ag1 sb1 ps hps st1
                  subst he1
                  exact fin vs e1 H1 F1 ps ag1 sb1 hps st1 h
          · simp only [hpn, if_false] at h
            cases hr : es.mapM (fun a => evX c n a (e.map Prod.snd)) with
            | none => rw [hr] at h; exact False.elim h
            | some vs =>
              simp only [hr] at h
              cases hd0 : (e.map Prod.snd)[i]? with
              | none => rw [hd0] at h; exact False.elim h
              | some d0 =>
                simp only [hd0] at h
                cases hml : methL m xs0 vs with
                | none => rw [hml] at h; exact False.elim h
                | some r =>
                  obtain ⟨d, xs'⟩ := r
                  rw [hml] at h
                  have fin : ∀ (v v0 : V) (d0' : D) (ps : List (V × D)), e[i]? = some (v0, d0') → d0'.bound = true → PathV X.K ca H F v0 d0' p v (.node .lst true xs0) → (∃ B, DenL X.K ca H F [(v, .node .lst true xs0)] B) → ps.map Prod.snd = vs → DenL X.K ca H F ps [] → rML X.K ca m v (ps.map Prod.fst) H Q := by
                    intro v v0 d0' ps hv0 hbd pv ⟨B, hB⟩ hps hpd
                    obtain ⟨a, rfl, _⟩ := path_list hB st.sub
                    have ed : d0' = d0 := by
                      rw [List.getElem?_map, hv0] at hd0
                      exact Option.some.inj hd0
                    subst ed
                    have st2 : Stt X.K ca H F (ps ++ (v0, d0') :: ((e.take i ++ e.drop (i + 1)) ++ t)) := (st.add hpd).perm ((slot_perm (t := t) hv0).append_left ps)
                    refine ⟨a, F, v0, d0', d, p, xs0, xs', ps, _, rfl, rfl, st2, pv, by rw [hps]; exact hml, fun w H' st3 => ?_⟩
                    refine h (e.set i (v0, d0'.putAt p (.node .lst true xs'))) H' F (by rw [map_set]) (ag.put (ag.get hv0 hbd)) (Sub.refl F) w ?_
                    exact st3.perm ((slot_perm' (t := t) (y := (v0, d0'.putAt p (.node .lst true xs'))) hv0).cons _)
                  have ty : ∀ {v : V}, (∃ B, DenL X.K ca H F [(v, .node .lst true xs0)] B) → tyV X.K "list" v H := by
                    intro v ⟨B, hB⟩
                    obtain ⟨a, rfl, hq⟩ := path_list hB st.sub
                    exact .inl ⟨rfl, hq⟩
                  cases es with
                  | nil =>
                    cases hr
                    exact (ml_pe0 (ca := ca) hP hm hb hline).run pins s σ H Q I ⟨e, t, F, ag, st, i, p, _, hp, fun v v0 d0' hv0 hbd pv hB => ⟨ty hB, fin v v0 d0' [] hv0 hbd pv hB rfl .nil⟩⟩
                  | cons a0 r0 =>
                    exact (ml_pe1 (ca := ca) hP (pa_X (n := n) C hs) hm hb hs (by simpa using hlen) hline).run pins s σ H Q I ⟨e, t, F, ag, st, i, p, _, hp, fun v v0 d0' hv0 hbd pv hB => ⟨ty hB, e, t, F, ag, st, vs, hr, fun ps hps hpd => fin v v0 d0' ps hv0 hbd pv hB hps hpd⟩⟩
      | obj y fs =>
        simp only at h
        cases hmo : c.methOf y m fs with
        | none => rw [hmo] at h; exact False.elim h
        | some fn =>
          simp only [hmo] at h
          cases hsh : findShape (es.length + 1) ks fn.shapes with
          | none => rw [hsh] at h; exact False.elim h
          | some sh =>
            simp only [hsh] at h
            obtain ⟨hcl, hnf, fa, hme, FF⟩ := methOf_ok C hcur hmo
            by_cases hpn : p = []
            · subst hpn
              simp only [if_true] at h
              obtain ⟨x, xp, rfl, hsl, hget, hbd⟩ := evP_nil hp
              obtain ⟨v0, hv0⟩ := map_get hget
              have hσ := ag.get hv0 hbd
              obtain ⟨B0, hB0⟩ := stt_mem st (List.mem_append_left t (List.mem_of_getElem? hv0))
              obtain ⟨a, ps00, _, rfl, _, n00, _⟩ := den_node hB0 st.sub
              obtain ⟨l1, dx, n1⟩ := n00
              refine meth_run (pe_slot C hsl (pos := xp)) I hb hs hkw hkl' hline ⟨.ref a, hσ, a, ca.at_ y, dx, _, fa, rfl, n1, hcl, hme, look_none hnf, fun s1 I1 => ?_⟩
              exact meth_call (tms := []) S C tk hcur (x := y) (m := m) (fs := fs) FF hs hkw hsh I1 ag st (fun ha => .slot hσ ha) h
            · simp only [hpn, if_false] at h
              by_cases hst : (D.node (.obj y fs) ow xs0).still = true
              · rw [if_pos hst] at h
                refine meth_run hP I hb hs hkw hkl' hline ⟨e, t, F, ag, st, i, p, _, hp, fun v v0 d0' hv0 hbd pv ⟨B, hB⟩ => ?_⟩
                have e0 : B = [] := hB.still (by simp [D.stillL, hst])
                subst e0
                obtain ⟨a, ps00, _, rfl, _, n00, _⟩ := den_node hB st.sub
                obtain ⟨l1, dx, n1⟩ := n00
                refine ⟨a, ca.at_ y, dx, _, fa, rfl, n1, hcl, hme, look_none hnf, fun s1 I1 => ?_⟩
                exact meth_call (tms := [(V.ref a, D.node (.obj y fs) ow xs0)]) S C tk hcur (x := y) (m := m) (fs := fs) FF hs hkw hsh I1 ag ((st.add hB).perm (perm_mu (by simp only [mu_app, mu_c, mu_n]; ac_rfl))) (fun ha => .tmp ha) h
              · rw [if_neg hst] at h; exact False.elim h
      | _ => exact False.elim h
    | _ => exact False.elim h
  | none =>
    simp only [hp] at h
    refine meth_run (S.E X c W o C tk) I hb hs hkw hkl' hline ⟨e, t, F, ag, st, (PostG.bind h).imp (fun _ _ _ z => z) fun d e1 H1 F1 sb1 ag1 hd v st1 => ?_⟩
    cases d with
    | node kd ow xs0 =>
      cases kd with
      | obj y fs =>
        simp only at hd
        cases hmo : c.methOf y m fs with
        | none => rw [hmo] at hd; exact False.elim hd
        | some fn =>
          simp only [hmo] at hd
          cases hsh : findShape (es.length + 1) ks fn.shapes with
          | none => rw [hsh] at hd; exact False.elim hd
          | some sh =>
            simp only [hsh] at hd
            obtain ⟨hcl, hnf, fa, hme, FF⟩ := methOf_ok C hcur hmo
            obtain ⟨B, hB⟩ := st1.den
            obtain ⟨a, ps00, _, rfl, _, n00, _⟩ := den_node hB st1.sub
            obtain ⟨l1, dx, n1⟩ := n00
            refine ⟨a, ca.at_ y, dx, _, fa, rfl, n1, hcl, hme, look_none hnf, fun s1 I1 => ?_⟩
            exact meth_call (tms := [(V.ref a, D.node (.obj y fs) ow xs0)]) S C tk hcur (x := y) (m := m) (fs := fs) FF hs hkw hsh I1 ag1 (st1.perm (perm_mu (by simp only [mu_app, mu_c, mu_n]; ac_rfl))) (fun ha => .tmp ha) hd
      | _ => exact False.elim hd
    | _ => exact False.elim hd
end
end Z

set_option Elab.async false
set_option linter.all false
set_option maxRecDepth 100000
set_option maxHeartbeats 4000000
namespace Z
open PySem PySem.Spec PyProof.Rows L2
section
variable {X : Cx} {ca : Ca} {W : WX} {k n : Nat} {c : Cs} {H F : Hp} {σ : L2.St} {K : PySem.W.Frag}
theorem snd_attr (C : CtxOk X ca k c) {a : Expr} {f : Str} {pos : Pos} : PE X (.Attribute a f pos) (tM X.K ca W (evE c (n + 1) (.Attribute a f pos))) := by
  refine ⟨fun pins s σ H Q I ⟨e, t, F, ag, st, h⟩ => ?_⟩
  simp only [evE] at h
  cases hc : c.curOf a with
  | some fs =>
    simp only [hc] at h
    cases hf : fs.lookup f with
    | none => rw [hf] at h; exact False.elim h
    | some d =>
      rw [hf] at h
      unfold Cs.curOf at hc
      split at hc
      · rename_i i fs' x hcur hx
        split at hc
        · rename_i hsl
          cases hc
          cases a with
          | Name y yp =>
            cases hx
            obtain ⟨ad, hpin, hr⟩ := (C.cur i fs hcur (by rintro rfl; cases hf)).ex
            obtain ⟨v, hv, hpe⟩ := hr f d hf
            refine (hpe (.Name x yp) pos _ (pe_slot C hsl (pos := yp)) ⟨x, yp, rfl⟩).run pins s σ H Q I ⟨.ref ad, ag.2.2 _ hpin, rfl, st.bas.trans st.sub, ?_⟩
            exact h e H F rfl ag (Sub.refl F) v (st.add (hv H F st.bas))
          | _ => cases hx
        · cases hc
      · cases hc
  | none =>
    simp only [hc] at h
    cases hp : evP c n (.Attribute a f pos) (e.map Prod.snd) with
    | none => rw [hp] at h; exact False.elim h
    | some r =>
      obtain ⟨i, p, d⟩ := r
      simp only [hp] at h
      by_cases hs : d.still = true
      · rw [if_pos hs] at h
        refine ((sndXP n).2 X c _ C).run pins s σ H Q I ⟨e, t, F, ag, st, i, p, d, hp, fun v v0 d0 _ _ _ ⟨B, hB⟩ => h e H F rfl ag (Sub.refl F) v ?_⟩
        have e0 : B = [] := hB.still (by simp [D.stillL, hs])
        subst e0
        exact st.add hB
      · rw [if_neg hs] at h
        refine ((sndXP n).2 X c _ C).run pins s σ H Q I ⟨e, t, F, ag, st, i, p, d, hp, fun v v0 d0 e0 b0 pv _ => ?_⟩
        obtain ⟨F', sb, st', pp⟩ := slot_frzP st e0 pv
        rw [setFrzP_eq e0] at h
        exact h _ H F' rfl (ag.set e0 (fun _ => b0)) sb v (st'.add pp)

/-! ### targets -/
def KeepP (P : Nat → Bool) (σ σ' : L2.St) : Prop := ∀ i, P i = true → σ'[i]? = σ[i]?
theorem KeepP.refl (P : Nat → Bool) (σ : L2.St) : KeepP P σ σ := fun _ _ => rfl
theorem KeepP.trans {P : Nat → Bool} {σ σ' σ2 : L2.St} (h : KeepP P σ σ') (h2 : KeepP P σ' σ2) : KeepP P σ σ2 := fun i z => (h2 i z).trans (h i z)
theorem Agree.store {e : List (V × D)} {i : Nat} {v : V} {d : D} {P : Nat → Bool} (a : Agree ca σ e) (hp : ∀ q ∈ ca.pin, P q.1 = true) (hi : P i ≠ true) : Agree ca (σ.set i (some v)) (e.set i (v, d)) := by
  refine ⟨by rw [List.length_set, List.length_set]; exact a.1, fun j w q hj hq => ?_, fun q hq => ?_⟩
  · by_cases e1 : i = j
    · subst e1
      by_cases hl : i < e.length
      · rw [List.getElem?_set_self hl] at hj
        cases hj
        rw [List.getElem?_set_self (by rw [← a.1]; exact hl)]
      · rw [List.getElem?_eq_none (by simpa using hl)] at hj; cases hj
    · rw [List.getElem?_set_ne e1] at hj
      rw [List.getElem?_set_ne e1]
      exact a.2.1 j w q hj hq
  · have ne : i ≠ q.1 := fun z => hi (by rw [z]; exact hp q hq)
    rw [List.getElem?_set_ne ne]
    exact a.2.2 q hq
theorem store_ok {x : Str} {d : D} {η η' : List D} (h : c.store x d η = some η') : ∃ i, slotOf c.N x = some i ∧ (c.sc.names.lookup x = some .local ∨ c.sc.names.lookup x = some .cell) ∧ c.P i ≠ true ∧ i < η.length ∧ η' = η.set i d := by
  unfold Cs.store at h
  split at h
  · rename_i hl
    split at h
    · rename_i i hi
      split at h
      · cases h
      · rename_i hn
        cases h
        simp only [not_or, Nat.not_le] at hn
        exact ⟨i, hi, .inl hl, hn.1, hn.2, rfl⟩
    · cases h
  · rename_i hl
    split at h
    · rename_i i hi
      split at h
      · cases h
      · rename_i hn
        cases h
        simp only [not_or, Nat.not_le] at hn
        exact ⟨i, hi, .inr hl, hn.1, hn.2, rfl⟩
    · cases h
  · cases h
theorem PG.weak {tg : Expr} {g g' : TG} (h : PG X tg g) (w : ∀ v σ H Q, g' v σ H Q → g v σ H Q) : PG X tg g' := ⟨fun pins s σ H v u Q I r q => h.run pins s σ H v u Q I r (w v σ H Q q)⟩
/-- a pair instead of another one in the slots -/
theorem stt_set {e t : List (V × D)} {i : Nat} {v : V} {d : D} (st : Stt K ca H F ((v, d) :: (e ++ t))) : Stt K ca H F (e.set i (v, d) ++ t) := by
  by_cases hi : i < e.length
  · have hg := List.getElem?_eq_getElem hi
    generalize e[i] = p at hg
    obtain ⟨w, x⟩ := p
    have p1 : Stt K ca H F ((v, d) :: ((w, x) :: ((e.take i ++ e.drop (i + 1)) ++ t))) := st.perm ((slot_perm (t := t) hg).cons _)
    have p2 : Stt K ca H F ((v, d) :: ((e.take i ++ e.drop (i + 1)) ++ t)) := Stt.tail (p1.perm (List.Perm.swap _ _ _))
    exact p2.perm (slot_perm' (t := t) (y := (v, d)) hg)
  · rw [List.set_eq_of_length_le (by omega)]
    exact st.tail
/-- what is wanted behind a store -/
def gB (K : PySem.W.Frag) (ca : Ca) (P : Nat → Bool) (m : D → List D → Option (List D)) : TG := fun v σ H Q => ∃ (e t : List (V × D)) (F : Hp) (d : D), Agree ca σ e ∧ Stt K ca H F ((v, d) :: (e ++ t)) ∧ ∃ η', m d (e.map Prod.snd) = some η' ∧
  ∀ σ' e', e'.map Prod.snd = η' → Agree ca σ' e' → KeepP P σ σ' → Stt K ca H F (e' ++ t) → Q σ' H
theorem pg_store (C : CtxOk X ca k c) {x : Str} {pos : Pos} (hl : c.sc.names.lookup x = some .local ∨ c.sc.names.lookup x = some .cell) {i : Nat} (hi : slotOf c.N x = some i) : PG X (.Name x pos) (gB X.K ca c.P (fun d η => c.store x d η)) := by
  by_cases hP : c.P i = true
  · refine ⟨fun pins s σ H v u Q I r h => ?_⟩
    obtain ⟨e, t, F, d, ag, st, η', hm, q⟩ := h
    obtain ⟨i', h1, h2, h3, h4, h5⟩ := store_ok hm
    rw [hi] at h1
    cases h1
    exact absurd hP h3
  refine PG.weak (pg_name (by rw [C.N]; exact C.nd) (by rw [C.N]; exact slotOf_at hi) (by unfold L2.Loc; rw [C.sc]; exact hl) (by rw [C.sc]; exact C.fnl x i hi hP hl)) fun v σ H Q ⟨e, t, F, d, ag, st, η', hm, q⟩ => ?_
  obtain ⟨i', h1, h2, h3, h4, rfl⟩ := store_ok hm
  rw [hi] at h1
  cases h1
  refine q _ (e.set i (v, d)) (by rw [map_set]) (ag.store C.pins h3) (fun j hj => ?_) (stt_set st)
  have ne : i ≠ j := fun z => h3 (by rw [z]; exact hj)
  rw [List.getElem?_set_ne ne]
/-- the parts of a tuple, as temporaries -/
theorem Stt.open {a : V} {o : Bool} {kd : Kd} {ds : List D} {l : List (V × D)} (st : Stt K ca H F ((a, .node kd o ds) :: l)) : ∃ (p : Addr) (ps : List (V × D)), a = .ref p ∧ ps.map Prod.snd = ds ∧ NdF K ca H p kd (ps.map Prod.fst) ∧ Stt K ca H F (ps ++ l) := by
  obtain ⟨A, hA, nd, fr, sb, bb⟩ := st
  cases hA with
  | frz hn hx hc hl => exact ⟨_, _, rfl, hx, hn.mono sb, _, hc.append hl, nd, fr, sb, bb⟩
  | own hn hx hc hl => exact ⟨_, _, rfl, hx, hn.toF, _, hc.append hl, (List.nodup_cons.mp nd).2, fun b z => fr b (List.mem_cons_of_mem _ z), sb, bb⟩
/-- several targets -/
def gBs (K : PySem.W.Frag) (ca : Ca) (P : Nat → Bool) (m : List D → List D → Option (List D)) : TGs := fun vs σ H Q => ∃ (e t : List (V × D)) (F : Hp) (ps : List (V × D)), ps.map Prod.fst = vs ∧ Agree ca σ e ∧ Stt K ca H F (ps ++ (e ++ t)) ∧ ∃ η', m (ps.map Prod.snd) (e.map Prod.snd) = some η' ∧
  ∀ σ' e', e'.map Prod.snd = η' → Agree ca σ' e' → KeepP P σ σ' → Stt K ca H F (e' ++ t) → Q σ' H
theorem PGs.weak {ts : List Expr} {g g' : TGs} (h : PGs X ts g) (w : ∀ v σ H Q, g' v σ H Q → g v σ H Q) : PGs X ts g' := ⟨fun pins s σ H v u Q I r q => h.run pins s σ H v u Q I r (w v σ H Q q)⟩
theorem pgs_store (C : CtxOk X ca k c) : ∀ {es : List Expr} {xs : List Str}, (es.mapM fun e => match e with
    | .Name x _ => some x
    | _ => none) = some xs → (∀ x ∈ xs, ∃ i, slotOf c.N x = some i ∧ (c.sc.names.lookup x = some .local ∨ c.sc.names.lookup x = some .cell)) → PGs X es (gBs X.K ca c.P (c.storeAll xs)) ∧ (assignEach es X.env).length = es.length ∧ (assignEach es X.env).findIdx? (·.1) = none ∧ xs.length = es.length
  | [], xs, h, _ => by
    cases h
    refine ⟨PGs.weak pgs_nil fun v σ H Q ⟨e, t, F, ps, h1, ag, st, η', hm, q⟩ => ?_, rfl, rfl, rfl⟩
    cases ps with
    | nil => cases hm; exact ⟨h1.symm, q σ e rfl ag (KeepP.refl _ _) st⟩
    | cons p r => cases hm
  | e0 :: es, xs, h, hx => by
    rw [List.mapM_cons] at h
    simp only [Option.pure_def, Option.bind_eq_bind, Option.bind_eq_some_iff] at h
    obtain ⟨x, hx0, ys, hys, h⟩ := h
    cases h
    cases e0 with
    | Name y yp =>
      cases hx0
      obtain ⟨i, hi, hl⟩ := hx x List.mem_cons_self
      obtain ⟨r1, r2, r3, r4⟩ := pgs_store C hys fun z hz => hx z (List.mem_cons_of_mem _ hz)
      refine ⟨PGs.weak (pgs_cons (pg_store C hl hi (pos := yp)) r1 rfl) fun v σ H Q ⟨e, t, F, ps, h1, ag, st, η', hm, q⟩ => ?_, ?_, ?_, by simp [r4]⟩
      · cases ps with
        | nil => cases hm
        | cons p r =>
          obtain ⟨w, d⟩ := p
          simp only [List.map_cons, Cs.storeAll] at hm
          cases h1
          split at hm
          · rename_i η1 h2
            refine ⟨w, _, rfl, e, r ++ t, F, d, ag, ?_, η1, h2, fun σ' e' he ag' kp st' => ?_⟩
            · exact st.perm (perm_mu (by simp only [mu_app, mu_c, List.cons_append]; ac_rfl))
            · subst he
              exact ⟨e', t, F, r, rfl, ag', st'.perm (perm_mu (by simp only [mu_app]; ac_rfl)), η', hm, fun σ2 e2 he2 ag2 kp2 st2 => q σ2 e2 he2 ag2 (kp.trans kp2) st2⟩
          · cases hm
      · show (assignEach es X.env).length + 1 = _; rw [r2]; rfl
      · rw [show assignEach (Expr.Name x yp :: es) X.env = (false, assign (.Name x yp) X.env) :: assignEach es X.env from rfl, List.findIdx?_cons]
        simp only [Bool.false_eq_true, if_false, r3, Option.map_none]
    | _ => cases hx0
theorem pg_bind (C : CtxOk X ca k c) (hcur : c.cur = none) {tg : Expr} {xs : List Str} (hn : namesOf tg = some xs) (hx : ∀ x ∈ xs, ∃ i, slotOf c.N x = some i ∧ (c.sc.names.lookup x = some .local ∨ c.sc.names.lookup x = some .cell)) : PG X tg (gB X.K ca c.P (c.bind tg)) := by
  cases tg with
  | Name x pos =>
    cases hn
    obtain ⟨i, hi, hl⟩ := hx x List.mem_cons_self
    exact pg_store C hl hi
  | Tuple es j pos =>
    have hn' : (es.mapM fun e => match e with
      | .Name x _ => some x
      | _ => none) = some xs := hn
    obtain ⟨r1, r2, r3, r4⟩ := pgs_store C hn' hx
    refine PG.weak (pg_tup (n := es.length) (C.calm hcur) r1 r2 r3) fun v σ H Q ⟨e, t, F, d, ag, st, η', hm, q⟩ => ?_
    simp only [Cs.bind, hn] at hm
    split at hm
    · rename_i xs' o ds h1
      cases h1
      obtain ⟨p, ps, rfl, e2, n1, st1⟩ := Stt.open st
      have hlen : ∀ {xs : List Str} {ds η η' : List D}, c.storeAll xs ds η = some η' → ds.length = xs.length := by
        intro xs
        induction xs with
        | nil =>
          intro ds η η' h
          cases ds with
          | nil => rfl
          | cons _ _ => cases h
        | cons x r ih =>
          intro ds η η' h
          cases ds with
          | nil => cases h
          | cons d ds =>
            simp only [Cs.storeAll] at h
            split at h
            · simp [ih h]
            · cases h
      refine ⟨p, ps.map Prod.fst, rfl, n1, by rw [len_map2 e2, hlen hm, r4], e, t, F, ps, rfl, ag, st1, η', by rw [e2]; exact hm, q⟩
    · cases hm
  | _ => cases hn
end
end Z

set_option Elab.async false
set_option linter.all false
set_option maxRecDepth 100000
set_option maxHeartbeats 4000000
namespace Z
open PySem PySem.Spec PyProof.Rows L2
section
open Sem (wp)
open AutoSeq1 (wpAny_loadPart')
theorem meets_enumT (l : Addr) (items : Array Value) (ob : Obj) (hc : ob.cls = .type "tuple") (n : Nat) (hd : ob.data = .seq items n) :
    Meets (Builtin.«enumerate.__new__» ⟨[.type "enumerate", .ref l], []⟩) (fun _ R s => s.heap.get? l = some ob ∧
      R (.ok (.ret (.ref (s.heap.push { cls := .type "tuple_iterator", data := .fields #[.ref l, .int 0 0] }).objs.size)))
        { s with heap := (s.heap.push { cls := .type "tuple_iterator", data := .fields #[.ref l, .int 0 0] }).push { cls := .type "enumerate", data := .fields #[.none, .bool false, .ref s.heap.objs.size, rawInt 0, .none, .none] } }) :=
  .of_wp fun prog w A R s h => by
    obtain ⟨hp, g, d, tk, os⟩ := s; obtain ⟨hl, h⟩ := h
    have hsub := sub_enumerate
    have hL : Heap.IsTuple (Shared.heap ⟨hp, g, d, tk, os⟩) l items := ⟨_, hl, hc, n, hd⟩
    wp_walk using wpAny_loadPart' hl
    refine wpAny_stack_any fun st => wpAny_pure ?_
    split
    · rename_i c _ _ _ _ _
      cases (c == Value.type "enumerate")
      · wp_walk using wpAny_loadPart' hl, wpAny_pyIter_tuple hL
        exact ⟨_, rfl, h⟩
      · wp_walk using wpAny_loadPart' hl, wpAny_pyIter_tuple hL
        exact ⟨_, rfl, h⟩
    · wp_walk using wpAny_loadPart' hl, wpAny_pyIter_tuple hL
      exact ⟨_, rfl, h⟩
end
section
variable {prog : Program} {w : World} {A : Around} {E : Value → Shared → Prop} {s : Shared}
theorem call_enumT {l : Addr} {items : Array Value} {Q : Value → Shared → Prop} (hL : s.heap.IsTuple l items)
    (h : ∀ h', IsEnum h' (s.heap.objs.size + 1) s.heap.objs.size 0 .none → h'.IsTupleIter s.heap.objs.size l 0 → (∀ b o, s.heap.get? b = some o → h'.get? b = some o) → Q (.ref (s.heap.objs.size + 1)) { s with heap := h' }) :
    wpAny (model prog w) A (call (.type "enumerate") [.ref l]) Q E s := by
  obtain ⟨ob, hl, hc, n, hd⟩ := hL
  refine callType_new F.called_enumerate (by decide) (F.typeCall_enumerate_1 _) (F.newCall_enumerate_1 _) (fun obj => F.args_object_init_2 obj _) F.entry_enumerate_new
    (meets_enumT l items ob hc n hd) ⟨hl, ?_⟩
  let h1 := s.heap.push { cls := .type "tuple_iterator", data := .fields #[.ref l, .int 0 0] }
  have hz : h1.objs.size = s.heap.objs.size + 1 := Heap.size_push ..
  show _ ∧ _
  rw [show (s.heap.push { cls := .type "tuple_iterator", data := .fields #[.ref l, .int 0 0] }).objs.size = s.heap.objs.size + 1 from hz]
  have he : IsEnum (h1.push { cls := .type "enumerate", data := .fields #[.none, .bool false, .ref s.heap.objs.size, rawInt 0, .none, .none] }) (s.heap.objs.size + 1) s.heap.objs.size 0 .none := by
    have := Heap.get?_push_size h1 (o := { cls := .type "enumerate", data := .fields #[.none, .bool false, .ref s.heap.objs.size, rawInt 0, .none, .none] }) rfl
    rw [hz] at this
    exact this
  exact ⟨⟨_, he, rfl⟩, h _ he ⟨_, Heap.get?_push_of_some _ (Heap.get?_push_size _ rfl), rfl, rfl⟩ fun b o x => Heap.get?_push_of_some _ (Heap.get?_push_of_some _ x)⟩
end
/-- the tuple at a as it stands at each turn, each item in a new pair -/
def IteT (K : PySem.W.Frag) (a : Addr) : It :=
  ⟨fun i H => ∃ (xs : List V) (x : V), SqT K H a xs ∧ xs[i]? = some x, fun i H v H' => ∃ T x, v = .ref T ∧ H T = none ∧ H' = upd H T (.tup [.int (i : Nat), x]) ∧ ∀ xs, SqT K H a xs → xs[i]? = some x, fun i H => ∃ xs : List V, SqT K H a xs ∧ xs.length ≤ i⟩
theorem turn_enumT {P : Program} {w : World} {K : PySem.W.Frag} {elts : List Expr} {kk : Nat} {tpos : Pos} (a e it : Addr) :
    Turn P w K (.Tuple elts kk tpos) (IteT K a) [e, it] e (fun i h => (∃ old, IsEnum h e it ((i : Nat) : Int) old) ∧ h.IsTupleIter it a i ∧ e ≠ it) where
  mem := by simp
  obj := fun i h st b hb => by
    obtain ⟨⟨old, he⟩, ⟨o, ho, _, hd⟩, _⟩ := st
    rcases List.mem_cons.mp hb with rfl | hb
    · exact ⟨_, he, fun v q => nomatch q⟩
    · rw [List.mem_singleton.mp hb]
      exact ⟨o, ho, fun v q => by rw [hd] at q; cases q⟩
  keep := fun i h h' st k => let ⟨⟨old, he⟩, hi, hne⟩ := st; ⟨⟨old, k e (by simp) _ he⟩, hi.at fun o q => k it (by simp) o q, hne⟩
  item := by
    intro X hP hw hK hc i pins s σ H E I hf st hg
    subst hP hw hK
    obtain ⟨⟨old, he⟩, hit, hne⟩ := st
    obtain ⟨xs, x, hq, hx⟩ := hg
    obtain ⟨its, rv, p, hz⟩ := I.tuple hq
    obtain ⟨u, hu, ru⟩ := rv.get hx
    have p : s.heap.IsTuple a its.toArray := p
    have hel : e < s.heap.objs.size := Heap.lt_size he
    have hil : it < s.heap.objs.size := by obtain ⟨_, q, _⟩ := id hit; exact Heap.lt_size q
    have hia : a ≠ it := fun z => by
      obtain ⟨o, ho, h1, _⟩ := id p
      obtain ⟨o', ho', h2, _⟩ := id hit
      rw [z, ho'] at ho
      cases ho
      rw [h2] at h1
      exact absurd h1 (by decide)
    have hea : e ≠ a := fun z => by
      obtain ⟨o, ho, h1, _⟩ := id p
      rw [← z, he] at ho
      cases ho
      have h1 : Value.type "enumerate" = Value.type "tuple" := h1
      exact absurd h1 (by decide)
    have hlt : i < its.toArray.size := by
      have h1 := (List.getElem?_eq_some_iff.mp hu).1
      simpa using h1
    have hin : X.A.in1.handled = none := I.ok.hd hc
    refine wpAny_pyNext_enum_itemD (Draws.tuple hin it a hia its.toArray) he ⟨hit, p⟩ hlt hne (by simp [hne, hea]) fun y h' tk hy ho st' hT hsz hk => ?_
    refine ⟨_, rfl, wpAny_letOwnedTupleGo_enum (s := { s with heap := h', toks := tk + 1 }) ho fun h'' he' sb => ?_⟩
    have ey : y = u := by
      have h1 : its.toArray[i]? = some y := hy
      rw [List.getElem?_toArray, hu] at h1
      exact (Option.some.inj h1).symm
    subst ey
    have hT2 : h''.get? s.heap.objs.size = some { cls := .type "tuple", data := .seq #[.int i tk, y] } := (sb.2 _ (Nat.ne_of_gt hel)).trans hT
    have new : ObjOk X.prog X.w (upd H s.heap.objs.size (.tup [.int (i : Nat), x])) h'' s.heap.objs.size (.tup [.int (i : Nat), x]) :=
      ⟨by show 2 ≤ sizeLine; decide, [.int i tk, y], .cons ⟨_, rfl⟩ (.cons ru .nil), ⟨_, hT2, rfl, _, rfl⟩⟩
    have I1 : Inv X pins σ (upd H s.heap.objs.size (.tup [.int (i : Nat), x])) { s with heap := h'', toks := tk + 1 } :=
      I.turnedNew (ch := [e, it]) (fun b ob hb q => (sb.2 b (fun z => hb (by simp [z]))).trans (hk b ob (fun z => hb (by simp [z])) (fun z => hb (by simp [z])) q)) hf (Nat.le_refl _) new
    refine ⟨.ref s.heap.objs.size, _, I1, rfl, ⟨_, x, rfl, I.hok.fresh (Nat.le_refl _), rfl, fun ys hy => by rw [I.tuple_inj hy hq]; exact hx⟩, ⟨⟨y, ?_⟩, st'.1.at fun o q => (sb.2 it (Ne.symm hne)).trans q, hne⟩, fun b hb => ?_⟩
    · have e1 : ((i + 1 : Nat) : Int) = (i : Int) + 1 := by omega
      rw [e1]
      exact he'
    · have hb' : b < s.heap.objs.size := by
        rcases List.mem_cons.mp hb with rfl | hb
        · exact hel
        · rw [List.mem_singleton.mp hb]; exact hil
      rw [upd_ne (Nat.ne_of_lt hb')]
      exact (hf b hb).1
  done := by
    intro X hP hw hK hc i pins s σ H E I hf st hg
    subst hP hw hK
    obtain ⟨⟨old, he⟩, hit, hne⟩ := st
    obtain ⟨xs, hq, hx⟩ := hg
    obtain ⟨its, rv, p, hz⟩ := I.tuple hq
    have p : s.heap.IsTuple a its.toArray := p
    obtain ⟨f0, f1, f2, f3, f4, f5⟩ := hf it (by simp)
    have hin : X.A.in1.handled = none := I.ok.hd hc
    have hTy : s.TypeIs (.ref e) "enumerate" := ⟨_, he, rfl⟩
    have hl := rv.length
    unfold pyNext
    refine wpAny_bind (wpAny_attempt (wpAny_callSpecial?_slot (name := Str.ofString "__next__") hTy F.slot_enumerate_next
      (wpAny_call_entry F.slot_enumerate_next hTy F.entry_enumerate_next ?_ (F.args_enumerate_next_1 _))))
    show wpAny _ _ (field (.ref e) 2 >>= _) _ _ _
    refine wpAny_bind (wpAny_field he rfl (x := .ref it) rfl ?_)
    refine wpAny_bind (wpAny_nextOf_tuple_end hin hit p (by simp; omega) fun h' x he' hx' => ?_)
    obtain ⟨o, ho, hc'⟩ := hx'
    refine wpAny_bind (wpAny_isInstance (T := "StopIteration") (b := true) ⟨o, ho, hc'⟩ isSubtype_stop ?_)
    exact wpAny_pure ⟨rfl, I.turned (t' := s.toks) (fun b o hb q => he' b o hb q) f0 f1 f3 f4 f5⟩
  self := fun A i s Q E st h => let ⟨⟨_, he⟩, _⟩ := st; wpAny_pyIter_enum he h
def iEnumA (K : PySem.W.Frag) (ta : TA) : TI := fun σ H R => ta σ H fun vs H1 => ∃ a xs, vs = [.ref a] ∧ ((SqL K H1 a xs ∧ R (Ite K a) H1) ∨ (SqT K H1 a xs ∧ R (IteT K a) H1))
theorem pi_enumA {X : Cx} {e : Expr} {ta : TA} {p pos tpos : Pos} {elts : List Expr} {kk : Nat} (hg : Gl X "enumerate") (hm : X.mg "enumerate" = none) (ha : PA X [e] ta) (hs : starEach [e] X.env = [(false, eval e X.env)] := by rfl) :
    PI X (.Tuple elts kk tpos) (.Call (.Name "enumerate" p) [e] [] pos) (iEnumA X.K ta) := by
  refine ⟨fun pins s σ H R I h => ?_⟩
  refine Call_ (ld_blt I hg hm boot_enumerate (PyProof.Rows.callWith_type1 (thn (ha.run pos pins s σ H _ I h) fun us s1 ⟨vs, H1, I1, r1, q1⟩ => ?_) hs rfl))
  obtain ⟨a, xs, ex, q1⟩ := q1
  subst ex
  cases r1 with
  | cons r rr =>
    cases rr
    cases r
    have fresh : ∀ b, b ∈ [s1.heap.objs.size + 1, s1.heap.objs.size] → FpOk X pins H1 b := fun b hb => by
      have hle : s1.heap.objs.size ≤ b := by
        rcases List.mem_cons.mp hb with rfl | hb
        · exact Nat.le_add_right _ _
        · rw [List.mem_singleton.mp hb]; exact Nat.le_refl _
      exact I1.fpOk hle (I1.hok.fresh hle)
    rcases q1 with ⟨hq, q⟩ | ⟨hq, q⟩
    · obtain ⟨its, rv, p', hz⟩ := I1.list hq
      refine call_enumerate_list p'.isList fun h' he hit hsz hk => wpAny_pyIter_enum he ?_
      exact ⟨s1.heap.objs.size + 1, [s1.heap.objs.size + 1, s1.heap.objs.size], _, _, H1, rfl, I1.kept (t' := s1.toks) hk, turn_enum a (s1.heap.objs.size + 1) s1.heap.objs.size, ⟨⟨.none, he⟩, hit, Nat.succ_ne_self _⟩, fresh, q⟩
    · obtain ⟨its, rv, p', hz⟩ := I1.tuple hq
      refine call_enumT (show s1.heap.IsTuple a its.toArray from p') fun h' he hit hk => wpAny_pyIter_enum he ?_
      exact ⟨s1.heap.objs.size + 1, [s1.heap.objs.size + 1, s1.heap.objs.size], _, _, H1, rfl, I1.kept (t' := s1.toks) hk, turn_enumT a (s1.heap.objs.size + 1) s1.heap.objs.size, ⟨⟨.none, he⟩, hit, Nat.succ_ne_self _⟩, fresh, q⟩
section
variable {K : PySem.W.Frag} {ca : Ca} {H F : Hp} {a : Addr} {ps : List (V × D)} {items : List D}
theorem itden_range {lo : Int} {n : Nat} : ItDen K ca (Itr lo n) F ((List.range n).map fun k => D.int (lo + (k : Nat))) := by
  refine ⟨fun i H l h _ => by show i < n; simpa using h, fun i H x H' F' l d hd sb st y => ?_, fun i H l h _ => by show n ≤ i; simpa using h⟩
  obtain ⟨rfl, rfl⟩ := y
  rw [List.getElem?_map, Option.map_eq_some_iff] at hd
  obtain ⟨k, hk, rfl⟩ := hd
  have hk2 : k = i := by
    obtain ⟨h1, h2⟩ := List.getElem?_eq_some_iff.mp hk
    simpa using h2.symm
  subst hk2
  exact st.add (.int .nil)
theorem itden_rangeC {lo c : Int} {n : Nat} : ItDen K ca (Itc lo c n) F ((List.range n).map fun k => D.int (lo + (k : Nat) * c)) := by
  refine ⟨fun i H l h _ => by show i < n; simpa using h, fun i H x H' F' l d hd sb st y => ?_, fun i H l h _ => by show n ≤ i; simpa using h⟩
  obtain ⟨rfl, rfl⟩ := y
  rw [List.getElem?_map, Option.map_eq_some_iff] at hd
  obtain ⟨k, hk, rfl⟩ := hd
  have hk2 : k = i := by
    obtain ⟨h1, h2⟩ := List.getElem?_eq_some_iff.mp hk
    simpa using h2.symm
  subst hk2
  exact st.add (.int .nil)
theorem itden_str {x : Str} : ItDen K ca (Its x) F (x.cps.toList.map fun c => D.str ⟨#[c]⟩) := by
  refine ⟨fun i H l h _ => by show i < x.cps.size; simpa using h, fun i H v H' F' l d hd sb st y => ?_, fun i H l h _ => by show x.cps.size ≤ i; simpa using h⟩
  obtain ⟨rfl, c, hc, rfl⟩ := y
  rw [List.getElem?_map, Option.map_eq_some_iff] at hd
  obtain ⟨c', hk, rfl⟩ := hd
  have : c' = c := by
    rw [Array.getElem?_toList] at hk
    rw [hk] at hc
    exact Option.some.inj hc
  subst this
  exact st.add (.str .nil)
/-- a row of shared things at a -/
structure RowF (K : PySem.W.Frag) (ca : Ca) (Sq : Hp → Addr → List V → Prop) (F : Hp) (a : Addr) (ps : List (V × D)) : Prop where
  sq : ∀ F', Sub F F' → Sq F' a (ps.map Prod.fst)
  den : DenL K ca F F ps []
theorem DenL.ground {H F : Hp} {l : List (V × D)} {A : List Addr} (h : DenL K ca H F l A) (hA : A = []) (H' : Hp) : DenL K ca H' F l [] := by
  subst hA
  exact h.mono (Sub.refl F) fun a z => by cases z
theorem RowF.item {Sq : Hp → Addr → List V → Prop} (r : RowF K ca Sq F a ps) {i : Nat} {x : V} {d : D} {H' F' : Hp} {l : List (V × D)} (hx : (ps.map Prod.fst)[i]? = some x) (hd : (ps.map Prod.snd)[i]? = some d) (sb : Sub F F') (st : Stt K ca H' F' l) : Stt K ca H' F' ((x, d) :: l) := by
  rw [List.getElem?_map, Option.map_eq_some_iff] at hx hd
  obtain ⟨p, hp, rfl⟩ := hx
  obtain ⟨p', hp', rfl⟩ := hd
  rw [hp] at hp'
  cases hp'
  obtain ⟨C, h1, h2⟩ := den_mem r.den (List.mem_of_getElem? hp)
  have e0 : C = [] := List.eq_nil_iff_forall_not_mem.mpr fun b z => by have := h2 b z; simp at this
  exact st.add ((h1.ground e0 H').mono sb fun b z => by cases z)
theorem itden_list (r : RowF K ca (SqL K) F a ps) : ItDen K ca (Itl K a) F (ps.map Prod.snd) := by
  refine ⟨fun i H l h ⟨F', sb, st⟩ => ?_, fun i H x H' F' l d hd sb st y => ?_, fun i H l h ⟨F', sb, st⟩ => ?_⟩
  · have hl : i < (ps.map Prod.fst).length := by simpa using h
    exact ⟨_, (ps.map Prod.fst)[i], r.sq _ (sb.trans st.sub), List.getElem?_eq_getElem hl⟩
  · obtain ⟨rfl, y⟩ := y
    exact r.item (y _ (r.sq _ (sb.trans st.sub))) hd sb st
  · exact ⟨_, r.sq _ (sb.trans st.sub), by simpa using h⟩
theorem itden_tup (r : RowF K ca (SqT K) F a ps) : ItDen K ca (Itt K a) F (ps.map Prod.snd) := by
  refine ⟨fun i H l h ⟨F', sb, st⟩ => ?_, fun i H x H' F' l d hd sb st y => ?_, fun i H l h ⟨F', sb, st⟩ => ?_⟩
  · have hl : i < (ps.map Prod.fst).length := by simpa using h
    exact ⟨_, (ps.map Prod.fst)[i], r.sq _ (sb.trans st.sub), List.getElem?_eq_getElem hl⟩
  · obtain ⟨rfl, y⟩ := y
    exact r.item (y _ (r.sq _ (sb.trans st.sub))) hd sb st
  · exact ⟨_, r.sq _ (sb.trans st.sub), by simpa using h⟩
theorem enumD_get : ∀ {xs : List D} {k i : Nat}, (enumD k xs)[i]? = (xs[i]?).map fun x => D.node .tup true [.int ((k + i : Nat) : Int), x]
  | [], k, i => by simp [enumD]
  | x :: r, k, 0 => by simp [enumD]
  | x :: r, k, i + 1 => by
    simp only [enumD, List.getElem?_cons_succ]
    rw [enumD_get (k := k + 1)]
    congr 1
    funext y
    rw [show k + 1 + i = k + (i + 1) from by omega]
theorem enumD_len {xs : List D} : ∀ {k : Nat}, (enumD k xs).length = xs.length := by
  induction xs with
  | nil => intro k; rfl
  | cons x r ih => intro k; simp [enumD, ih]
theorem itden_enum (r : RowF K ca (SqL K) F a ps) : ItDen K ca (Ite K a) F (enumD 0 (ps.map Prod.snd)) := by
  refine ⟨fun i H l h ⟨F', sb, st⟩ => ?_, fun i H x H' F' l d hd sb st y => ?_, fun i H l h ⟨F', sb, st⟩ => ?_⟩
  · rw [enumD_len] at h
    have hl : i < (ps.map Prod.fst).length := by simpa using h
    exact ⟨_, (ps.map Prod.fst)[i], r.sq _ (sb.trans st.sub), List.getElem?_eq_getElem hl⟩
  · obtain ⟨T, x, rfl, hT, rfl, y⟩ := y
    rw [enumD_get, Option.map_eq_some_iff] at hd
    obtain ⟨d', hd', rfl⟩ := hd
    have st1 := r.item (y _ (r.sq _ (sb.trans st.sub))) hd' sb st
    have st2 : Stt K ca H F' ([(.int (i : Nat), .int (i : Nat)), (x, d')] ++ l) := st1.add (.int .nil)
    have := st2.alloc (k := .tup) (o := .tup [.int (i : Nat), x]) hT upd_same
    rw [Nat.zero_add]
    exact this
  · rw [enumD_len] at h
    exact ⟨_, r.sq _ (sb.trans st.sub), by simpa using h⟩
theorem itden_enumT (r : RowF K ca (SqT K) F a ps) : ItDen K ca (IteT K a) F (enumD 0 (ps.map Prod.snd)) := by
  refine ⟨fun i H l h ⟨F', sb, st⟩ => ?_, fun i H x H' F' l d hd sb st y => ?_, fun i H l h ⟨F', sb, st⟩ => ?_⟩
  · rw [enumD_len] at h
    have hl : i < (ps.map Prod.fst).length := by simpa using h
    exact ⟨_, (ps.map Prod.fst)[i], r.sq _ (sb.trans st.sub), List.getElem?_eq_getElem hl⟩
  · obtain ⟨T, x, rfl, hT, rfl, y⟩ := y
    rw [enumD_get, Option.map_eq_some_iff] at hd
    obtain ⟨d', hd', rfl⟩ := hd
    have st1 := r.item (y _ (r.sq _ (sb.trans st.sub))) hd' sb st
    have st2 : Stt K ca H F' ([(.int (i : Nat), .int (i : Nat)), (x, d')] ++ l) := st1.add (.int .nil)
    have := st2.alloc (k := .tup) (o := .tup [.int (i : Nat), x]) hT upd_same
    rw [Nat.zero_add]
    exact this
  · rw [enumD_len] at h
    exact ⟨_, r.sq _ (sb.trans st.sub), by simpa using h⟩
theorem zipD_get : ∀ {xs ys : List D} {i : Nat}, (zipD xs ys)[i]? = match xs[i]?, ys[i]? with
    | some x, some y => some (D.node .tup true [x, y])
    | _, _ => none
  | [], ys, i => by simp [zipD]
  | x :: xs, [], i => by simp only [zipD, List.getElem?_nil]; cases (x :: xs)[i]? <;> rfl
  | x :: xs, y :: ys, 0 => by simp [zipD]
  | x :: xs, y :: ys, i + 1 => by simp only [zipD, List.getElem?_cons_succ]; exact zipD_get
theorem zipD_len : ∀ {xs ys : List D}, (zipD xs ys).length = min xs.length ys.length
  | [], ys => by simp [zipD]
  | x :: xs, [] => by simp [zipD]
  | x :: xs, y :: ys => by simp only [zipD, List.length_cons, zipD_len]; omega
variable {b : Addr} {qs : List (V × D)}
theorem itden_zip {Sq : Hp → Addr → List V → Prop} (r : RowF K ca Sq F a ps) (r2 : RowF K ca Sq F b qs) {J : It} (jg : ∀ i H xs ys x y, Sq H a xs → Sq H b ys → xs[i]? = some x → ys[i]? = some y → J.go i H)
    (jy : ∀ i H v H', J.yld i H v H' → ∃ T x y, v = .ref T ∧ H T = none ∧ H' = upd H T (.tup [x, y]) ∧ (∀ xs, Sq H a xs → xs[i]? = some x) ∧ ∀ ys, Sq H b ys → ys[i]? = some y)
    (js : ∀ i H xs ys, Sq H a xs → Sq H b ys → (xs.length ≤ i ∨ ys.length ≤ i) → J.stop i H) : ItDen K ca J F (zipD (ps.map Prod.snd) (qs.map Prod.snd)) := by
  refine ⟨fun i H l h ⟨F', sb, st⟩ => ?_, fun i H x H' F' l d hd sb st y => ?_, fun i H l h ⟨F', sb, st⟩ => ?_⟩
  · rw [zipD_len] at h
    simp only [List.length_map] at h
    have hl : i < (ps.map Prod.fst).length := by rw [List.length_map]; omega
    have hl2 : i < (qs.map Prod.fst).length := by rw [List.length_map]; omega
    exact jg i H _ _ _ _ (r.sq _ (sb.trans st.sub)) (r2.sq _ (sb.trans st.sub)) (List.getElem?_eq_getElem hl) (List.getElem?_eq_getElem hl2)
  · obtain ⟨T, x, y2, rfl, hT, rfl, y, y3⟩ := jy _ _ _ _ y
    rw [zipD_get] at hd
    split at hd
    · rename_i d1 d2 h1 h2
      cases hd
      have st0 := r2.item (y3 _ (r2.sq _ (sb.trans st.sub))) h2 sb st
      have st1 := r.item (y _ (r.sq _ (sb.trans st.sub))) h1 sb st0
      exact Stt.alloc (ps := [(x, d1), (y2, d2)]) (k := .tup) (o := .tup [x, y2]) st1 hT upd_same
    · cases hd
  · rw [zipD_len] at h
    simp only [List.length_map] at h
    exact js i H _ _ (r.sq _ (sb.trans st.sub)) (r2.sq _ (sb.trans st.sub)) (by simp only [List.length_map]; omega)
/-- what is shared, as a row -/
theorem row_of {v : V} {k : Kd} {o : Bool} {xs : List D} {l : List (V × D)} (st : Stt K ca H F ((v, .node k o xs) :: l)) (hs : (D.node k o xs).still = true) :
    ∃ a ps, v = .ref a ∧ ps.map Prod.snd = xs ∧ (k = .lst ∨ k = .rol → RowF K ca (SqL K) F a ps) ∧ (k = .tup → RowF K ca (SqT K) F a ps) := by
  have hd := den_one st hs
  cases hd with
  | frz hn hx hc hl =>
    rename_i a ps
    refine ⟨a, ps, rfl, hx, fun hk => ⟨fun F' sb => ?_, hc.ground rfl F⟩, fun hk => ⟨fun F' sb => ?_, hc.ground rfl F⟩⟩
    · have hn := hn.mono sb
      rcases hk with rfl | rfl
      · exact .inl (.inl hn)
      · exact hn
    · subst hk
      exact hn.mono sb
end
section
variable {X : Cx} {ca : Ca} {W : WX} {k n : Nat} {c : Cs} {H F : Hp} {σ : L2.St}
theorem frz_still_ok {m : M D} {η η' : List D} {d : D} (h : mFrz m η = some (.ok d η')) : d.still = true := by
  unfold mFrz at h
  cases hm : m η with
  | none => rw [hm] at h; cases h
  | some r =>
    rw [hm] at h
    cases r with
    | exc _ _ _ => cases h
    | ok a η1 => cases h; exact frz_still a
theorem seq_still {f : Expr → M D} : ∀ {es : List Expr} {ds : List D} {η η' : List D}, seqM (fun e => mFrz (f e)) es η = some (.ok ds η') → ∀ d ∈ ds, d.still = true
  | [], ds, η, η', h => by cases h; intro d z; cases z
  | a :: r, ds, η, η', h => by
    obtain ⟨x, η1, h1, h2⟩ := bind_ok h
    obtain ⟨ys, η2, h3, h4⟩ := bind_ok h2
    cases h4
    intro d z
    rcases List.mem_cons.mp z with rfl | z
    · exact frz_still_ok h1
    · exact seq_still h3 d z
theorem snd_seqF (S : Snd ca k n) (C : CtxOk X ca k c) (tk : Takes X W) {es : List Expr} (hs : es.any isStar = false) : PA X es (tG X.K ca W (seqM (fun e => mFrz (evE c n e)) es) (pVs X.K ca)) :=
  snd_seq (fun e => PE.weak (frz_pe (S.E X c W e C tk)) fun σ H Q ⟨e, t, F, ag, st, h⟩ => ⟨e, t, F, ag, st, h.imp (fun _ _ _ z => z) fun a e H F _ _ q v hs st => q v st⟩) hs
theorem walk_of {e : Expr} {m : Nat} {es : List Expr} (h : walkOf c e = some (m, es)) : ∃ f p pos, e = .Call (.Name f p) es [] pos ∧ c.bltn f = true ∧ es.any isStar = false ∧ ((m = 0 ∧ f = ("range" : Str)) ∨ (m = 1 ∧ f = ("enumerate" : Str)) ∨ (m = 2 ∧ f = ("zip" : Str))) := by
  cases e with
  | Call f args kws pos =>
    cases f with
    | Name f p =>
      cases kws with
      | nil =>
        simp only [walkOf] at h
        split at h
        · rename_i hb
          split at h
          · cases h; exact ⟨f, p, pos, rfl, hb.1, hb.2, .inl ⟨rfl, by assumption⟩⟩
          · split at h
            · cases h; exact ⟨f, p, pos, rfl, hb.1, hb.2, .inr (.inl ⟨rfl, by assumption⟩)⟩
            · split at h
              · cases h; exact ⟨f, p, pos, rfl, hb.1, hb.2, .inr (.inr ⟨rfl, by assumption⟩)⟩
              · cases h
        · cases h
      | cons _ _ => cases h
    | _ => cases h
  | _ => cases h
theorem pi_none {tg e : Expr} {m : M (List D)} (h : ∀ η, m η = none) : PI X tg e (tIt X.K ca W m) :=
  ⟨fun pins s σ H Q I ⟨_, _, _, _, _, z⟩ => by rw [h] at z; exact False.elim z⟩
theorem PI.weak {tg e : Expr} {t t' : TI} (h : PI X tg e t) (w : ∀ σ H Q, t' σ H Q → t σ H Q) : PI X tg e t' := ⟨fun pins s σ H Q I q => h.run pins s σ H Q I (w σ H Q q)⟩
theorem rangeD_one {i j : Int} {xs : List D} (h : rangeD i j 1 = some xs) : (-(2 ^ 62) ≤ i ∧ i < 2 ^ 62 ∧ -(2 ^ 62) ≤ j ∧ j < 2 ^ 62) ∧ xs = (List.range (j - i).toNat).map fun k => D.int (i + (k : Nat)) := by
  unfold rangeD at h
  split at h
  · rename_i hb
    rw [if_pos rfl] at h
    cases h
    exact ⟨hb, rfl⟩
  · cases h
theorem rangeD_neg {i j : Int} {xs : List D} (h : rangeD i j (-1) = some xs) : (-(2 ^ 62) ≤ i ∧ i < 2 ^ 62 ∧ -(2 ^ 62) ≤ j ∧ j < 2 ^ 62) ∧ xs = (List.range (i - j).toNat).map fun k => D.int (i + (k : Nat) * (-1)) := by
  unfold rangeD at h
  split at h
  · rename_i hb
    rw [if_neg (by decide), if_pos rfl] at h
    cases h
    exact ⟨hb, rfl⟩
  · cases h
theorem isTup_of {e : Expr} (h : isTupE e = true) : ∃ es k p, e = .Tuple es k p := by
  cases e <;> first | exact ⟨_, _, _, rfl⟩ | cases h
theorem star2 {a b : Expr} {env : Env} (h : [a, b].any isStar = false) : starEach [a, b] env = [(false, eval a env), (false, eval b env)] ∧ starEach [b] env = [(false, eval b env)] := by
  simp only [List.any_cons, List.any_nil, Bool.or_false, Bool.or_eq_false_iff] at h
  have e2 : starEach [b] env = [(false, eval b env)] := star_of h.2
  exact ⟨by rw [star_of h.1, e2], e2⟩
theorem map_one {ps : List (V × D)} {d : D} (h : ps.map Prod.snd = [d]) : ∃ v, ps = [(v, d)] := by
  cases ps with
  | nil => cases h
  | cons p r => cases r with
    | nil => obtain ⟨v, d'⟩ := p; cases h; exact ⟨v, rfl⟩
    | cons _ _ => cases h
theorem map_two {ps : List (V × D)} {d d2 : D} (h : ps.map Prod.snd = [d, d2]) : ∃ v v2, ps = [(v, d), (v2, d2)] := by
  cases ps with
  | nil => cases h
  | cons p r =>
    obtain ⟨v, x⟩ := p
    simp only [List.map_cons, List.cons.injEq] at h
    obtain ⟨v2, rfl⟩ := map_one h.2
    obtain ⟨rfl, _⟩ := h
    exact ⟨v, v2, rfl⟩
theorem map_three {ps : List (V × D)} {d d2 d3 : D} (h : ps.map Prod.snd = [d, d2, d3]) : ∃ v v2 v3, ps = [(v, d), (v2, d2), (v3, d3)] := by
  cases ps with
  | nil => cases h
  | cons p r =>
    obtain ⟨v, x⟩ := p
    simp only [List.map_cons, List.cons.injEq] at h
    obtain ⟨v2, v3, rfl⟩ := map_two h.2
    obtain ⟨rfl, _⟩ := h
    exact ⟨v, v2, v3, rfl⟩
theorem stt_int {K : PySem.W.Frag} {v : V} {i : Int} {l : List (V × D)} (st : Stt K ca H F ((v, .int i) :: l)) : v = .int i := by
  obtain ⟨B, hB⟩ := st.den
  exact den_int hB
theorem snd_I (S : Snd ca k n) (C : CtxOk X ca k c) (tk : Takes X W) {tg e : Expr} : PI X tg e (tIt X.K ca W (evI c (n + 1) (isTupE tg) e)) := by
  cases hw : walkOf c e with
  | none =>
    -- a value's items
    refine ⟨fun pins s σ H R I ⟨e1, t, F, ag, st, h⟩ => ?_⟩
    have h0 : evI c (n + 1) (isTupE tg) e = (mBind (mFrz (evE c n e)) fun x => mOpt (itemsD x)) := by unfold evI; simp only [hw]
    rw [h0] at h
    have hE : PE X e (tG X.K ca W (mFrz (evE c n e)) (pS X.K ca)) := frz_pe (S.E X c W e C tk)
    -- which kind it is of
    cases hr : mFrz (evE c n e) (e1.map Prod.snd) with
    | none => rw [mBind, hr] at h; exact False.elim h
    | some r =>
      have h1 := (PostG.bind h).eqn
      cases r with
      | exc x fs η =>
        -- it never comes to the walk
        refine (pi_list (PE.weak hE fun σ H Q q => q)).run pins s σ H R I ⟨e1, t, F, ag, st, h1.imp (fun _ _ _ z => z) fun x e2 H2 F2 sb2 ag2 ⟨⟨η2, z⟩, _⟩ => ?_⟩
        rw [hr] at z; cases z
      | ok d η =>
        have hs : d.still = true := frz_still_ok hr
        have val : ∀ x e2 H2 F2, ((∃ η, mFrz (evE c n e) (e1.map Prod.snd) = some (.ok x η)) ∧ PostG X.K ca W σ t F2 (mOpt (itemsD x) (e2.map Prod.snd)) (fun items e' H' F' => ∀ J, ItDen X.K ca J F' items → Stt X.K ca H' F' (e' ++ t) → R J H')) → x = d ∧ (Agree ca σ e2 → ∃ items, itemsD d = some items ∧ ∀ J, ItDen X.K ca J F2 items → Stt X.K ca H2 F2 (e2 ++ t) → R J H2) := by
          intro x e2 H2 F2 ⟨⟨η2, z⟩, q⟩
          rw [hr] at z
          cases z
          refine ⟨rfl, fun ag2 => ?_⟩
          obtain ⟨items, h2, h3⟩ := PostG.opt q
          exact ⟨items, h2, h3 e2 H2 F2 rfl ag2 (Sub.refl F2)⟩
        cases d with
        | node kd o xs =>
          cases kd with
          | obj _ _ =>
            refine (pi_list (PE.weak hE fun σ H Q q => q)).run pins s σ H R I ⟨e1, t, F, ag, st, h1.imp (fun _ _ _ z => z) fun x e2 H2 F2 sb2 ag2 hx => ?_⟩
            obtain ⟨rfl, q⟩ := val x e2 H2 F2 hx
            obtain ⟨items, h2, _⟩ := q ag2
            cases h2
          | tup =>
            refine (pi_tup (PE.weak hE fun σ H Q q => q)).run pins s σ H R I ⟨e1, t, F, ag, st, h1.imp (fun _ _ _ z => z) fun x e2 H2 F2 sb2 ag2 hx => ?_⟩
            obtain ⟨rfl, q⟩ := val x e2 H2 F2 hx
            obtain ⟨items, h2, q⟩ := q ag2
            cases h2
            intro v hsv st2
            obtain ⟨a, ps, rfl, rfl, _, r2⟩ := row_of st2 hs
            exact ⟨a, rfl, ⟨_, (r2 rfl).sq _ st2.sub⟩, q _ (itden_tup (r2 rfl)) st2.tail⟩
          | lst =>
            refine (pi_list (PE.weak hE fun σ H Q q => q)).run pins s σ H R I ⟨e1, t, F, ag, st, h1.imp (fun _ _ _ z => z) fun x e2 H2 F2 sb2 ag2 hx => ?_⟩
            obtain ⟨rfl, q⟩ := val x e2 H2 F2 hx
            obtain ⟨items, h2, q⟩ := q ag2
            cases h2
            intro v hsv st2
            obtain ⟨a, ps, rfl, rfl, r2, _⟩ := row_of st2 hs
            exact ⟨a, rfl, ⟨_, (r2 (.inl rfl)).sq _ st2.sub⟩, q _ (itden_list (r2 (.inl rfl))) st2.tail⟩
          | rol =>
            refine (pi_list (PE.weak hE fun σ H Q q => q)).run pins s σ H R I ⟨e1, t, F, ag, st, h1.imp (fun _ _ _ z => z) fun x e2 H2 F2 sb2 ag2 hx => ?_⟩
            obtain ⟨rfl, q⟩ := val x e2 H2 F2 hx
            obtain ⟨items, h2, q⟩ := q ag2
            cases h2
            intro v hsv st2
            obtain ⟨a, ps, rfl, rfl, r2, _⟩ := row_of st2 hs
            exact ⟨a, rfl, ⟨_, (r2 (.inr rfl)).sq _ st2.sub⟩, q _ (itden_list (r2 (.inr rfl))) st2.tail⟩
        | str z =>
          refine (pi_str (PE.weak hE fun σ H Q q => q)).run pins s σ H R I ⟨e1, t, F, ag, st, h1.imp (fun _ _ _ z => z) fun x e2 H2 F2 sb2 ag2 hx => ?_⟩
          obtain ⟨rfl, q⟩ := val x e2 H2 F2 hx
          obtain ⟨items, h2, q⟩ := q ag2
          cases h2
          intro v hsv st2
          obtain ⟨B, hB⟩ := st2.den
          exact ⟨z, den_str hB, q _ itden_str st2.tail⟩
        | _ =>
          refine (pi_list (PE.weak hE fun σ H Q q => q)).run pins s σ H R I ⟨e1, t, F, ag, st, h1.imp (fun _ _ _ z => z) fun x e2 H2 F2 sb2 ag2 hx => ?_⟩
          obtain ⟨rfl, q⟩ := val x e2 H2 F2 hx
          obtain ⟨items, h2, _⟩ := q ag2
          cases h2
  | some r =>
    obtain ⟨m, es⟩ := r
    obtain ⟨f, p, pos, rfl, hb, hs, hm⟩ := walk_of hw
    obtain ⟨g1, g2, g3, g4⟩ := bltn_of C hb
    have hA := snd_seqF (es := es) S C tk hs
    rcases hm with ⟨rfl, rfl⟩ | ⟨rfl, rfl⟩ | ⟨rfl, rfl⟩
    · -- range
      match es, hs, hA, hw with
      | [], _, _, hw => exact pi_none fun η => by unfold evI; simp only [hw]
      | [a], hs, hA, hw =>
        refine ⟨fun pins s σ H R I ⟨e1, t, F, ag, st, h⟩ => ?_⟩
        unfold evI at h
        simp only [hw] at h
        refine (pi_range1 g1 g4 hA (star_of (by simpa using hs))).run pins s σ H R I ⟨e1, t, F, ag, st, (PostG.bind h).imp (fun _ _ _ z => z) fun vs e2 H2 F2 sb2 ag2 hx ps hps st2 => ?_⟩
        split at hx
        · rename_i j
          obtain ⟨items, h1, q⟩ := PostG.opt hx
          obtain ⟨v, rfl⟩ := map_one hps
          cases stt_int st2
          obtain ⟨⟨b1, b2, b3, b4⟩, rfl⟩ := rangeD_one h1
          refine ⟨j, rfl, b3, b4, q e2 H2 F2 rfl ag2 (Sub.refl F2) _ ?_ st2.tail⟩
          have := itden_range (K := X.K) (ca := ca) (F := F2) (lo := 0) (n := j.toNat)
          rw [Int.sub_zero]
          exact this
        · exact False.elim hx
      | [a, b], hs, hA, hw =>
        refine ⟨fun pins s σ H R I ⟨e1, t, F, ag, st, h⟩ => ?_⟩
        unfold evI at h
        simp only [hw] at h
        obtain ⟨s1, s2⟩ := star2 (env := X.env) hs
        refine (pi_range2 g1 g4 hA s1 s2).run pins s σ H R I ⟨e1, t, F, ag, st, (PostG.bind h).imp (fun _ _ _ z => z) fun vs e2 H2 F2 sb2 ag2 hx ps hps st2 => ?_⟩
        split at hx
        · rename_i i j
          obtain ⟨items, h1, q⟩ := PostG.opt hx
          obtain ⟨v, v2, rfl⟩ := map_two hps
          have e3 : v = .int i := stt_int st2
          have e4 : v2 = .int j := stt_int (Stt.tail st2)
          subst e3; subst e4
          obtain ⟨bb, rfl⟩ := rangeD_one h1
          exact ⟨i, j, rfl, bb, q e2 H2 F2 rfl ag2 (Sub.refl F2) _ itden_range (Stt.tail (Stt.tail st2))⟩
        · exact False.elim hx
      | [a, b, z], hs, hA, hw =>
        refine ⟨fun pins s σ H R I ⟨e1, t, F, ag, st, h⟩ => ?_⟩
        unfold evI at h
        simp only [hw] at h
        have hs' := hs
        simp only [List.any_cons, List.any_nil, Bool.or_false, Bool.or_eq_false_iff] at hs'
        refine (pi_range3 g1 g4 hA (star_of hs'.1) (nostar (by simp [hs'.2]))).run pins s σ H R I ⟨e1, t, F, ag, st, (PostG.bind h).imp (fun _ _ _ z => z) fun vs e2 H2 F2 sb2 ag2 hx ps hps st2 => ?_⟩
        split at hx
        · rename_i i j kk
          split at hx
          · rename_i hk
            subst hk
            obtain ⟨items, h1, q⟩ := PostG.opt hx
            obtain ⟨v, v2, v3, rfl⟩ := map_three hps
            have e3 : v = .int i := stt_int st2
            have e4 : v2 = .int j := stt_int (Stt.tail st2)
            have e5 : v3 = .int (-1) := stt_int (Stt.tail (Stt.tail st2))
            subst e3; subst e4; subst e5
            obtain ⟨⟨b1, b2, b3, b4⟩, rfl⟩ := rangeD_neg h1
            exact ⟨i, j, -1, _, rfl, RgC.neg b1 b2 b3 b4, q e2 H2 F2 rfl ag2 (Sub.refl F2) _ itden_rangeC (Stt.tail (Stt.tail (Stt.tail st2)))⟩
          · exact False.elim hx
        · exact False.elim hx
      | a :: b :: z :: y :: r, _, _, hw => exact pi_none fun η => by unfold evI; simp only [hw]
    · -- enumerate
      match es, hs, hA, hw with
      | [], _, _, hw => exact pi_none fun η => by unfold evI; simp only [hw]
      | [a], hs, hA, hw =>
        by_cases ht : isTupE tg = true
        · refine ⟨fun pins s σ H R I ⟨e1, t, F, ag, st, h⟩ => ?_⟩
          unfold evI at h
          simp only [hw, if_pos ht] at h
          obtain ⟨tes, tk', tp, rfl⟩ := isTup_of ht
          refine (pi_enumA g1 g4 hA (star_of (by simpa using hs))).run pins s σ H R I ⟨e1, t, F, ag, st, ((PostG.bind h).eqn).imp (fun _ _ _ z => z) fun vs e2 H2 F2 sb2 ag2 ⟨⟨η2, hz⟩, hx⟩ ps hps st2 => ?_⟩
          split at hx
          · rename_i kd o xs
            split at hx
            · rename_i hk
              obtain ⟨v, rfl⟩ := map_one hps
              obtain ⟨a', ps, rfl, rfl, r1, r1'⟩ := row_of st2 (seq_still hz _ List.mem_cons_self)
              have q := fun J hJ => hx e2 H2 F2 rfl ag2 (Sub.refl F2) J hJ st2.tail
              rcases hk with hk | hk | hk
              · exact ⟨a', _, rfl, .inl ⟨(r1 (.inl hk)).sq _ st2.sub, q _ (itden_enum (r1 (.inl hk)))⟩⟩
              · exact ⟨a', _, rfl, .inl ⟨(r1 (.inr hk)).sq _ st2.sub, q _ (itden_enum (r1 (.inr hk)))⟩⟩
              · exact ⟨a', _, rfl, .inr ⟨(r1' hk).sq _ st2.sub, q _ (itden_enumT (r1' hk))⟩⟩
            · exact False.elim hx
          · exact False.elim hx
        · exact pi_none fun η => by unfold evI; simp only [hw, if_neg ht]
      | a :: b :: r, _, _, hw => exact pi_none fun η => by unfold evI; simp only [hw]
    · -- zip
      match es, hs, hA, hw with
      | [], _, _, hw => exact pi_none fun η => by unfold evI; simp only [hw]
      | [a], _, _, hw => exact pi_none fun η => by unfold evI; simp only [hw]
      | [a, b], hs, hA, hw =>
        by_cases ht : isTupE tg = true
        · refine ⟨fun pins s σ H R I ⟨e1, t, F, ag, st, h⟩ => ?_⟩
          unfold evI at h
          simp only [hw, if_pos ht] at h
          obtain ⟨tes, tk', tp, rfl⟩ := isTup_of ht
          have hs' := hs
          simp only [List.any_cons, List.any_nil, Bool.or_false, Bool.or_eq_false_iff] at hs'
          refine (RZ.pi_zipA g1 g4 hA (star_of hs'.1) (nostar (by simp [hs'.2]))).run pins s σ H R I ⟨e1, t, F, ag, st, ((PostG.bind h).eqn).imp (fun _ _ _ z => z) fun vs e2 H2 F2 sb2 ag2 ⟨⟨η2, hz⟩, hx⟩ ps hps st2 => ?_⟩
          split at hx
          · rename_i kd o xs kd2 o2 ys
            split at hx
            · rename_i hk
              obtain ⟨v, v2, rfl⟩ := map_two hps
              obtain ⟨a', ps, rfl, rfl, r1, r1'⟩ := row_of st2 (seq_still hz _ List.mem_cons_self)
              obtain ⟨b', qs, rfl, rfl, r2, r2'⟩ := row_of (Stt.tail st2) (seq_still hz _ (by simp))
              have q := fun J hJ => hx e2 H2 F2 rfl ag2 (Sub.refl F2) J hJ (Stt.tail (Stt.tail st2))
              rcases hk with ⟨h1, h2⟩ | ⟨h1, h2⟩
              · refine ⟨a', b', _, _, rfl, .inl ⟨(r1 h1).sq _ st2.sub, (r2 h2).sq _ st2.sub, q _ (itden_zip (r1 h1) (r2 h2) (fun i H xs ys x y s1 s2 g1 g2 => ⟨xs, ys, x, y, s1, s2, g1, g2⟩) (fun _ _ _ _ y => y) fun i H xs ys s1 s2 g => ⟨xs, ys, s1, s2, g⟩)⟩⟩
              · refine ⟨a', b', _, _, rfl, .inr ⟨(r1' h1).sq _ st2.sub, (r2' h2).sq _ st2.sub, q _ (itden_zip (r1' h1) (r2' h2) (fun i H xs ys x y s1 s2 g1 g2 => ⟨xs, ys, x, y, s1, s2, g1, g2⟩) (fun _ _ _ _ y => y) fun i H xs ys s1 s2 g => ⟨xs, ys, s1, s2, g⟩)⟩⟩
            · exact False.elim hx
          · exact False.elim hx
        · exact pi_none fun η => by unfold evI; simp only [hw, if_neg ht]
      | a :: b :: z :: r, _, _, hw => exact pi_none fun η => by unfold evI; simp only [hw]
end
end Z

set_option Elab.async false
set_option linter.all false
set_option maxRecDepth 100000
set_option maxHeartbeats 4000000
namespace Z
open PySem PySem.Spec PyProof.Rows L2
section
variable {K : PySem.W.Frag} {ca : Ca} {H F F1 : Hp} {σ σ' : L2.St} {e ζ t : List (V × D)} {vs : List Nat}
theorem wipe_get : ∀ {vs : List Nat} {i : Nat}, (wipe σ vs)[i]? = if i ∈ vs ∧ i < σ.length then some none else σ[i]?
  | [], i => by simp [wipe]
  | v :: vs, i => by
    unfold wipe
    by_cases h : v = i
    · subst h
      by_cases hl : v < σ.length
      · rw [List.getElem?_set_self (by rw [wipe_length]; exact hl), if_pos ⟨List.mem_cons_self, hl⟩]
      · rw [if_neg (fun z => hl z.2), List.getElem?_eq_none (by rw [List.length_set, wipe_length]; omega), List.getElem?_eq_none (by omega)]
    · rw [List.getElem?_set_ne h, wipe_get]
      have : (i ∈ v :: vs) ↔ i ∈ vs := by
        constructor
        · intro z
          rcases List.mem_cons.mp z with z | z
          · exact absurd z.symm h
          · exact z
        · exact List.mem_cons_of_mem _
      simp only [this]
theorem wipe_eq (hl : σ'.length = σ.length) (h : ∀ i, i ∉ vs → σ'[i]? = (wipe σ vs)[i]?) : wipe σ' vs = wipe σ vs := by
  refine List.ext_getElem? fun i => ?_
  by_cases hi : i ∈ vs
  · rw [wipe_get, wipe_get, hl]
    by_cases h2 : i < σ.length
    · rw [if_pos ⟨hi, h2⟩, if_pos ⟨hi, h2⟩]
    · rw [if_neg (fun z => h2 z.2), if_neg (fun z => h2 z.2), List.getElem?_eq_none (by omega), List.getElem?_eq_none (by omega)]
  · rw [wipe_get, if_neg (fun z => hi z.1), h i hi]
/-- the slots but for some hold the values -/
def AgW (vs : List Nat) (σ : L2.St) (e : List (V × D)) : Prop := e.length = σ.length ∧ ∀ (i : Nat) (v : V) (d : D), i ∉ vs → e[i]? = some (v, d) → d.bound = true → σ[i]? = some (some v)
theorem AgW.of (a : Agree ca σ' e) (h : wipe σ' vs = wipe σ vs) : AgW vs σ e := by
  have hl : σ'.length = σ.length := by have := congrArg List.length h; rwa [wipe_length, wipe_length] at this
  refine ⟨by rw [a.1, hl], fun i v d hi he hb => ?_⟩
  have h1 := a.2.1 i v d he hb
  have h2 : (wipe σ' vs)[i]? = (wipe σ vs)[i]? := by rw [h]
  rw [wipe_get, wipe_get, if_neg (fun z => hi z.1), if_neg (fun z => hi z.1)] at h2
  rw [← h2]; exact h1
def wipeP : List Nat → List (V × D) → List (V × D)
  | [], e => e
  | i :: r, e => (wipeP r e).set i (.non, .unb)
theorem wipeP_len : ∀ {vs : List Nat}, (wipeP vs e).length = e.length
  | [] => rfl
  | i :: r => by unfold wipeP; rw [List.length_set, wipeP_len]
theorem wipeP_map : ∀ {vs : List Nat}, (wipeP vs e).map Prod.snd = wipeD vs (e.map Prod.snd)
  | [] => rfl
  | i :: r => by unfold wipeP wipeD; rw [map_set, wipeP_map]
theorem stt_unb {i : Nat} (st : Stt K ca H F (e ++ t)) : Stt K ca H F (e.set i (.non, .unb) ++ t) :=
  stt_set (st.add (DenL.unb (v := .non) .nil))
theorem wipeP_stt (st : Stt K ca H F (e ++ t)) : ∀ {vs : List Nat}, Stt K ca H F (wipeP vs e ++ t)
  | [] => st
  | i :: r => stt_unb (wipeP_stt st)
theorem wipeP_get {i : Nat} {v : V} {d : D} : ∀ {vs : List Nat}, (wipeP vs e)[i]? = some (v, d) → d.bound = true → i ∉ vs ∧ e[i]? = some (v, d)
  | [], h, _ => ⟨by simp, h⟩
  | j :: r, h, hb => by
    unfold wipeP at h
    by_cases hj : j = i
    · subst hj
      by_cases hl : j < (wipeP r e).length
      · rw [List.getElem?_set_self hl] at h; cases h; cases hb
      · rw [List.getElem?_eq_none (by simpa using hl)] at h; cases h
    · rw [List.getElem?_set_ne hj] at h
      obtain ⟨h1, h2⟩ := wipeP_get h hb
      exact ⟨by simp only [List.mem_cons, not_or]; exact ⟨fun z => hj z.symm, h1⟩, h2⟩
theorem wipeP_agree (hp : ca.pin = []) (a : AgW vs σ e) : Agree ca (wipe σ vs) (wipeP vs e) := by
  refine ⟨by rw [wipeP_len, wipe_length]; exact a.1, fun i v d h hb => ?_, fun q z => by rw [hp] at z; cases z⟩
  obtain ⟨h1, h2⟩ := wipeP_get h hb
  rw [wipe_get, if_neg (fun z => h1 z.1)]
  exact a.2 i v d h1 h2 hb
def frzP : List Nat → List (V × D) → List (V × D)
  | [], e => e
  | i :: r, e => frzP r (match e[i]? with
    | some p => e.set i (p.1, p.2.frz)
    | none => e)
/-- the slots are shared from now on -/
theorem frzP_ok : ∀ {vs : List Nat} {e : List (V × D)} {F : Hp}, Agree ca σ e → Stt K ca H F (e ++ t) → ∃ F', Sub F F' ∧ (frzP vs e).map Prod.snd = frzAt vs (e.map Prod.snd) ∧ Agree ca σ (frzP vs e) ∧ Stt K ca H F' (frzP vs e ++ t) ∧
    (∀ (i : Nat) (p : V × D), (∃ q : V × D, e[i]? = some q ∧ q.2.still = true ∧ p = q) → (frzP vs e)[i]? = some p) ∧ ∀ i ∈ vs, ∀ p : V × D, (frzP vs e)[i]? = some p → p.2.still = true
  | [], e, F, ag, st => ⟨F, Sub.refl F, rfl, ag, st, fun i p ⟨q, h, _, z⟩ => by rw [z]; exact h, fun i z => by cases z⟩
  | j :: r, e, F, ag, st => by
    unfold frzP frzAt
    cases hj : e[j]? with
    | none =>
      rw [List.getElem?_map, hj]
      obtain ⟨F', s1, h1, h2, h3, h4, h5⟩ := frzP_ok (vs := r) ag st
      refine ⟨F', s1, h1, h2, h3, h4, fun i z p hp => ?_⟩
      rcases List.mem_cons.mp z with rfl | z
      · have hl : (frzP r e).length = e.length := by have := congrArg List.length h1; rw [List.length_map] at this; rw [h2.1, ag.1]
        rw [List.getElem?_eq_none_iff] at hj
        rw [List.getElem?_eq_none (by rw [hl]; exact hj)] at hp
        cases hp
      · exact h5 i z p hp
    | some p =>
      obtain ⟨v, d⟩ := p
      rw [List.getElem?_map, hj]
      obtain ⟨F0, s0, st0, _⟩ := slot_frz st hj
      have ag0 := ag.set (d' := d.frz) hj (by rw [frz_bound]; exact id)
      obtain ⟨F', s1, h1, h2, h3, h4, h5⟩ := frzP_ok (vs := r) ag0 st0
      have hjl : j < e.length := (List.getElem?_eq_some_iff.mp hj).1
      refine ⟨F', s0.trans s1, ?_, h2, h3, fun i p ⟨q, hq, hs, z⟩ => ?_, fun i z p hp => ?_⟩
      · rw [h1, map_set]; rfl
      · subst z
        by_cases hij : j = i
        · subst hij
          rw [hj] at hq
          cases hq
          exact h4 _ _ ⟨_, by rw [List.getElem?_set_self hjl], frz_still _, by rw [still_frz _ hs]⟩
        · exact h4 i p ⟨p, by rw [List.getElem?_set_ne hij]; exact hq, hs, rfl⟩
      · rcases List.mem_cons.mp z with rfl | z
        · have := h4 i (v, d.frz) ⟨_, by rw [List.getElem?_set_self hjl], frz_still _, rfl⟩
          have hp' : (frzP r (e.set i (v, d.frz)))[i]? = some p := hp
          rw [this] at hp'
          cases hp'
          exact frz_still _
        · exact h5 i z p hp
def backP : List Nat → List (V × D) → List (V × D) → List (V × D)
  | [], _, e => e
  | i :: r, ζ, e => backP r ζ (match ζ[i]? with
    | some p => e.set i p
    | none => e)
theorem backP_map : ∀ {vs : List Nat} {e : List (V × D)}, (backP vs ζ e).map Prod.snd = backD vs (ζ.map Prod.snd) (e.map Prod.snd)
  | [], e => rfl
  | i :: r, e => by
    unfold backP backD
    rw [backP_map, List.getElem?_map]
    cases hz : ζ[i]? with
    | none => rfl
    | some p => simp only [Option.map_some]; rw [map_set]
theorem backP_stt : ∀ {vs : List Nat} {e : List (V × D)}, Stt K ca H F (e ++ t) → (∀ i ∈ vs, ∀ p, ζ[i]? = some p → DenL K ca H F [p] []) → Stt K ca H F (backP vs ζ e ++ t)
  | [], e, st, _ => st
  | i :: r, e, st, h => by
    unfold backP
    refine backP_stt ?_ fun j z => h j (List.mem_cons_of_mem _ z)
    cases hz : ζ[i]? with
    | none => exact st
    | some p => exact stt_set (st.add (h i List.mem_cons_self p hz))
theorem backP_len : ∀ {vs : List Nat} {e : List (V × D)}, (backP vs ζ e).length = e.length
  | [], e => rfl
  | i :: r, e => by
    unfold backP
    rw [backP_len]
    cases ζ[i]? with
    | none => rfl
    | some p => simp only [List.length_set]
theorem backP_get : ∀ {vs : List Nat} {e : List (V × D)} {i : Nat} {p : V × D}, (backP vs ζ e)[i]? = some p → ζ.length = e.length → ζ[i]? = some p ∨ (i ∉ vs ∧ e[i]? = some p)
  | [], e, i, p, h, _ => .inr ⟨by simp, h⟩
  | j :: r, e, i, p, h, hl => by
    unfold backP at h
    cases hz : ζ[j]? with
    | none =>
      rw [hz] at h
      rcases backP_get h hl with h | ⟨h1, h2⟩
      · exact .inl h
      · by_cases hij : i = j
        · subst hij
          rw [List.getElem?_eq_none_iff] at hz
          have h2 : e[i]? = some p := h2
          rw [List.getElem?_eq_none (by omega)] at h2
          cases h2
        · exact .inr ⟨by simp only [List.mem_cons, not_or]; exact ⟨hij, h1⟩, h2⟩
    | some q =>
      rw [hz] at h
      rcases backP_get h (by simp only [List.length_set]; omega) with h | ⟨h1, h2⟩
      · exact .inl h
      · by_cases hij : j = i
        · subst hij
          have hl2 : j < ζ.length := (List.getElem?_eq_some_iff.mp hz).1
          simp only [List.getElem?_set_self (show j < e.length by omega)] at h2
          cases h2
          exact .inl hz
        · simp only [List.getElem?_set_ne hij] at h2
          exact .inr ⟨by simp only [List.mem_cons, not_or]; exact ⟨fun z => hij z.symm, h1⟩, h2⟩
theorem backP_agree (hp : ca.pin = []) (az : Agree ca σ ζ) (a : AgW vs σ e) : Agree ca σ (backP vs ζ e) := by
  refine ⟨by rw [backP_len]; exact a.1, fun i v d h hb => ?_, fun q z => by rw [hp] at z; cases z⟩
  rcases backP_get h (by rw [az.1, a.1]) with h | ⟨h1, h2⟩
  · exact az.2.1 i v d h hb
  · exact a.2 i v d h1 h2 hb
end
section
variable {X : Cx} {ca : Ca} {W : WX} {k n : Nat} {c : Cs} {H F : Hp} {σ : L2.St}
theorem relS_scope {scope : Scope} {cl : List (Str × Addr)} {C : Addr} {env : Env} : (compEnvC scope cl C env).scope = relS scope env.scope := rfl
/-- what the runner has looked at -/
theorem own_of {tg : Expr} {scope : Scope} {vs : List Nat} (h : lcOwn c tg scope = some vs) : ∃ xs, namesOf tg = some xs ∧ xs.mapM (slotOf c.N) = some vs ∧ blkC c.N c.sc scope (xs.zip vs) = true ∧ (∀ x ∈ xs, scope.names.lookup x = some .local ∨ scope.names.lookup x = some .cell) := by
  unfold lcOwn at h
  split at h
  · rename_i xs hn
    split at h
    · rename_i vs' hm
      split at h
      · rename_i hb
        cases h
        simp only [Bool.and_eq_true, List.all_eq_true, Bool.or_eq_true, beq_iff_eq] at hb
        exact ⟨xs, hn, hm, hb.1, hb.2⟩
      · cases h
    · cases h
  · cases h
theorem mapM_slot : ∀ {xs : List Str} {vs : List Nat}, xs.mapM (slotOf c.N) = some vs → xs.length = vs.length ∧ (∀ x ∈ xs, ∃ i ∈ vs, slotOf c.N x = some i) ∧ (∀ i ∈ vs, ∃ x ∈ xs, slotOf c.N x = some i)
  | [], vs, h => by cases h; simp
  | x :: xs, vs, h => by
    rw [List.mapM_cons] at h
    simp only [Option.pure_def, Option.bind_eq_bind, Option.bind_eq_some_iff] at h
    obtain ⟨i, hi, ys, hys, h⟩ := h
    cases h
    obtain ⟨h1, h2, h3⟩ := mapM_slot hys
    refine ⟨by simp [h1], fun y hy => ?_, fun j hj => ?_⟩
    · rcases List.mem_cons.mp hy with rfl | hy
      · exact ⟨i, List.mem_cons_self, hi⟩
      · obtain ⟨j, h4, h5⟩ := h2 y hy
        exact ⟨j, List.mem_cons_of_mem _ h4, h5⟩
    · rcases List.mem_cons.mp hj with rfl | hj
      · exact ⟨x, List.mem_cons_self, hi⟩
      · obtain ⟨y, h4, h5⟩ := h3 j hj
        exact ⟨y, List.mem_cons_of_mem _ h4, h5⟩
theorem zip_snd {xs : List Str} {vs : List Nat} (h : xs.length = vs.length) : (xs.zip vs).map (·.2) = vs := by
  rw [List.map_snd_zip (by omega)]
theorem blk_ctx (C : CtxOk X ca k c) (hcur : c.cur = none) {tg : Expr} {scope : Scope} {vs : List Nat} (h : lcOwn c tg scope = some vs) (s : Shared) (H : Hp) (Ca' : Addr) (cl : List (Str × Addr)) (fp : List Addr) :
    CtxOk (X.blk s H scope (compEnvC scope cl Ca' X.env) fp) ca k (c.blk scope vs) := by
  obtain ⟨xs, h1, h2, h3, h4⟩ := own_of h
  have hb := blkOk_by h3
  obtain ⟨B0, P0⟩ := C.out hcur
  exact {
    N := C.N, nd := C.nd, dbg := C.dbg
    sc := by show relS scope X.env.scope = _; rw [C.sc]; rfl
    kind := hb.kind
    room := fun z => C.room z
    units := C.units
    calm := fun z => C.calm z
    free := C.free
    gval := C.gval
    gfn := fun z x f hf => by
      obtain ⟨fa, m1, m2⟩ := C.gfn z x f hf
      exact ⟨fa, m1, ⟨m2.ok, m2.kp, m2.len, m2.len2⟩⟩
    ginit := fun z x cl' f a1 a2 a3 => by
      obtain ⟨fa, k', m1, m2, m3⟩ := C.ginit z x cl' f a1 a2 a3
      exact ⟨fa, k', m1, m2, ⟨m3.ok, m3.kp, m3.len, m3.len2⟩⟩
    gmeth := fun z x cl' m f a1 a2 a3 => by
      obtain ⟨fa, m1, m3⟩ := C.gmeth z x cl' m f a1 a2 a3
      exact ⟨fa, m1, ⟨m3.ok, m3.kp, m3.len, m3.len2⟩⟩
    cur := fun i fs z => by
      have z : c.cur = some (i, fs) := z
      rw [hcur] at z; cases z
    pins := fun q z => by rw [P0] at z; cases z
    out := fun _ => ⟨B0, P0⟩
    gcl := fun x cl' hx => by
      have m := C.gcl x cl' hx
      exact ⟨m.at_, m.cls, m.ty, m.isa, m.notb⟩
    fnl := fun x i hi hP hl => by
      have hP : ¬ ((!vs.contains i) = true) := hP
      have hiv : i ∈ vs := by simpa using hP
      have hi : slotOf c.N x = some i := hi
      obtain ⟨y, hy, hyi⟩ := (mapM_slot h2).2.2 i hiv
      have e1 := slotOf_at hi
      rw [slotOf_at hyi] at e1
      cases e1
      rcases h4 _ hy with e | e
      · right
        show (relS scope c.sc).names.lookup _ = _
        exact lookup_relS_keep (by decide) e
      · left
        show (scope.names.lookup _ == some NameKind.cell) = true
        rw [e]; rfl }
/-- a comprehension's tests -/
def tstE (c : Cs) (n : Nat) (ifs : List Expr) : M Bool := match ifs with
  | [] => mPure true
  | [t] => evT c n t
  | _ => fun _ => none
theorem pts_of (S : Snd ca k n) (C : CtxOk X ca k c) (tk : Takes X W) {ifs : List Expr} : PTs X ifs (tMB X.K ca W (tstE c n ifs)) := by
  match ifs with
  | [] => exact ⟨fun pins s σ H Q I ⟨e, t, F, ag, st, h⟩ => pts_nil.run pins s σ H Q I (h e H F rfl ag (Sub.refl F) st)⟩
  | [x] => exact pts_one (S.T X c W x C tk)
  | x :: y :: r => exact ⟨fun pins s σ H Q I ⟨e, t, F, ag, st, h⟩ => False.elim h⟩
theorem folded_of {e : Expr} {env : Env} (h : isSetE e = false) (x : Value) : foldedSetIterable e env x = pure x := by
  cases e <;> first | rfl | cases h
theorem lcL_cons {bind : D → List D → Option (List D)} {test : M Bool} {elt : M D} {d : D} {r acc η : List D} {z : List D × List D} (h : lcL bind test elt (d :: r) acc η = some z) :
    ∃ η1, bind d η = some η1 ∧ ∃ b η2, test η1 = some (.ok b η2) ∧ ((b = false ∧ lcL bind test elt r acc η2 = some z) ∨ (b = true ∧ ∃ x η3, elt η2 = some (.ok x η3) ∧ acc.length < sizeLine ∧ lcL bind test elt r (acc ++ [x]) η3 = some z)) := by
  unfold lcL at h
  cases hb : bind d η with
  | none => rw [hb] at h; cases h
  | some η1 =>
    rw [hb] at h
    simp only at h
    refine ⟨η1, rfl, ?_⟩
    cases ht : test η1 with
    | none => rw [ht] at h; cases h
    | some q =>
      rw [ht] at h
      cases q with
      | exc _ _ _ => cases h
      | ok b η2 =>
        refine ⟨b, η2, rfl, ?_⟩
        cases b with
        | false => exact .inl ⟨rfl, h⟩
        | true =>
          simp only at h
          cases he : elt η2 with
          | none => rw [he] at h; cases h
          | some q =>
            rw [he] at h
            cases q with
            | exc _ _ _ => cases h
            | ok x η3 =>
              simp only at h
              split at h
              · rename_i hl
                exact .inr ⟨rfl, x, η3, rfl, hl, h⟩
              · cases h
/-- the turns of a comprehension -/
theorem lc_turns {tg : Expr} {vs : List Nat} {c' : Cs} {mi : M (List D)} {test : M Bool} {elt : M D} {W' : WX} (hpin : ca.pin = []) (hPc : ∀ i, i ∉ vs → c'.P i = true) {Q : VK}
    (h : (tM X.K ca W (mBind mi fun items => lcRun c' tg vs test elt items)) σ H Q) :
    tLc (tIt X.K ca W mi) (gB X.K ca c'.P (c'.bind tg)) (tMB X.K ca W' test) (tM X.K ca W' elt) vs σ H Q := by
  obtain ⟨e, t, F, ag, st, h⟩ := h
  refine ⟨e, t, F, ag, st, (PostG.bind h).imp (fun _ _ _ z => z) fun items e1 H1 F1 sb1 ag1 hx J hJ st1 L hL => ?_⟩
  unfold lcRun at hx
  obtain ⟨F2, sb2, hm2, ag2, st2, _, hst⟩ := frzP_ok (vs := vs) ag1 st1
  rw [← hm2] at hx
  cases hr : lcL (fun d η => c'.bind tg d (wipeD vs η)) test elt items [] ((frzP vs e1).map Prod.snd) with
  | none => rw [hr] at hx; exact False.elim hx
  | some z =>
    obtain ⟨accF, η4⟩ := z
    rw [hr] at hx
    have hx : ∀ e' H' F', e'.map Prod.snd = backD vs ((frzP vs e1).map Prod.snd) η4 → Agree ca σ e' → Sub F1 F' → pV X.K ca Q t (.node .lst true accF) e' H' F' := hx
    have hden : ∀ i ∈ vs, ∀ p, (frzP vs e1)[i]? = some p → ∀ H' F', Sub F2 F' → DenL X.K ca H' F' [p] [] := by
      intro i hi p hp H' F' sb
      obtain ⟨B, hB⟩ := stt_mem st2 (List.mem_append_left t (List.mem_of_getElem? hp))
      have e0 : B = [] := hB.still (by simp [D.stillL, hst i hi p hp])
      exact (hB.ground e0 H').mono sb fun b z => by cases z
    refine ⟨fun i m H => m = items.length - i ∧ i ≤ items.length ∧ ∃ (e : List (V × D)) (F' : Hp) (acc : List D), Sub F2 F' ∧ AgW vs σ e ∧ Stt X.K ca H F' ((.ref L, .node .lst true acc) :: (e ++ t)) ∧ lcL (fun d η => c'.bind tg d (wipeD vs η)) test elt (items.drop i) acc (e.map Prod.snd) = some (accF, η4), ⟨items.length, by simp, Nat.zero_le _, frzP vs e1, F2, [], Sub.refl F2, AgW.of ag2 rfl, ?_, by simpa using hr⟩, ?_⟩
    · exact Stt.alloc (ps := []) (k := .lst) (o := .lst []) st2 hL upd_same
    · rintro i m H' ⟨rfl, hi, e3, F3, acc, sb3, aw, st3, hl⟩
      by_cases hlt : i < items.length
      · refine .inr ⟨hJ.go i H' _ hlt ⟨F3, sb2.trans sb3, st3⟩, fun H'' => ∃ (e : List (V × D)) (F' : Hp) (acc : List D), Sub F2 F' ∧ AgW vs σ e ∧ Stt X.K ca H'' F' ((.ref L, .node .lst true acc) :: (e ++ t)) ∧ lcL (fun d η => c'.bind tg d (wipeD vs η)) test elt (items.drop (i + 1)) acc (e.map Prod.snd) = some (accF, η4),
          fun H'' q => ⟨items.length - (i + 1), by omega, rfl, hlt, q⟩, fun x H2 y => ?_⟩
        have hd : items[i]? = some items[i] := List.getElem?_eq_getElem hlt
        have st4 := hJ.yld i H' x H2 F3 _ _ hd (sb2.trans sb3) st3 y
        rw [List.drop_eq_getElem_cons hlt] at hl
        obtain ⟨η1, hb, b, η2, ht, hrest⟩ := lcL_cons hl
        rw [← wipeP_map] at hb
        refine ⟨wipeP vs e3, (.ref L, .node .lst true acc) :: t, F3, items[i], wipeP_agree hpin aw, ?_, η1, hb, fun σ2 e5 he5 ag5 kp st5 => ?_⟩
        · have := wipeP_stt (vs := vs) (t := (x, items[i]) :: (.ref L, .node .lst true acc) :: t) (st4.perm (perm_mu (by simp only [mu_app, mu_c]; ac_rfl)))
          exact this.perm (perm_mu (by simp only [mu_app, mu_c]; ac_rfl))
        · have hw : wipe σ2 vs = wipe σ vs := by
            refine wipe_eq ?_ fun j hj => kp j (hPc j hj)
            have l1 : e5.length = σ2.length := ag5.1
            have l2 : e5.length = e3.length := by
              have : (e5.map Prod.snd).length = (e3.map Prod.snd).length := by
                rw [he5]
                have hbl : ∀ {xs : List Str} {ds η η' : List D}, c'.storeAll xs ds η = some η' → η'.length = η.length := by
                  intro xs
                  induction xs with
                  | nil => intro ds η η' h; cases ds <;> cases h; rfl
                  | cons x r ih =>
                    intro ds η η' h
                    cases ds with
                    | nil => cases h
                    | cons d ds =>
                      simp only [Cs.storeAll] at h
                      split at h
                      · rename_i η0 h0
                        obtain ⟨i, _, _, _, _, rfl⟩ := store_ok h0
                        rw [ih h, List.length_set]
                      · cases h
                have hbl2 : ∀ {d : D} {η η' : List D}, c'.bind tg d η = some η' → η'.length = η.length := by
                  intro d η η' h
                  cases tg with
                  | Name x p =>
                    obtain ⟨i, _, _, _, _, rfl⟩ := store_ok (show c'.store x d η = some η' from h)
                    rw [List.length_set]
                  | Tuple es j p =>
                    simp only [Cs.bind] at h
                    split at h
                    · exact hbl h
                    · cases h
                  | _ => cases h
                rw [hbl2 hb, List.length_map, wipeP_len, List.length_map]
              simpa using this
            have l3 : e3.length = σ.length := aw.1
            omega
          refine ⟨hw, e5, (.ref L, .node .lst true acc) :: t, F3, ag5, st5, ?_⟩
          rw [he5, ht]
          intro e6 H6 F6 he6 ag6 sb6 st6
          cases b with
          | false =>
            simp only [Bool.false_eq_true, if_false]
            rcases hrest with ⟨_, hrest⟩ | ⟨hb', _⟩
            · exact ⟨e6, F6, acc, sb3.trans sb6, AgW.of ag6 hw, st6.perm (perm_mu (by simp only [mu_app, mu_c]; ac_rfl)), by rw [he6]; exact hrest⟩
            · cases hb'
          | true =>
            simp only [if_true]
            rcases hrest with ⟨hb', _⟩ | ⟨_, y2, η3, he, hlen, hrest⟩
            · cases hb'
            · refine ⟨e6, (.ref L, .node .lst true acc) :: t, F6, ag6, st6, ?_⟩
              rw [he6, he]
              intro e7 H7 F7 he7 ag7 sb7 w st7
              -- the new item goes into the list
              have st8 : Stt X.K ca H7 F7 ([(w, y2)] ++ (.ref L, .node .lst true acc) :: (e7 ++ t)) := st7.perm (perm_mu (by simp only [mu_app, mu_c]; ac_rfl))
              obtain ⟨ps, hn, hps, fin⟩ := Stt.put st8 (PathV.nil (v := .ref L))
              have hn : H7 L = some (.lst (ps.map Prod.fst)) := hn
              have e9 : (ps.map Prod.fst).length = acc.length := len_map2 hps
              refine ⟨_, hn, by rw [e9]; exact hlen, e7, F7, acc ++ [y2], sb3.trans (sb6.trans sb7), AgW.of ag7 hw, ?_, by rw [he7]; exact hrest⟩
              have := fin (.lst (ps.map Prod.fst ++ [w])) .lst (ps ++ [(w, y2)]) [] (by simp) (by rw [List.map_append]; exact upd_same)
              rw [List.map_append, hps] at this
              exact this
      · have e0 : i = items.length := by omega
        subst e0
        rw [List.drop_length] at hl
        simp only [lcL, Option.some.injEq, Prod.mk.injEq] at hl
        obtain ⟨rfl, rfl⟩ := hl
        refine .inl ⟨hJ.stop _ H' _ (Nat.le_refl _) ⟨F3, sb2.trans sb3, st3⟩, ?_⟩
        refine hx (backP vs (frzP vs e1) e3) H' F3 backP_map (backP_agree hpin ag2 aw) (sb2.trans sb3) _ ?_
        have := backP_stt (vs := vs) (ζ := frzP vs e1) (e := e3) (t := (.ref L, .node .lst true acc) :: t) (st3.perm (perm_mu (by simp only [mu_app, mu_c]; ac_rfl))) fun i hi p hp => hden i hi p hp _ _ sb3
        exact this.perm (perm_mu (by simp only [mu_app, mu_c]; ac_rfl))
end
end Z

set_option Elab.async false
set_option linter.all false
set_option maxRecDepth 100000
set_option maxHeartbeats 4000000
namespace Z
open PySem PySem.Spec PyProof.Rows L2
section
variable {X : Cx} {ca : Ca} {W : WX} {k n : Nat} {c : Cs} {H F : Hp} {σ : L2.St}
theorem lc_pieces (S : Snd ca k n) (C : CtxOk X ca k c) (hcur : c.cur = none) {tg elt : Expr} {ifs : List Expr} {scope : Scope} {vs : List Nat} (ho : lcOwn c tg scope = some vs) :
    ∃ own : List (Str × Nat), own.map (·.2) = vs ∧ BlkOk X.N X.env.scope scope own ∧
      (∀ (s : Shared) (H : Hp) (A : Addr) (cl : List (Str × Addr)) (fp : List Addr), PG (X.blk s H scope (compEnvC scope cl A X.env) fp) tg (gB X.K ca (c.blk scope vs).P ((c.blk scope vs).bind tg))) ∧
      (∀ (s : Shared) (H : Hp) (A : Addr) (cl : List (Str × Addr)) (fp : List Addr), PTs (X.blk s H scope (compEnvC scope cl A X.env) fp) ifs (tMB X.K ca (fun _ _ _ _ => False) (tstE (c.blk scope vs) n ifs))) ∧
      (∀ (s : Shared) (H : Hp) (A : Addr) (cl : List (Str × Addr)) (fp : List Addr), PE (X.blk s H scope (compEnvC scope cl A X.env) fp) elt (tM X.K ca (fun _ _ _ _ => False) (evE (c.blk scope vs) n elt))) := by
  obtain ⟨xs, h1, h2, h3, h4⟩ := own_of ho
  obtain ⟨l1, m1, m2⟩ := mapM_slot h2
  have tk : ∀ (s : Shared) (H : Hp) (A : Addr) (cl : List (Str × Addr)) (fp : List Addr), Takes (X.blk s H scope (compEnvC scope cl A X.env) fp) (fun _ _ _ _ => False) :=
    fun s H A cl fp u s' ⟨a, B, sI, pins, σ, H', cls, d, e, I, nb, up, sky, na, os, ag, w⟩ => False.elim w
  refine ⟨xs.zip vs, zip_snd l1, ?_, fun s H A cl fp => ?_, fun s H A cl fp => ?_, fun s H A cl fp => ?_⟩
  · rw [C.N, C.sc]; exact blkOk_by h3
  · refine pg_bind (blk_ctx C hcur ho s H A cl fp) hcur h1 fun x hx => ?_
    obtain ⟨i, _, hi⟩ := m1 x hx
    refine ⟨i, hi, ?_⟩
    show (relS scope c.sc).names.lookup x = _ ∨ (relS scope c.sc).names.lookup x = _
    rcases h4 x hx with e | e
    · exact .inl (lookup_relS_keep (by decide) e)
    · exact .inr (lookup_relS_keep (by decide) e)
  · exact pts_of S (blk_ctx C hcur ho s H A cl fp) (tk s H A cl fp)
  · exact S.E _ _ _ _ (blk_ctx C hcur ho s H A cl fp) (tk s H A cl fp)
theorem ev_lc {elt tg iter : Expr} {ifs : List Expr} {scope : Scope} {pos : Pos} : evE c (n + 1) (.ListComp elt [⟨tg, iter, ifs, 0⟩] scope pos) = (if c.cur.isSome || isSetE iter then fun _ => none else match lcOwn c tg scope with
      | none => fun _ => none
      | some vs => mBind (evI c n (isTupE tg) iter) fun items => lcRun (c.blk scope vs) tg vs (tstE (c.blk scope vs) n ifs) (evE (c.blk scope vs) n elt) items) := by
  conv => lhs; unfold evE
  match ifs with
  | [] => rfl
  | [_] => rfl
  | _ :: _ :: _ => rfl
theorem snd_lc (S : Snd ca k n) (C : CtxOk X ca k c) (tk : Takes X W) {elt tg iter : Expr} {ifs : List Expr} {scope : Scope} {pos : Pos} :
    PE X (.ListComp elt [⟨tg, iter, ifs, 0⟩] scope pos) (tM X.K ca W (evE c (n + 1) (.ListComp elt [⟨tg, iter, ifs, 0⟩] scope pos))) := by
  rw [ev_lc]
  by_cases hc : (c.cur.isSome || isSetE iter) = true
  · rw [if_pos hc]; exact tG_none fun _ => rfl
  rw [if_neg hc]
  simp only [Bool.or_eq_true, not_or, Bool.not_eq_true, Option.isSome_eq_false_iff, Option.isNone_iff_eq_none] at hc
  cases ho : lcOwn c tg scope with
  | none => exact tG_none fun _ => rfl
  | some vs =>
    obtain ⟨own, e1, b1, g1, g2, g3⟩ := lc_pieces (elt := elt) (ifs := ifs) S C hc.1 ho
    refine PE.weak (pe_lc (own := own) (C.calm hc.1) (by rw [C.N]; exact C.nd) (S.I X c W tg iter C tk) b1 g1 g2 g3 (folded_of hc.2)) fun σ H Q h => ?_
    rw [e1]
    exact lc_turns (C.out hc.1).2 (fun i hi => by show (!vs.contains i) = true; simpa using hi) h
theorem den_ints {K : PySem.W.Frag} {F : Hp} (f : Nat → Int) : ∀ l : List Nat, DenL K ca H F (l.map fun k => (V.int (f k), D.int (f k))) []
  | [] => .nil
  | _ :: r => .int (den_ints f r)
theorem rangeC_ok {f : Str} {i j : Int} {d : D} (h : rangeC f i j = some d) : RgOk i j ∧ ((f = ("list" : Str) ∧ d = .node .lst true ((List.range (j - i).toNat).map fun k => .int (i + (k : Nat)))) ∨ (f = ("tuple" : Str) ∧ d = .node .tup true ((List.range (j - i).toNat).map fun k => .int (i + (k : Nat))))) := by
  unfold rangeC at h
  split at h
  · rename_i hb
    refine ⟨hb, ?_⟩
    split at h
    · cases h; exact .inl ⟨by assumption, rfl⟩
    · split at h
      · cases h; exact .inr ⟨by assumption, rfl⟩
      · cases h
  · cases h
theorem rg_give {K : PySem.W.Frag} {i j : Int} {l : List (V × D)} {F : Hp} (st : Stt K ca H F l) {q : Addr} (hq : H q = none) : Stt K ca (upd H q (.lst (rgV i j))) F ((.ref q, .node .lst true ((List.range (j - i).toNat).map fun k => .int (i + (k : Nat)))) :: l) ∧
    Stt K ca (upd H q (.tup (rgV i j))) F ((.ref q, .node .tup true ((List.range (j - i).toNat).map fun k => .int (i + (k : Nat)))) :: l) := by
  have h0 := st.add (den_ints (fun k => i + (k : Nat)) (List.range (j - i).toNat))
  have e1 : ((List.range (j - i).toNat).map fun k => (V.int (i + (k : Nat)), D.int (i + (k : Nat)))).map Prod.fst = rgV i j := by unfold rgV; rw [List.map_map]; rfl
  have e2 : ((List.range (j - i).toNat).map fun k => (V.int (i + (k : Nat)), D.int (i + (k : Nat)))).map Prod.snd = (List.range (j - i).toNat).map fun k => D.int (i + (k : Nat)) := by rw [List.map_map]; rfl
  have a := h0.alloc (k := .lst) (o := .lst (rgV i j)) hq (by rw [e1]; exact upd_same)
  have b := h0.alloc (k := .tup) (o := .tup (rgV i j)) hq (by rw [e1]; exact upd_same)
  rw [e2] at a b
  exact ⟨a, b⟩
theorem rg_list {K : PySem.W.Frag} {a b : Int} {d : D} {l : List (V × D)} {F : Hp} {Q : VK} (h : rangeC ("list" : Str) a b = some d) (st : Stt K ca H F l) (q : ∀ v H2, Stt K ca H2 F ((v, d) :: l) → Q v H2) : RgOk a b ∧ ∀ p, H p = none → Q (.ref p) (upd H p (.lst (rgV a b))) := by
  obtain ⟨ok, h | h⟩ := rangeC_ok h
  · obtain ⟨_, rfl⟩ := h
    exact ⟨ok, fun p hp => q _ _ (rg_give st hp).1⟩
  · exact absurd h.1 (by decide)
theorem rg_tup {K : PySem.W.Frag} {a b : Int} {d : D} {l : List (V × D)} {F : Hp} {Q : VK} (h : rangeC ("tuple" : Str) a b = some d) (st : Stt K ca H F l) (q : ∀ v H2, Stt K ca H2 F ((v, d) :: l) → Q v H2) : RgOk a b ∧ ∀ p, H p = none → Q (.ref p) (upd H p (.tup (rgV a b))) := by
  obtain ⟨ok, h | h⟩ := rangeC_ok h
  · exact absurd h.1 (by decide)
  · obtain ⟨_, rfl⟩ := h
    exact ⟨ok, fun p hp => q _ _ (rg_give st hp).2⟩
theorem snd_rg1 (S : Snd ca k n) (C : CtxOk X ca k c) (tk : Takes X W) {f : Str} {x : Expr} {p p2 pos pos2 : Pos} (hf : c.bltn f = true) (hr : c.bltn ("range" : Str) = true) (hs : isStar x = false) (hcur : c.cur = none) (hn : f = ("list" : Str) ∨ f = ("tuple" : Str)) :
    PE X (.Call (.Name f p) [.Call (.Name "range" p2) [x] [] pos2] [] pos) (tM X.K ca W (mBind (evE c n x) fun d => match d with
      | .int j => mOpt (rangeC f 0 j)
      | _ => fun _ => none)) := by
  obtain ⟨g1, g2, g3, g4⟩ := bltn_of C hf
  obtain ⟨r1, r2, r3, r4⟩ := bltn_of C hr
  have hp := prg_1 (p := p2) (pos := pos2) r1 r4 (S.E X c W x C tk) (star_of hs)
  have main : ∀ (σ : L2.St) (H : Hp) (Q : VK), (tM X.K ca W (mBind (evE c n x) fun d => match d with
      | .int j => mOpt (rangeC f 0 j)
      | _ => fun _ => none)) σ H Q → tRg1 (tM X.K ca W (evE c n x)) σ H fun a b H1 => ∃ (d : D) (l : List (V × D)) (F : Hp), rangeC f a b = some d ∧ Stt X.K ca H1 F l ∧ ∀ v H2, Stt X.K ca H2 F ((v, d) :: l) → Q v H2 := by
    intro σ H Q ⟨e, t, F, ag, st, h⟩
    refine ⟨e, t, F, ag, st, (PostG.bind h).imp (fun _ _ _ z => z) fun d e1 H1 F1 sb1 ag1 hx v st1 => ?_⟩
    split at hx
    · rename_i j
      obtain ⟨d, hd, q⟩ := PostG.opt hx
      cases stt_int st1
      exact ⟨j, rfl, d, e1 ++ t, F1, hd, st1.tail, fun v H2 st2 => q e1 H2 F1 rfl ag1 (Sub.refl F1) v st2⟩
    · exact False.elim hx
  have imp : ∀ (σ : L2.St) (H : Hp) (P P' : Int → Int → Hp → Prop), (∀ a b H, P a b H → P' a b H) → tRg1 (tM X.K ca W (evE c n x)) σ H P → tRg1 (tM X.K ca W (evE c n x)) σ H P' := by
    intro σ H P P' hPP ⟨e, t, F, ag, st, h⟩
    exact ⟨e, t, F, ag, st, h.imp (fun _ _ _ z => z) fun d e1 H1 F1 sb1 ag1 hx v st1 => by obtain ⟨m, e, z⟩ := hx v st1; exact ⟨m, e, hPP _ _ _ z⟩⟩
  rcases hn with rfl | rfl
  · exact PE.weak (pe_listRg (C.calm hcur) g1 g4 hp rfl) fun σ H Q h => imp σ H _ _ (fun a b H1 ⟨d, l, F, hd, st, q⟩ => rg_list hd st q) (main σ H Q h)
  · exact PE.weak (pe_tupRg (C.calm hcur) g1 g4 hp rfl) fun σ H Q h => imp σ H _ _ (fun a b H1 ⟨d, l, F, hd, st, q⟩ => rg_tup hd st q) (main σ H Q h)
theorem snd_rg2 (S : Snd ca k n) (C : CtxOk X ca k c) (tk : Takes X W) {f : Str} {x y : Expr} {p p2 pos pos2 : Pos} (hf : c.bltn f = true) (hr : c.bltn ("range" : Str) = true) (hs : isStar x = false) (hs2 : isStar y = false) (hcur : c.cur = none) (hn : f = ("list" : Str) ∨ f = ("tuple" : Str)) :
    PE X (.Call (.Name f p) [.Call (.Name "range" p2) [x, y] [] pos2] [] pos) (tM X.K ca W (mBind (evE c n x) fun d => mBind (evE c n y) fun d2 => match d, d2 with
      | .int i, .int j => mOpt (rangeC f i j)
      | _, _ => fun _ => none)) := by
  obtain ⟨g1, g2, g3, g4⟩ := bltn_of C hf
  obtain ⟨r1, r2, r3, r4⟩ := bltn_of C hr
  have hp := prg_2 (p := p2) (pos := pos2) r1 r4 (S.E X c W x C tk) (S.E X c W y C tk) (star_of hs) (star_of hs2) (nostar (by simp [hs2]))
  have main : ∀ (σ : L2.St) (H : Hp) (Q : VK), (tM X.K ca W (mBind (evE c n x) fun d => mBind (evE c n y) fun d2 => match d, d2 with
      | .int i, .int j => mOpt (rangeC f i j)
      | _, _ => fun _ => none)) σ H Q → tRg2 (tM X.K ca W (evE c n x)) (tM X.K ca W (evE c n y)) σ H fun a b H1 => ∃ (d : D) (l : List (V × D)) (F : Hp), rangeC f a b = some d ∧ Stt X.K ca H1 F l ∧ ∀ v H2, Stt X.K ca H2 F ((v, d) :: l) → Q v H2 := by
    intro σ H Q ⟨e, t, F, ag, st, h⟩
    refine ⟨e, t, F, ag, st, (PostG.bind h).imp (fun _ _ _ z => z) fun d e1 H1 F1 sb1 ag1 hx v st1 => ?_⟩
    refine ⟨e1, (v, d) :: t, F1, ag1, stt_mid st1, (PostG.bind hx).imp (fun _ _ _ => stt_drop) fun d2 e2 H2 F2 sb2 ag2 hy w st2 => ?_⟩
    split at hy
    · rename_i i j
      obtain ⟨d, hd, q⟩ := PostG.opt hy
      cases stt_int st2
      have st3 := stt_up (e := (V.int j, D.int j) :: e2) st2
      cases stt_int st3
      exact ⟨i, j, rfl, rfl, d, e2 ++ t, F2, hd, st3.tail.tail, fun v H2 st2 => q e2 H2 F2 rfl ag2 (Sub.refl F2) v st2⟩
    · exact False.elim hy
  have imp : ∀ (σ : L2.St) (H : Hp) (P P' : Int → Int → Hp → Prop), (∀ a b H, P a b H → P' a b H) → tRg2 (tM X.K ca W (evE c n x)) (tM X.K ca W (evE c n y)) σ H P → tRg2 (tM X.K ca W (evE c n x)) (tM X.K ca W (evE c n y)) σ H P' := by
    intro σ H P P' hPP ⟨e, t, F, ag, st, h⟩
    refine ⟨e, t, F, ag, st, h.imp (fun _ _ _ z => z) fun d e1 H1 F1 sb1 ag1 hx v st1 => ?_⟩
    obtain ⟨e2, t2, F2, ag2, st2, h2⟩ := hx v st1
    exact ⟨e2, t2, F2, ag2, st2, h2.imp (fun _ _ _ z => z) fun d e1 H1 F1 sb1 ag1 hx v st1 => by obtain ⟨i, j, e, e', z⟩ := hx v st1; exact ⟨i, j, e, e', hPP _ _ _ z⟩⟩
  rcases hn with rfl | rfl
  · exact PE.weak (pe_listRg (C.calm hcur) g1 g4 hp rfl) fun σ H Q h => imp σ H _ _ (fun a b H1 ⟨d, l, F, hd, st, q⟩ => rg_list hd st q) (main σ H Q h)
  · exact PE.weak (pe_tupRg (C.calm hcur) g1 g4 hp rfl) fun σ H Q h => imp σ H _ _ (fun a b H1 ⟨d, l, F, hd, st, q⟩ => rg_tup hd st q) (main σ H Q h)
end
end Z

set_option Elab.async false
set_option linter.all false
set_option maxRecDepth 100000
set_option maxHeartbeats 4000000
namespace Z
open PySem PySem.Spec PyProof.Rows L2
section
variable {X : Cx} {ca : Ca} {W : WX} {k n : Nat} {c : Cs} {H F : Hp} {σ : L2.St}
theorem isRange_of {a : Expr} {es : List Expr} (h : isRange a = some es) : ∃ p pos, a = .Call (.Name "range" p) es [] pos := by
  cases a with
  | Call f as kws pos =>
    cases f with
    | Name f p =>
      cases kws with
      | nil =>
        simp only [isRange] at h
        split at h
        · rename_i hf
          cases h
          exact ⟨p, pos, by rw [hf]⟩
        · cases h
      | cons _ _ => cases h
    | _ => cases h
  | _ => cases h
/-- a call of a name -/
theorem snd_call (S : Snd ca k n) (C : CtxOk X ca k c) (tk : Takes X W) {f : Str} {es : List Expr} {kws : List Keyword} {p pos : Pos} : PE X (.Call (.Name f p) es kws pos) (tM X.K ca W (evE c (n + 1) (.Call (.Name f p) es kws pos))) := by
  unfold evE
  simp only
  by_cases hs : es.any isStar = true
  · rw [if_pos hs]; exact tG_none fun _ => rfl
  rw [if_neg hs]
  have hs : es.any isStar = false := by simpa using hs
  cases hfn : (if c.cur.isSome = true then none else c.isFn f) with
  | some fn =>
    simp only
    split at hfn
    · cases hfn
    · rename_i hcur
      have hcur : c.cur = none := by simpa using hcur
      cases hk : kwNames kws with
      | none => exact tG_none fun _ => rfl
      | some ks =>
        simp only
        cases hsh : findShape es.length ks fn.shapes with
        | none => exact tG_none fun _ => rfl
        | some sh => exact snd_fn S C tk hcur hfn hs hk hsh
  | none =>
    simp only
    cases hcl : (if c.cur.isSome = true then none else c.isCl f) with
    | some cl =>
      simp only
      split at hcl
      · cases hcl
      · rename_i hcur
        have hcur : c.cur = none := by simpa using hcur
        cases hex : cl.exc with
        | some _ => exact tG_none fun _ => rfl
        | none =>
          cases hin : cl.init with
          | none => exact tG_none fun _ => rfl
          | some fn =>
            cases hk : kwNames kws with
            | none => exact tG_none fun _ => rfl
            | some ks =>
              simp only
              cases hsh : findShape (es.length + 1) ks fn.shapes with
              | none => exact tG_none fun _ => rfl
              | some sh => exact snd_cl S C tk hcur hcl hex hin hs hk hsh
    | none =>
      simp only
      by_cases hb : c.bltn f = true ∧ kws.isEmpty = true
      · rw [if_pos hb]
        obtain ⟨hb, hkw⟩ := hb
        have hkw : kws = [] := by simpa using hkw
        subst hkw
        by_cases h1 : f = ("len" : Str)
        · subst h1
          rw [if_pos rfl]
          match es, hs with
          | [], _ => exact tG_none fun _ => rfl
          | [a], hs => exact snd_len S C tk hb (by simpa using hs)
          | _ :: _ :: _, _ => exact tG_none fun _ => rfl
        rw [if_neg h1]
        by_cases h2 : f = ("isinstance" : Str)
        · subst h2
          rw [if_pos rfl]
          match es, hs with
          | [], _ => exact tG_none fun _ => rfl
          | [_], _ => exact tG_none fun _ => rfl
          | [a, t], hs =>
            simp only
            cases hx : isaNames t with
            | none => exact tG_none fun _ => rfl
            | some xs =>
              simp only
              by_cases ht : (!(xs.all c.isTgt)) = true
              · rw [if_pos ht]; exact tG_none fun _ => rfl
              · rw [if_neg ht]
                have hs1 : isStar a = false := by simp only [List.any_cons, Bool.or_eq_false_iff] at hs; exact hs.1
                exact snd_isa S C tk hb hs1 hx (by simpa using ht)
          | _ :: _ :: _ :: _, _ => exact tG_none fun _ => rfl
        rw [if_neg h2]
        by_cases h3 : f = ("list" : Str) ∨ f = ("tuple" : Str) ∨ f = ("all" : Str) ∨ f = ("any" : Str)
        · rw [if_pos h3]
          match es, hs with
          | [], _ => exact tG_none fun _ => rfl
          | [a], hs =>
            simp only
            have hs1 : isStar a = false := by simpa using hs
            cases hr : isRange a with
            | none =>
              simp only
              by_cases hc : c.cur.isSome = true
              · rw [if_pos hc]; exact tG_none fun _ => rfl
              · rw [if_neg hc]; exact snd_callO S C tk hb hs1 (by simpa using hc) h3
            | some rs =>
              obtain ⟨p2, pos2, rfl⟩ := isRange_of hr
              match rs with
              | [] => exact tG_none fun _ => rfl
              | [x] =>
                simp only
                by_cases hc : (c.cur.isSome || !c.bltn ("range" : Str) || !(decide (f = ("list" : Str)) || decide (f = ("tuple" : Str))) || isStar x) = true
                · rw [if_pos hc]; exact tG_none fun _ => rfl
                · rw [if_neg hc]
                  simp only [Bool.or_eq_true, not_or, Bool.not_eq_true, Bool.not_eq_true', Bool.not_eq_false, decide_eq_true_eq] at hc
                  exact snd_rg1 S C tk hb hc.1.1.2 hc.2 (by simpa using hc.1.1.1) (by simpa using hc.1.2)
              | [x, y] =>
                simp only
                by_cases hc : (c.cur.isSome || !c.bltn ("range" : Str) || !(decide (f = ("list" : Str)) || decide (f = ("tuple" : Str))) || isStar x || isStar y) = true
                · rw [if_pos hc]; exact tG_none fun _ => rfl
                · rw [if_neg hc]
                  simp only [Bool.or_eq_true, not_or, Bool.not_eq_true, Bool.not_eq_true', Bool.not_eq_false, decide_eq_true_eq] at hc
                  exact snd_rg2 S C tk hb hc.1.1.1.2 hc.1.2 hc.2 (by simpa using hc.1.1.1.1) (by simpa using hc.1.1.2)
              | _ :: _ :: _ :: _ => exact tG_none fun _ => rfl
          | _ :: _ :: _, _ => exact tG_none fun _ => rfl
        rw [if_neg h3]
        by_cases h5 : (c.cur.isSome || !isB f || es.isEmpty) = true
        · rw [if_pos h5]; exact tG_none fun _ => rfl
        · rw [if_neg h5]
          simp only [Bool.or_eq_true, not_or, Bool.not_eq_true, Bool.not_eq_true', Bool.not_eq_false] at h5
          exact snd_callB S C tk hb hs (by simpa using h5.1.1) (by simpa using h5.1.2) (by simpa using h5.2)
      · rw [if_neg hb]; exact tG_none fun _ => rfl
/-- soundness of the runner's expressions -/
theorem snd_step (S : Snd ca k n) (S' : ∀ m, n = m + 1 → Snd ca k m) : Snd ca k (n + 1) where
  E := fun X c W e C tk => by
    cases e with
    | Constant kc j pos => exact snd_const
    | Name x pos => exact snd_name C
    | Tuple es j pos => exact snd_tup S C tk
    | List es pos => exact snd_list S C tk
    | BinOp a op b pos => exact snd_bin S C tk
    | UnaryOp op a pos =>
      cases op with
      | USub => exact snd_neg S C tk
      | Not => exact snd_not S C tk
      | _ => exact tG_none fun _ => rfl
    | BoolOp op es pos =>
      cases op with
      | And => exact S.And X c W es pos C tk
      | Or => exact S.Or X c W es pos C tk
    | IfExp t a b pos => exact snd_if S C tk
    | Compare a ops bs pos =>
      rcases cmp_shape ops bs with ⟨op, b, rfl, rfl⟩ | ⟨op, op2, b, b2, rfl, rfl⟩ | hn
      · exact snd_cmp S C tk
      · exact snd_chain S C tk
      · exact tG_none fun η => hn c n a pos η
    | Subscript a b pos =>
      by_cases hn : ∃ lo hi p, b = .Slice lo hi none p
      · obtain ⟨lo, hi, p, rfl⟩ := hn
        exact snd_cut S C tk
      · exact snd_sub S C tk fun lo hi p z => hn ⟨lo, hi, p, z⟩
    | Attribute a f pos => exact snd_attr C
    | Call f es kws pos =>
      cases f with
      | Name f p => exact snd_call S C tk
      | Attribute o m ap => exact snd_meth S C tk
      | _ => exact tG_none fun _ => rfl
    | ListComp elt gens scope pos =>
      match gens with
      | [] => exact tG_none fun _ => rfl
      | [⟨tg, iter, ifs, 0⟩] => exact snd_lc S C tk
      | [⟨tg, iter, ifs, .ofNat (m + 1)⟩] => exact tG_none fun _ => rfl
      | [⟨tg, iter, ifs, .negSucc m⟩] => exact tG_none fun _ => rfl
      | ⟨tg, iter, ifs, m⟩ :: _ :: _ => exact tG_none fun η => by unfold evE; simp
    | _ => exact tG_none fun _ => rfl
  R := fun X c W e C tk => snd_R S C tk
  O := fun X c W e C tk => snd_O S C tk
  T := fun X c W e C tk => snd_T S S' C tk
  And := fun X c W es pos C tk => snd_and S C tk
  Or := fun X c W es pos C tk => snd_or S C tk
  AndT := fun X c W es pos C tk => snd_andT S C tk
  OrT := fun X c W es pos C tk => snd_orT S C tk
  P := fun X c W o C tk => snd_part S C tk
  A := fun X c W e C tk => snd_A S C tk
  I := fun X c W tg e C tk => snd_I S C tk
theorem snd_zero : Snd ca k 0 where
  E := fun X c W e C tk => tG_none fun _ => rfl
  R := fun X c W e C tk => tG_none fun _ => rfl
  O := fun X c W e C tk => tG_none fun _ => rfl
  T := fun X c W e C tk => ⟨fun pins s σ H Q I ⟨_, _, _, _, _, z⟩ => False.elim z⟩
  And := fun X c W es pos C tk => tG_none fun _ => rfl
  Or := fun X c W es pos C tk => tG_none fun _ => rfl
  AndT := fun X c W es pos C tk => ⟨fun ss pins s σ H Q I ⟨_, _, _, _, _, z⟩ => False.elim z⟩
  OrT := fun X c W es pos C tk => ⟨fun ss pins s σ H Q I ⟨_, _, _, _, _, z⟩ => False.elim z⟩
  P := fun X c W o C tk => ⟨fun pins s σ H Q I ⟨_, _, _, _, _, z⟩ => False.elim z⟩
  A := fun X c W e C tk => ⟨fun pins s σ H Q I ⟨_, _, _, _, _, z⟩ => False.elim z⟩
  I := fun X c W tg e C tk => pi_none fun _ => rfl
theorem snd_two : ∀ n, Snd ca k n ∧ ∀ m, n = m + 1 → Snd ca k m
  | 0 => ⟨snd_zero, fun m z => by cases z⟩
  | n + 1 => ⟨snd_step (snd_two n).1 (snd_two n).2, fun m z => by cases z; exact (snd_two n).1⟩
theorem snd_all (n : Nat) : Snd ca k n := (snd_two n).1
end
end Z

set_option Elab.async false
set_option linter.all false
set_option maxRecDepth 100000
set_option maxHeartbeats 4000000
namespace Z
open PySem PySem.Spec PyProof.Rows L2
section
variable (K : PySem.W.Frag) (ca : Ca) (W : WX) (P : Nat → Bool) (σ : L2.St) (t : List (V × D)) (F : Hp) (E : Ends)
/-- the slots and the heap behind a statement -/
structure Aft (η : List D) (σ' : L2.St) (e' : List (V × D)) (F' : Hp) : Prop where
  eq : e'.map Prod.snd = η
  ag : Agree ca σ' e'
  kp : KeepP P σ σ'
  sb : Sub F F'
/-- what is wanted behind a statement -/
def PostS (r : Option Fl) : Prop := match r with
  | none => False
  | some (.nx η) => ∀ σ' e' H' F', Aft ca P σ F η σ' e' F' → Stt K ca H' F' (e' ++ t) → E.nx σ' H'
  | some (.brk η) => ∀ σ' e' H' F', Aft ca P σ F η σ' e' F' → Stt K ca H' F' (e' ++ t) → E.bk σ' H'
  | some (.cnt η) => ∀ σ' e' H' F', Aft ca P σ F η σ' e' F' → Stt K ca H' F' (e' ++ t) → E.ct σ' H'
  | some (.ret d η) => ∀ σ' e' H' F' v, Aft ca P σ F η σ' e' F' → Stt K ca H' F' ((v, d) :: (e' ++ t)) → E.rt v H'
  | some (.exc c fs η) => ∀ dx σ' e' H' F', Aft ca P σ F η σ' e' F' → ExD K ca F' dx fs → Stt K ca H' F' (e' ++ t) → W (.ref (ca.at_ c)) dx σ' H'
def tS (m : List D → Option Fl) : TS := fun E σ H => ∃ (e t : List (V × D)) (F : Hp), Agree ca σ e ∧ Stt K ca H F (e ++ t) ∧ PostS K ca W P σ t F E (m (e.map Prod.snd))
end
section
variable {K : PySem.W.Frag} {ca : Ca} {W : WX} {P : Nat → Bool} {σ σ1 : L2.St} {t t' : List (V × D)} {F F1 : Hp} {E : Ends}
theorem Aft.refl {e : List (V × D)} (ag : Agree ca σ e) : Aft ca P σ F (e.map Prod.snd) σ e F := ⟨rfl, ag, KeepP.refl _ _, Sub.refl F⟩
theorem Aft.mk' {e : List (V × D)} (ag : Agree ca σ e) (sb : Sub F F1) : Aft ca P σ F (e.map Prod.snd) σ e F1 := ⟨rfl, ag, KeepP.refl _ _, sb⟩
theorem Aft.trans {η : List D} {σ' : L2.St} {e' : List (V × D)} {F' : Hp} (h : Aft ca P σ1 F1 η σ' e' F') (kp : KeepP P σ σ1) (sb : Sub F F1) : Aft ca P σ F η σ' e' F' := ⟨h.eq, h.ag, kp.trans h.kp, sb.trans h.sb⟩
/-- on from a later state -/
theorem PostS.after {r : Option Fl} (h : PostS K ca W P σ t F E r) (kp : KeepP P σ σ1) (sb : Sub F F1) : PostS K ca W P σ1 t F1 E r := by
  cases r with
  | none => exact h
  | some r =>
    cases r with
    | nx η => exact fun σ' e' H' F' a st => h σ' e' H' F' (a.trans kp sb) st
    | brk η => exact fun σ' e' H' F' a st => h σ' e' H' F' (a.trans kp sb) st
    | cnt η => exact fun σ' e' H' F' a st => h σ' e' H' F' (a.trans kp sb) st
    | ret d η => exact fun σ' e' H' F' v a st => h σ' e' H' F' v (a.trans kp sb) st
    | exc c fs η => exact fun dx σ' e' H' F' a x st => h dx σ' e' H' F' (a.trans kp sb) x st
/-- an expression first -/
theorem PostS.flE {m : Option (R D)} {k : D → List D → Option Fl} (h : PostS K ca W P σ t F E (flE m k)) : PostG K ca W σ t F m (fun d e' H' F' => PostS K ca W P σ t F' E (k d (e'.map Prod.snd))) := by
  cases m with
  | none => exact h
  | some r =>
    cases r with
    | ok d η =>
      intro e' H' F' he ag sb
      subst he
      exact PostS.after h (KeepP.refl _ _) sb
    | exc c fs η => exact fun dx e' H' F' he ag sb hx st => h dx σ e' H' F' ⟨he, ag, KeepP.refl _ _, sb⟩ hx st
theorem PS.weak {X : Cx} {s : Stmt} {t t' : TS} (h : PS X s t) (w : ∀ E σ H, t' E σ H → t E σ H) : PS X s t' := ⟨fun pins s σ H E I q => h.run pins s σ H E I (w E σ H q)⟩
theorem PSs.weak {X : Cx} {s : List Stmt} {t t' : TS} (h : PSs X s t) (w : ∀ E σ H, t' E σ H → t E σ H) : PSs X s t' := ⟨fun pins s σ H E I q => h.run pins s σ H E I (w E σ H q)⟩
theorem ps_none {X : Cx} {s : Stmt} {m : List D → Option Fl} (h : ∀ η, m η = none) : PS X s (tS X.K ca W P m) :=
  ⟨fun pins s σ H E I ⟨_, _, _, _, _, z⟩ => by rw [h] at z; exact False.elim z⟩
end
/-- exceptions of an own class, made -/
def XcFact (X : Cx) (ca : Ca) (x : Str) (fs : List (Str × Nat)) : Prop :=
  ∀ (args : List Expr) (ta : TA) (p pos : Pos), PA X args ta → args.any isStar = false → args.length = fs.length → Gl X x → (x == ("__debug__" : Str)) = false → PMk X (.Call (.Name x p) args [] pos) (fun σ H Q => ta σ H fun vs H1 => vs.length = fs.length ∧
    if fs = [] then Q (.ref (ca.at_ x)) none H1 else ∀ dd, H1 dd = none → ∃ ws, fs.mapM (fun f => (vs[f.2]?).map fun v => (f.1, v)) = some ws ∧ Q (.ref (ca.at_ x)) (some dd) (upd H1 dd (.xd ws)))
/-- the context of statements -/
structure StOk (X : Cx) (ca : Ca) (k : Nat) (c : Cs) : Prop where
  ctx : CtxOk X ca k c
  pass : PassesOwn (model X.prog X.w) X.A X.env X.xe
  stk : c.cur = none → X.stack = X.env :: X.outer
  frm : c.cur = none → X.env.frame = some X.env.locals
  mkx : c.cur = none → ∀ x cl fs, c.g x = some (.cls cl) → cl.exc = some fs → ∀ pn xe, XcFact (X.tr pn xe) ca x fs
  exm : ∀ x y cl cy b, c.g x = some (.cls cl) → c.g y = some (.cls cy) → cl.exc.isSome = true → cl.isa.lookup y = some b → PySem.W.exmOne X.K (.ref (ca.at_ x)) (.ref (ca.at_ y)) = some b
  xf : ∀ x cl fs, c.g x = some (.cls cl) → cl.exc = some fs → XfC X.K (ca.at_ x) ∧ ∀ f ∈ fs, PySem.W.findIn X.K (.ref (ca.at_ x)) f.1 = some none
/-- soundness of statements at a fuel -/
structure SndS (ca : Ca) (k n : Nat) : Prop where
  S : ∀ (X : Cx) (c : Cs) (W : WX) (s : Stmt), StOk X ca k c → Takes X W → PS X s (tS X.K ca W c.P (evS c n s))
  Ss : ∀ (X : Cx) (c : Cs) (W : WX) (s : List Stmt), StOk X ca k c → Takes X W → PSs X s (tS X.K ca W c.P (evSs c n s))
section
variable {X : Cx} {ca : Ca} {W : WX} {k n : Nat} {c : Cs} {H F : Hp} {σ : L2.St}
theorem swap_no {e : Expr} (h : isLc e = false) (tg : Option Expr) (l : Nat) (env : Env) : swapsWith e tg l env = pure false := by
  cases e <;> first | rfl | cases h
theorem blk_fn {X : Cx} (C : CtxOk X ca k c) : X.env.blockKind = .function := by
  unfold Env.blockKind
  rw [C.sc, C.kind]
  rfl
/-- a name, stored to -/
theorem ps_name (C : CtxOk X ca k c) {x : Str} {e : Expr} {m : M D} {px pos : Pos} (he : PE X e (tM X.K ca W m)) (hs : swapsWith e (some (.Name x px)) pos.line X.env = pure false) :
    PS X (.Assign [.Name x px] e pos) (tS X.K ca W c.P fun η => flE (m η) fun d η1 => (c.store x d η1).map .nx) := by
  by_cases hl : ∃ i, slotOf c.N x = some i ∧ (c.sc.names.lookup x = some .local ∨ c.sc.names.lookup x = some .cell)
  · obtain ⟨i, hi, hl⟩ := hl
    refine PS.weak (ps_asg he (pg_store C hl hi (pos := px)) (show swapsWithSole [.Name x px] e pos.line X.env = pure false from hs)) fun E σ H ⟨e1, t, F, ag, st, h⟩ => ?_
    refine ⟨e1, t, F, ag, st, (PostS.flE h).imp (fun _ _ _ z => z) fun d e2 H2 F2 sb2 ag2 hx v st2 => ?_⟩
    refine ⟨e2, t, F2, d, ag2, st2, ?_⟩
    cases hst : c.store x d (e2.map Prod.snd) with
    | none => rw [hst] at hx; exact False.elim hx
    | some η' =>
      rw [hst] at hx
      exact ⟨η', hst, fun σ' e' he' ag' kp st' => hx σ' e' H2 F2 ⟨he', ag', kp, Sub.refl F2⟩ st'⟩
  · have hno : ∀ d η, c.store x d η = none := fun d η => by
      cases h : c.store x d η with
      | none => rfl
      | some η' =>
        obtain ⟨i, h1, h2, _⟩ := store_ok h
        exact absurd ⟨i, h1, h2⟩ hl
    refine ⟨fun pins s σ H E I ⟨e1, t, F, ag, st, h⟩ => ?_⟩
    refine wpAny_Assign_Name (thn (he.run pins s σ H _ I ⟨e1, t, F, ag, st, (PostS.flE h).imp (fun _ _ _ z => z) fun d e2 H2 F2 sb2 ag2 hx v st2 => ?_⟩) fun v s1 ⟨y, H1, I1, r1, q1⟩ => False.elim q1) hs
    rw [hno] at hx
    exact False.elim hx
theorem seqs_nil : PSs X [] (tS X.K ca W c.P (evSs c (n + 1) [])) := PSs.weak pss_nil fun E σ H ⟨e, t, F, ag, st, h⟩ => h σ e H F (Aft.refl ag) st
theorem seqs_cons (S : SndS ca k n) (C : StOk X ca k c) (tk : Takes X W) {s : Stmt} {r : List Stmt} : PSs X (s :: r) (tS X.K ca W c.P (evSs c (n + 1) (s :: r))) := by
  refine PSs.weak (pss_cons (S.S X c W s C tk) (S.Ss X c W r C tk)) fun E σ H ⟨e, t, F, ag, st, h⟩ => ⟨e, t, F, ag, st, ?_⟩
  simp only [evSs] at h
  cases hm : evS c n s (e.map Prod.snd) with
  | none => rw [hm] at h; exact h
  | some f =>
    rw [hm] at h
    cases f with
    | nx η =>
      intro σ' e' H' F' a st'
      refine ⟨e', t, F', a.ag, st', ?_⟩
      rw [a.eq]
      exact PostS.after h a.kp a.sb
    | ret d η => exact h
    | brk η => exact h
    | cnt η => exact h
    | exc x fs η => exact h
theorem st_if (S : SndS ca k n) (C : StOk X ca k c) (tk : Takes X W) {q : Expr} {a b : List Stmt} {pos : Pos} : PS X (.If q a b pos) (tS X.K ca W c.P (evS c (n + 1) (.If q a b pos))) := by
  refine PS.weak (ps_if ((snd_all n).T X c W q C.ctx tk) (S.Ss X c W a C tk) (S.Ss X c W b C tk)) fun E σ H ⟨e, t, F, ag, st, h⟩ => ⟨e, t, F, ag, st, ?_⟩
  simp only [evS] at h
  cases hm : evT c n q (e.map Prod.snd) with
  | none => rw [hm] at h; exact h
  | some r =>
    rw [hm] at h
    cases r with
    | exc x fs η => exact fun dx e' H' F' he ag' sb hx st' => h dx σ e' H' F' ⟨he, ag', KeepP.refl _ _, sb⟩ hx st'
    | ok b η =>
      intro e' H' F' he ag' sb st'
      cases b with
      | true => exact ⟨e', t, F', ag', st', by rw [he]; exact PostS.after h (KeepP.refl _ _) sb⟩
      | false => exact ⟨e', t, F', ag', st', by rw [he]; exact PostS.after h (KeepP.refl _ _) sb⟩
theorem st_while (S : SndS ca k n) (C : StOk X ca k c) (tk : Takes X W) {q : Expr} {body : List Stmt} {pos : Pos} : PS X (.While q body [] pos) (tS X.K ca W c.P (evS c (n + 1) (.While q body [] pos))) := by
  refine PS.weak (ps_while C.pass ((snd_all n).T X c W q C.ctx tk) (S.Ss X c W body C tk)) fun E σ H ⟨e, t, F, ag, st, h⟩ => ?_
  have h : PostS X.K ca W c.P σ t F E (whileL (evT c n q) (evSs c n body) c.wf (e.map Prod.snd)) := h
  refine ⟨fun m σ1 H1 => ∃ (e1 : List (V × D)) (F1 : Hp), Agree ca σ1 e1 ∧ KeepP c.P σ σ1 ∧ Sub F F1 ∧ Stt X.K ca H1 F1 (e1 ++ t) ∧ PostS X.K ca W c.P σ1 t F1 E (whileL (evT c n q) (evSs c n body) m (e1.map Prod.snd)), ⟨c.wf, e, F, ag, KeepP.refl _ _, Sub.refl F, st, h⟩, ?_⟩
  rintro m σ1 H1 ⟨e1, F1, ag1, kp1, sb1, st1, h1⟩
  refine ⟨e1, t, F1, ag1, st1, ?_⟩
  cases m with
  | zero => exact False.elim h1
  | succ m =>
    unfold whileL at h1
    cases hm : evT c n q (e1.map Prod.snd) with
    | none => rw [hm] at h1; exact h1
    | some r =>
      rw [hm] at h1
      cases r with
      | exc x fs η => exact fun dx e' H' F' he ag' sb hx st' => h1 dx σ1 e' H' F' ⟨he, ag', KeepP.refl _ _, sb⟩ hx st'
      | ok b η =>
        intro e2 H2 F2 he2 ag2 sb2 st2
        cases b with
        | false =>
          simp only [Bool.false_eq_true, if_false]
          exact h1 σ1 e2 H2 F2 ⟨he2, ag2, KeepP.refl _ _, sb2⟩ st2
        | true =>
          simp only [if_true]
          refine ⟨fun σ3 H3 => ∃ (e3 : List (V × D)) (F3 : Hp), Agree ca σ3 e3 ∧ KeepP c.P σ σ3 ∧ Sub F F3 ∧ Stt X.K ca H3 F3 (e3 ++ t) ∧ PostS X.K ca W c.P σ3 t F3 E (whileL (evT c n q) (evSs c n body) m (e3.map Prod.snd)), fun σ3 H3 z => ⟨m, Nat.lt_succ_self m, z⟩, e2, t, F2, ag2, st2, ?_⟩
          rw [he2]
          simp only at h1
          have h1 := PostS.after h1 (KeepP.refl _ _) sb2
          cases hb : evSs c n body η with
          | none => rw [hb] at h1; exact h1
          | some f =>
            rw [hb] at h1
            cases f with
            | nx η3 => exact fun σ3 e3 H3 F3 a st3 => ⟨e3, F3, a.ag, kp1.trans a.kp, sb1.trans (sb2.trans a.sb), st3, by rw [a.eq]; exact PostS.after h1 a.kp a.sb⟩
            | cnt η3 => exact fun σ3 e3 H3 F3 a st3 => ⟨e3, F3, a.ag, kp1.trans a.kp, sb1.trans (sb2.trans a.sb), st3, by rw [a.eq]; exact PostS.after h1 a.kp a.sb⟩
            | brk η3 => exact h1
            | ret d η3 => exact h1
            | exc x fs η3 => exact h1
/-- the turns of a for -/
theorem forL_cons {bind : D → List D → Option (List D)} {body : List D → Option Fl} {d : D} {r η : List D} {W : WX} {P : Nat → Bool} {t : List (V × D)} {E : Ends} (h : PostS X.K ca W P σ t F E (forL bind body (d :: r) η)) : ∃ η1, bind d η = some η1 ∧ PostS X.K ca W P σ t F E (match body η1 with
      | some (.nx η2) => forL bind body r η2
      | some (.cnt η2) => forL bind body r η2
      | some (.brk η2) => some (.nx η2)
      | x => x) := by
  unfold forL at h
  cases hb : bind d η with
  | none => rw [hb] at h; exact False.elim h
  | some η1 => rw [hb] at h; exact ⟨η1, rfl, h⟩
theorem st_for (S : SndS ca k n) (C : StOk X ca k c) (tk : Takes X W) {tg iter : Expr} {body : List Stmt} {pos : Pos} : PS X (.For tg iter body [] pos) (tS X.K ca W c.P (evS c (n + 1) (.For tg iter body [] pos))) := by
  by_cases hcur : (c.cur.isSome || isSetE iter) = true
  · refine ps_none fun η => ?_
    simp only [evS]
    rw [if_pos hcur]
  have hc : c.cur = none ∧ isSetE iter = false := by simpa [Bool.or_eq_true, not_or] using hcur
  cases hnm : namesOf tg with
  | none =>
    refine ps_none fun η => ?_
    simp only [evS]
    rw [if_neg hcur, hnm]
  | some xs =>
    by_cases hx : (xs.all fun x => (slotOf c.N x).isSome && (c.sc.names.lookup x == some .local || c.sc.names.lookup x == some .cell)) = true
    · have hx' : ∀ x ∈ xs, ∃ i, slotOf c.N x = some i ∧ (c.sc.names.lookup x = some .local ∨ c.sc.names.lookup x = some .cell) := fun x hm => by
        rw [List.all_eq_true] at hx
        have := hx x hm
        simp only [Bool.and_eq_true, Option.isSome_iff_exists, Bool.or_eq_true, beq_iff_eq] at this
        exact ⟨this.1.choose, this.1.choose_spec, this.2⟩
      refine PS.weak (ps_for C.pass (C.ctx.calm hc.1) ((snd_all n).I X c W tg iter C.ctx tk) (pg_bind C.ctx hc.1 hnm hx') (S.Ss X c W body C tk) (folded_of hc.2)) fun E σ H ⟨e, t, F, ag, st, h⟩ => ?_
      simp only [evS] at h
      rw [if_neg hcur, hnm] at h
      simp only at h
      rw [if_pos hx] at h
      refine ⟨e, t, F, ag, st, ?_⟩
      cases hm : evI c n (isTupE tg) iter (e.map Prod.snd) with
      | none => rw [hm] at h; exact h
      | some r =>
        rw [hm] at h
        cases r with
        | exc x fs η => exact fun dx e' H' F' he ag' sb hx st' => h dx σ e' H' F' ⟨he, ag', KeepP.refl _ _, sb⟩ hx st'
        | ok items η =>
          intro e1 H1 F1 he1 ag1 sb1 J hJ st1
          have h := PostS.after h (KeepP.refl _ _) sb1
          refine ⟨fun i m σ2 H2 => m = items.length - i ∧ i ≤ items.length ∧ ∃ (e2 : List (V × D)) (F2 : Hp), Agree ca σ2 e2 ∧ Sub F1 F2 ∧ Stt X.K ca H2 F2 (e2 ++ t) ∧ PostS X.K ca W c.P σ2 t F2 E (forL (c.bind tg) (evSs c n body) (items.drop i) (e2.map Prod.snd)), ⟨items.length, by simp, Nat.zero_le _, e1, F1, ag1, Sub.refl F1, st1, by rw [he1]; exact h⟩, ?_⟩
          rintro i m σ2 H2 ⟨rfl, hi, e2, F2, ag2, sb2, st2, h2⟩
          by_cases hlt : i < items.length
          · refine .inr ⟨hJ.go i H2 _ hlt ⟨F2, sb2, st2⟩, fun σ3 H3 => ∃ (e3 : List (V × D)) (F3 : Hp), Agree ca σ3 e3 ∧ Sub F1 F3 ∧ Stt X.K ca H3 F3 (e3 ++ t) ∧ PostS X.K ca W c.P σ3 t F3 E (forL (c.bind tg) (evSs c n body) (items.drop (i + 1)) (e3.map Prod.snd)),
              fun σ3 H3 z => ⟨items.length - (i + 1), by omega, rfl, hlt, z⟩, fun x H3 y => ?_⟩
            have hd : items[i]? = some items[i] := List.getElem?_eq_getElem hlt
            have st3 := hJ.yld i H2 x H3 F2 _ _ hd sb2 st2 y
            rw [List.drop_eq_getElem_cons hlt] at h2
            obtain ⟨η1, hb, h3⟩ := forL_cons h2
            refine ⟨e2, t, F2, items[i], ag2, st3, η1, hb, fun σ4 e4 he4 ag4 kp4 st4 => ?_⟩
            refine ⟨e4, t, F2, ag4, st4, ?_⟩
            rw [he4]
            have h3 := PostS.after h3 kp4 (Sub.refl F2)
            cases hbd : evSs c n body η1 with
            | none => rw [hbd] at h3; exact h3
            | some f =>
              rw [hbd] at h3
              cases f with
              | nx η5 => exact fun σ5 e5 H5 F5 a st5 => ⟨e5, F5, a.ag, sb2.trans a.sb, st5, by rw [a.eq]; exact PostS.after h3 a.kp a.sb⟩
              | cnt η5 => exact fun σ5 e5 H5 F5 a st5 => ⟨e5, F5, a.ag, sb2.trans a.sb, st5, by rw [a.eq]; exact PostS.after h3 a.kp a.sb⟩
              | brk η5 => exact h3
              | ret d η5 => exact h3
              | exc x fs η5 => exact h3
          · have e0 : i = items.length := by omega
            subst e0
            rw [List.drop_length] at h2
            exact .inl ⟨hJ.stop _ H2 _ (Nat.le_refl _) ⟨F2, sb2, st2⟩, h2 σ2 e2 H2 F2 (Aft.refl ag2) st2⟩
    · refine ps_none fun η => ?_
      simp only [evS]
      rw [if_neg hcur, hnm]
      simp only
      rw [if_neg hx]
end
end Z

set_option Elab.async false
set_option linter.all false
set_option maxRecDepth 100000
set_option maxHeartbeats 4000000
namespace Z
open PySem PySem.Spec PyProof.Rows L2
section
variable {X : Cx} {ca : Ca} {W : WX} {k n : Nat} {c : Cs} {H F : Hp} {σ : L2.St}
theorem st_pass {pos : Pos} : PS X (.Pass pos) (tS X.K ca W c.P (evS c (n + 1) (.Pass pos))) := PS.weak ps_pass fun E σ H ⟨e, t, F, ag, st, h⟩ => h σ e H F (Aft.refl ag) st
theorem st_break {pos : Pos} : PS X (.Break pos) (tS X.K ca W c.P (evS c (n + 1) (.Break pos))) := PS.weak ps_break fun E σ H ⟨e, t, F, ag, st, h⟩ => h σ e H F (Aft.refl ag) st
theorem st_cont {pos : Pos} : PS X (.Continue pos) (tS X.K ca W c.P (evS c (n + 1) (.Continue pos))) := PS.weak ps_continue fun E σ H ⟨e, t, F, ag, st, h⟩ => h σ e H F (Aft.refl ag) st
theorem st_retN {pos : Pos} : PS X (.Return none pos) (tS X.K ca W c.P (evS c (n + 1) (.Return none pos))) := PS.weak ps_retN fun E σ H ⟨e, t, F, ag, st, h⟩ => h σ e H F .non (Aft.refl ag) (st.add (.non .nil))
theorem ret_E (C : StOk X ca k c) (tk : Takes X W) {e : Expr} {pos : Pos} : PS X (.Return (some e) pos) (tS X.K ca W c.P fun η => flE (evE c n e η) fun d η1 => some (.ret d η1)) := by
  refine PS.weak (ps_ret ((snd_all n).E X c W e C.ctx tk)) fun E σ H ⟨e, t, F, ag, st, h⟩ => ⟨e, t, F, ag, st, (PostS.flE h).imp (fun _ _ _ z => z) fun d e2 H2 F2 sb2 ag2 hx v st2 => ?_⟩
  exact hx σ e2 H2 F2 v (Aft.refl ag2) st2
theorem st_ret (C : StOk X ca k c) (tk : Takes X W) {e : Expr} {pos : Pos} : PS X (.Return (some e) pos) (tS X.K ca W c.P (evS c (n + 1) (.Return (some e) pos))) := by
  cases hn : isName e with
  | none =>
    have : evS c (n + 1) (.Return (some e) pos) = fun η => flE (evE c n e η) fun d η1 => some (.ret d η1) := by funext η; simp only [evS, hn]
    rw [this]; exact ret_E C tk
  | some x =>
    cases hi : c.slot x with
    | none =>
      have : evS c (n + 1) (.Return (some e) pos) = fun η => flE (evE c n e η) fun d η1 => some (.ret d η1) := by funext η; simp only [evS, hn, hi]
      rw [this]; exact ret_E C tk
    | some i =>
      by_cases hP : c.P i = true
      · have : evS c (n + 1) (.Return (some e) pos) = fun η => flE (evE c n e η) fun d η1 => some (.ret d η1) := by funext η; simp only [evS, hn, hi]; rw [if_pos hP]
        rw [this]; exact ret_E C tk
      · cases e with
        | Name y py =>
          cases hn
          refine PS.weak (ps_ret (pe_slot C.ctx hi)) fun E σ H ⟨e, t, F, ag, st, h⟩ => ?_
          simp only [evS, isName, hi] at h
          rw [if_neg hP] at h
          cases hd : (e.map Prod.snd)[i]? with
          | none => rw [hd] at h; exact False.elim h
          | some d =>
            rw [hd] at h
            simp only at h
            by_cases hb : d.bound = true
            · rw [if_pos hb] at h
              obtain ⟨v, hv⟩ := map_get hd
              refine ⟨v, ag.get hv hb, ?_⟩
              refine h σ (e.set i (v, .unb)) H F v ⟨by rw [map_set], ag.set hv (fun z => by cases z), KeepP.refl _ _, Sub.refl F⟩ ?_
              have p1 := st.perm (slot_perm (t := t) hv)
              have p2 : Stt X.K ca H F ((v, .unb) :: ((v, d) :: ((e.take i ++ e.drop (i + 1)) ++ t))) := p1.add (.unb .nil)
              have p3 := p2.perm (List.Perm.swap (v, d) (v, D.unb) ((e.take i ++ e.drop (i + 1)) ++ t))
              exact p3.perm ((slot_perm' (t := t) (y := (v, .unb)) hv).cons _)
            · rw [if_neg hb] at h; exact False.elim h
        | _ => cases hn
theorem st_expr (C : StOk X ca k c) (tk : Takes X W) {e : Expr} {pos : Pos} : PS X (.Expr e pos) (tS X.K ca W c.P (evS c (n + 1) (.Expr e pos))) := by
  have main : (∀ x j p, e ≠ .Constant (.str x) j p) → PS X (.Expr e pos) (tS X.K ca W c.P (evS c (n + 1) (.Expr e pos))) := fun hne => by
    have h0 : evS c (n + 1) (.Expr e pos) = fun η => if isLc e = true then none else flE (evE c n e η) fun _ η1 => some (.nx η1) := by
      funext η
      cases e with
      | Constant kc j p =>
        cases kc with
        | str x => exact absurd rfl (hne x j p)
        | _ => rfl
      | _ => rfl
    rw [h0]
    by_cases hl : isLc e = true
    · exact ps_none fun η => by rw [if_pos hl]
    · refine PS.weak (ps_expr ((snd_all n).E X c W e C.ctx tk) (swap_no (by simpa using hl) _ _ _)) fun E σ H ⟨e, t, F, ag, st, h⟩ => ?_
      simp only [if_neg hl] at h
      exact ⟨e, t, F, ag, st, (PostS.flE h).imp (fun _ _ _ z => z) fun d e2 H2 F2 sb2 ag2 hx v st2 => hx σ e2 H2 F2 (Aft.refl ag2) st2.tail⟩
  by_cases hne : ∃ x j p, e = .Constant (.str x) j p
  · obtain ⟨x, j, p, rfl⟩ := hne
    exact PS.weak ps_doc fun E σ H ⟨e, t, F, ag, st, h⟩ => h σ e H F (Aft.refl ag) st
  · exact main fun x j p z => hne ⟨x, j, p, z⟩
/-- name = [..], where the comprehension stores by itself -/
theorem st_lc (C : StOk X ca k c) (tk : Takes X W) {x : Str} {px pos lp : Pos} {elt tg iter : Expr} {ifs : List Expr} {scope : Scope} {i : Nat} (hi : slotOf c.N x = some i) (hl : c.sc.names.lookup x = some .local) (hline : (px.line == lp.line) = true) (ha : (scope.names.any fun (n, k) => n == x && (k == .local || k == .cell)) = false) :
    PS X (.Assign [.Name x px] (.ListComp elt [⟨tg, iter, ifs, 0⟩] scope lp) pos) (tS X.K ca W c.P fun η => flE (evE c n (.ListComp elt [⟨tg, iter, ifs, 0⟩] scope lp) η) fun d η1 => (c.store x d η1).map .nx) := by
  cases n with
  | zero => exact ps_none fun _ => rfl
  | succ n =>
    rw [ev_lc]
    by_cases hc : (c.cur.isSome || isSetE iter) = true
    · rw [if_pos hc]; exact ps_none fun _ => rfl
    rw [if_neg hc]
    simp only [Bool.or_eq_true, not_or, Bool.not_eq_true, Option.isSome_eq_false_iff, Option.isNone_iff_eq_none] at hc
    cases ho : lcOwn c tg scope with
    | none => exact ps_none fun _ => rfl
    | some vs =>
      obtain ⟨own, e1, b1, g1, g2, g3⟩ := lc_pieces (elt := elt) (ifs := ifs) (snd_all n) C.ctx hc.1 ho
      have hk : X.env.scope.names.lookup x = some .local := by rw [C.ctx.sc]; exact hl
      refine PS.weak (ps_setLc (own := own) (C.ctx.calm hc.1) (by rw [C.ctx.N]; exact C.ctx.nd) (by rw [C.ctx.N]; exact slotOf_at hi) hk (sw_true (by rw [C.ctx.sc]; exact C.ctx.kind) hk hline ha) ((snd_all n).I X c W tg iter C.ctx tk) b1 g1 g2 g3 (folded_of hc.2)) fun E σ H ⟨e, t, F, ag, st, h⟩ => ?_
      show tLc _ _ _ _ _ σ H _
      rw [e1]
      refine lc_turns (C.ctx.out hc.1).2 (fun i hi => by show (!vs.contains i) = true; simpa using hi) ⟨e, t, F, ag, st, (PostS.flE h).imp (fun _ _ _ z => z) fun d e2 H2 F2 sb2 ag2 hx v st2 => ?_⟩
      cases hst : c.store x d (e2.map Prod.snd) with
      | none => rw [hst] at hx; exact False.elim hx
      | some η' =>
        rw [hst] at hx
        obtain ⟨i', h1, h2, h3, h4, rfl⟩ := store_ok hst
        rw [hi] at h1
        cases h1
        refine hx _ (e2.set i (v, d)) H2 F2 ⟨by rw [map_set], ag2.store C.ctx.pins h3, fun j hj => ?_, Sub.refl F2⟩ (stt_set st2)
        have ne : i ≠ j := fun z => h3 (by rw [z]; exact hj)
        rw [List.getElem?_set_ne ne]
theorem st_name (C : StOk X ca k c) (tk : Takes X W) {x : Str} {e : Expr} {px pos : Pos} : PS X (.Assign [.Name x px] e pos) (tS X.K ca W c.P (evS c (n + 1) (.Assign [.Name x px] e pos))) := by
  have h0 : evS c (n + 1) (.Assign [.Name x px] e pos) = fun η => if (slotOf c.N x).isNone = true then none else flE (evE c n e η) fun d η1 => (c.store x d η1).map .nx := by funext η; simp only [evS]
  rw [h0]
  cases hi : slotOf c.N x with
  | none => exact ps_none fun _ => rfl
  | some i =>
    show PS X _ (tS X.K ca W c.P fun η => flE (evE c n e η) fun d η1 => (c.store x d η1).map .nx)
    by_cases hl : isLc e = true
    · cases e with
      | ListComp elt gens scope lp =>
        cases hb : (X.env.blockKind == .function && X.env.kindOf x == some .local && px.line == lp.line && !(scope.names.any fun (n, k) => n == x && (k == .local || k == .cell))) with
        | false => exact ps_name C.ctx ((snd_all n).E X c W _ C.ctx tk) (by unfold swapsWith; show pure _ = pure _; exact congrArg pure hb)
        | true =>
          simp only [Bool.and_eq_true, Bool.not_eq_true'] at hb
          have hk : X.env.scope.names.lookup x = some .local := by simpa [Env.kindOf] using hb.1.1.2
          rw [C.ctx.sc] at hk
          match gens with
          | [⟨tg, iter, ifs, 0⟩] => exact st_lc C tk hi hk hb.1.2 hb.2
          | [] => cases n <;> exact ps_none fun _ => rfl
          | [⟨tg, iter, ifs, .ofNat (m + 1)⟩] => cases n <;> exact ps_none fun _ => rfl
          | [⟨tg, iter, ifs, .negSucc m⟩] => cases n <;> exact ps_none fun _ => rfl
          | ⟨tg, iter, ifs, m⟩ :: _ :: _ =>
            cases n with
            | zero => exact ps_none fun _ => rfl
            | succ n => exact ps_none fun η => by unfold evE; simp [flE]
      | SetComp _ _ _ _ => cases n <;> exact ps_none fun _ => rfl
      | DictComp _ _ _ _ _ => cases n <;> exact ps_none fun _ => rfl
      | _ => cases hl
    · exact ps_name C.ctx ((snd_all n).E X c W e C.ctx tk) (swap_no (by simpa using hl) _ _ _)
/-! ### rows of targets -/
theorem all_names : ∀ {xs : List Str} {ds η η' : List D}, c.storeAll xs ds η = some η' → ∀ x ∈ xs, ∃ i, slotOf c.N x = some i ∧ (c.sc.names.lookup x = some .local ∨ c.sc.names.lookup x = some .cell)
  | [], ds, η, η', _, x, z => by cases z
  | y :: r, [], η, η', h, x, z => by cases h
  | y :: r, d :: ds, η, η', h, x, z => by
    simp only [Cs.storeAll] at h
    split at h
    · rename_i η1 h1
      rcases List.mem_cons.mp z with rfl | z
      · obtain ⟨i, a, b, _⟩ := store_ok h1
        exact ⟨i, a, b⟩
      · exact all_names h x z
    · cases h
theorem bind_names {tg : Expr} {d : D} {η η' : List D} (h : c.bind tg d η = some η') : ∃ xs, namesOf tg = some xs ∧ ∀ x ∈ xs, ∃ i, slotOf c.N x = some i ∧ (c.sc.names.lookup x = some .local ∨ c.sc.names.lookup x = some .cell) := by
  cases tg with
  | Name x p =>
    obtain ⟨i, a, b, _⟩ := store_ok (show c.store x d η = some η' from h)
    refine ⟨[x], rfl, fun y hy => ?_⟩
    have : y = x := by simpa using hy
    subst this
    exact ⟨i, a, b⟩
  | Tuple es j p =>
    simp only [Cs.bind] at h
    split at h
    · rename_i xs o ds hn
      exact ⟨xs, hn, all_names h⟩
    · cases h
  | _ => cases h
theorem pg_any (C : CtxOk X ca k c) (hcur : c.cur = none) {tg : Expr} : PG X tg (gB X.K ca c.P (c.bind tg)) := by
  refine ⟨fun pins s σ H v u Q I r h => ?_⟩
  obtain ⟨e, t, F, d, ag, st, η', hm, q⟩ := h
  obtain ⟨xs, h1, h2⟩ := bind_names hm
  exact (pg_bind C hcur h1 h2).run pins s σ H v u Q I r ⟨e, t, F, d, ag, st, η', hm, q⟩
/-- target = value -/
theorem ps_row (C : CtxOk X ca k c) (hcur : c.cur = none) {tg e : Expr} {m : M D} {pos : Pos} (he : PE X e (tM X.K ca W m)) (hs : swapsWithSole [tg] e pos.line X.env = pure false) (hw : swappedStores [tg] e X.env = pure none) (h1 : (assignEach [tg] X.env).map (·.2) = [assign tg X.env]) :
    PS X (.Assign [tg] e pos) (tS X.K ca W c.P fun η => flE (m η) fun d η1 => (c.bind tg d η1).map .nx) := by
  refine PS.weak (ps_asg he (pg_any C hcur) hs hw h1) fun E σ H ⟨e1, t, F, ag, st, h⟩ => ?_
  refine ⟨e1, t, F, ag, st, (PostS.flE h).imp (fun _ _ _ z => z) fun d e2 H2 F2 sb2 ag2 hx v st2 => ?_⟩
  refine ⟨e2, t, F2, d, ag2, st2, ?_⟩
  cases hst : c.bind tg d (e2.map Prod.snd) with
  | none => rw [hst] at hx; exact False.elim hx
  | some η' =>
    rw [hst] at hx
    exact ⟨η', rfl, fun σ' e' he' ag' kp st' => hx σ' e' H2 F2 ⟨he', ag', kp, Sub.refl F2⟩ st'⟩
end
end Z

set_option Elab.async false
set_option linter.all false
set_option maxRecDepth 100000
set_option maxHeartbeats 4000000
namespace Z
open PySem PySem.Spec PyProof.Rows L2
section
variable {X : Cx} {ca : Ca} {W : WX} {k n : Nat} {c : Cs} {H F : Hp} {σ : L2.St}
def parFn (sc : Scope) (l : Nat) (x : Expr) : Option Str := match x with
    | .Name id pos => if (sc.names.lookup id == some NameKind.local && pos.line == l) = true then some id else none
    | _ => none
def parNames (sc : Scope) (ts : List Expr) : List Str := ts.filterMap (parFn sc ((ts.head?.map fun x => x.pos.line).getD 0))
theorem parFn_ok (sc : Scope) (l : Nat) (e : Expr) : parFn sc l e = none ∨ ∃ x p, e = .Name x p ∧ sc.names.lookup x = some .local ∧ parFn sc l e = some x := by
  cases e with
  | Name x p =>
    simp only [parFn]
    split
    · rename_i hc
      simp only [Bool.and_eq_true, beq_iff_eq] at hc
      exact .inr ⟨x, p, rfl, hc.1, rfl⟩
    · exact .inl rfl
  | _ => exact .inl rfl
theorem sw_eq {ts vs : List Expr} {kt k2 : Nat} {pt pt2 : Pos} {env : Env} (hf : env.blockKind = .function) : swappedStores [.Tuple ts kt pt] (.Tuple vs k2 pt2) env =
    (if (!(ts.length == 2 || ts.length == 3) || vs.length != ts.length) = true then pure none else if vs.any isStar = true then pure none else
      if ((parNames env.scope ts).length != ts.length || (parNames env.scope ts).eraseDups.length != (parNames env.scope ts).length) = true then pure none
      else if vs.all (foldedForSure 8) = true then pure none else if vs.all (constantsAlone 8) = true then (do unsupported "assign.tuple-of-constant-expressions:order-of-the-stores"; pure (some (parNames env.scope ts))) else pure (some (parNames env.scope ts))) := by
  unfold swappedStores
  have hb : (env.blockKind != ScopeKind.function) = false := by rw [hf]; rfl
  simp only [hb, Bool.or_false]
  rfl
theorem isPar_eq {ts vs : List Expr} {sc : Scope} : isPar sc ts vs = (if (!(ts.length == 2) || vs.length != ts.length) = true then (if (ts.length == 3 && vs.length == ts.length) = true then none else some false)
  else if vs.any isStar = true then none else if ((parNames sc ts).length != ts.length || (parNames sc ts).eraseDups.length != (parNames sc ts).length) = true then some false
  else if vs.all (foldedForSure 8) = true then some false else if vs.all (constantsAlone 8) = true then none else some true) := rfl
theorem par_false {ts vs : List Expr} {kt k2 : Nat} {pt pt2 : Pos} {env : Env} (hf : env.blockKind = .function) (h : isPar env.scope ts vs = some false) : swappedStores [.Tuple ts kt pt] (.Tuple vs k2 pt2) env = pure none := by
  rw [sw_eq hf]
  rw [isPar_eq] at h
  by_cases h1 : (!(ts.length == 2) || vs.length != ts.length) = true
  · rw [if_pos h1] at h
    by_cases h2 : (ts.length == 3 && vs.length == ts.length) = true
    · rw [if_pos h2] at h; cases h
    · refine if_pos ?_
      simp only [Bool.or_eq_true, Bool.not_eq_true', Bool.and_eq_true, bne_iff_ne, beq_iff_eq, Bool.or_eq_false_iff, beq_eq_false_iff_ne, ne_eq, not_and] at h1 h2 ⊢
      by_cases h3 : ts.length = 3
      · exact .inr (h2 h3)
      · rcases h1 with h1 | h1
        · exact .inl ⟨h1, h3⟩
        · exact .inr h1
  · rw [if_neg h1] at h
    have h1' : (!(ts.length == 2 || ts.length == 3) || vs.length != ts.length) ≠ true := by
      simp only [Bool.or_eq_true, Bool.not_eq_true', bne_iff_ne, beq_iff_eq, Bool.or_eq_false_iff, beq_eq_false_iff_ne, ne_eq, not_or, Decidable.not_not, not_and] at h1 ⊢
      exact ⟨fun z => absurd h1.1 z, h1.2⟩
    rw [if_neg h1']
    by_cases h2 : vs.any isStar = true
    · rw [if_pos h2] at h; cases h
    · rw [if_neg h2] at h ⊢
      by_cases h3 : ((parNames env.scope ts).length != ts.length || (parNames env.scope ts).eraseDups.length != (parNames env.scope ts).length) = true
      · rw [if_pos h3]
      · rw [if_neg h3] at h ⊢
        by_cases h4 : vs.all (foldedForSure 8) = true
        · rw [if_pos h4]
        · rw [if_neg h4] at h
          by_cases h5 : vs.all (constantsAlone 8) = true
          · rw [if_pos h5] at h; cases h
          · rw [if_neg h5] at h; cases h
theorem par_true {ts vs : List Expr} {kt k2 : Nat} {pt pt2 : Pos} {env : Env} (hf : env.blockKind = .function) (h : isPar env.scope ts vs = some true) : ∃ x px y py a b, ts = [.Name x px, .Name y py] ∧ vs = [a, b] ∧ env.scope.names.lookup x = some .local ∧ env.scope.names.lookup y = some .local ∧ swappedStores [.Tuple ts kt pt] (.Tuple vs k2 pt2) env = pure (some [x, y]) ∧ vs.any isStar = false := by
  rw [isPar_eq] at h
  by_cases h1 : (!(ts.length == 2) || vs.length != ts.length) = true
  · rw [if_pos h1] at h
    split at h <;> cases h
  · rw [if_neg h1] at h
    have h1' : (!(ts.length == 2 || ts.length == 3) || vs.length != ts.length) ≠ true := by
      simp only [Bool.or_eq_true, Bool.not_eq_true', bne_iff_ne, beq_iff_eq, Bool.or_eq_false_iff, beq_eq_false_iff_ne, ne_eq, not_or, Decidable.not_not, not_and] at h1 ⊢
      exact ⟨fun z => absurd h1.1 z, h1.2⟩
    by_cases h2 : vs.any isStar = true
    · rw [if_pos h2] at h; cases h
    · rw [if_neg h2] at h
      by_cases h3 : ((parNames env.scope ts).length != ts.length || (parNames env.scope ts).eraseDups.length != (parNames env.scope ts).length) = true
      · rw [if_pos h3] at h; cases h
      · rw [if_neg h3] at h
        by_cases h4 : vs.all (foldedForSure 8) = true
        · rw [if_pos h4] at h; cases h
        · rw [if_neg h4] at h
          by_cases h5 : vs.all (constantsAlone 8) = true
          · rw [if_pos h5] at h; cases h
          · have hsw := sw_eq (ts := ts) (vs := vs) (kt := kt) (k2 := k2) (pt := pt) (pt2 := pt2) hf
            rw [if_neg h1', if_neg h2, if_neg h3, if_neg h4, if_neg h5] at hsw
            simp only [Bool.or_eq_true, Bool.not_eq_true', bne_iff_ne, beq_iff_eq, beq_eq_false_iff_ne, ne_eq, not_or, Decidable.not_not] at h1 h3
            match ts, vs, h1 with
            | [t1, t2], [a, b], _ =>
              have hn : parNames env.scope [t1, t2] = [t1, t2].filterMap (parFn env.scope t1.pos.line) := rfl
              rw [hn] at h3 hsw
              rcases parFn_ok env.scope t1.pos.line t1 with e1 | ⟨x, px, e1, l1, f1⟩
              · have : (([t1, t2] : List Expr).filterMap (parFn env.scope t1.pos.line)).length ≤ 1 := by
                  rw [List.filterMap_cons_none e1]
                  exact List.length_filterMap_le _ _
                rw [h3.1] at this
                simp at this
              · rcases parFn_ok env.scope t1.pos.line t2 with e2 | ⟨y, py, e2, l2, f2⟩
                · have : (([t1, t2] : List Expr).filterMap (parFn env.scope t1.pos.line)).length ≤ 1 := by
                    rw [List.filterMap_cons_some f1, List.filterMap_cons_none e2]
                    simp
                  rw [h3.1] at this
                  simp at this
                · rw [List.filterMap_cons_some f1, List.filterMap_cons_some f2, List.filterMap_nil] at hsw
                  subst e1; subst e2
                  exact ⟨x, px, y, py, a, b, rfl, rfl, l1, l2, hsw, by simpa using h2⟩
            | [], _, h => simp at h
            | [_], _, h => simp at h
            | _ :: _ :: _ :: _, _, h => simp at h
            | [_, _], [], h => simp at h
            | [_, _], [_], h => simp at h
            | [_, _], _ :: _ :: _ :: _, h => simp at h
end
end Z

set_option Elab.async false
set_option linter.all false
set_option maxRecDepth 100000
set_option maxHeartbeats 4000000
namespace Z
open PySem PySem.Spec PyProof.Rows L2
section
variable {X : Cx} {ca : Ca} {W : WX} {k n : Nat} {c : Cs} {H F : Hp} {σ : L2.St}
theorem st_par (C : StOk X ca k c) (tk : Takes X W) {ts vs : List Expr} {kt k2 : Nat} {pt pt2 pos : Pos} : PS X (.Assign [.Tuple ts kt pt] (.Tuple vs k2 pt2) pos) (tS X.K ca W c.P (evS c (n + 1) (.Assign [.Tuple ts kt pt] (.Tuple vs k2 pt2) pos))) := by
  by_cases hcur : c.cur.isSome = true
  · exact ps_none fun η => by simp only [evS, if_pos hcur]
  have hcur' : c.cur = none := by simpa using hcur
  cases hp : isPar c.sc ts vs with
  | none => exact ps_none fun _ => by simp only [evS, if_neg hcur, hp]
  | some b =>
    have hp0 := hp
    rw [← C.ctx.sc] at hp
    cases b with
    | false =>
      have h0 : evS c (n + 1) (.Assign [.Tuple ts kt pt] (.Tuple vs k2 pt2) pos) = fun η => flE (evE c n (.Tuple vs k2 pt2) η) fun d η1 => (c.bind (.Tuple ts kt pt) d η1).map .nx := by funext η; simp only [evS, if_neg hcur, hp0]
      rw [h0]
      exact ps_row C.ctx hcur' ((snd_all n).E X c W _ C.ctx tk) rfl (par_false (blk_fn C.ctx) hp) rfl
    | true =>
      obtain ⟨x, px, y, py, a, b, rfl, rfl, lx, ly, hsw, hst⟩ := par_true (kt := kt) (k2 := k2) (pt := pt) (pt2 := pt2) (blk_fn C.ctx) hp
      by_cases hxy : x = y ∨ (slotOf c.N x).isNone = true ∨ (slotOf c.N y).isNone = true
      · exact ps_none fun η => by simp only [evS, if_neg hcur, hp0, if_pos hxy]
      · have h0 : evS c (n + 1) (.Assign [.Tuple [.Name x px, .Name y py] kt pt] (.Tuple [a, b] k2 pt2) pos) = fun η => (match seqM (evE c n) [a, b] η with
            | some (.ok [d1, d2] η1) => (match c.store x d1 η1 with
              | some η2 => (c.store y d2 η2).map .nx
              | none => none)
            | some (.exc x fs η1) => some (.exc x fs η1)
            | _ => none) := by funext η; simp only [evS, if_neg hcur, hp0, if_neg hxy] <;> rfl
        rw [h0]
        have lx' := lx
        have ly' := ly
        rw [C.ctx.sc] at lx' ly'
        cases hi : slotOf c.N x with
        | none =>
          exact absurd (.inr (.inl (by rw [hi]; rfl))) hxy
        | some i =>
          cases hj : slotOf c.N y with
          | none => exact absurd (.inr (.inr (by rw [hj]; rfl))) hxy
          | some j =>
            have hij : i ≠ j := fun z => by
              subst z
              have a1 := slotOf_at hi
              rw [slotOf_at hj] at a1
              exact hxy (.inl (Option.some.inj a1).symm)
            refine PS.weak (ps_par (C.ctx.calm hcur') (by rw [C.ctx.N]; exact C.ctx.nd) (by rw [C.ctx.N]; exact slotOf_at hi) (by rw [C.ctx.N]; exact slotOf_at hj) hij lx ly (snd_seq (fun e => (snd_all n).E X c W e C.ctx tk) hst) hsw) fun E σ H ⟨e, t, F, ag, st, h⟩ => ?_
            refine ⟨e, t, F, ag, st, ?_⟩
            simp only at h
            cases hm : seqM (evE c n) [a, b] (e.map Prod.snd) with
            | none => rw [hm] at h; exact False.elim h
            | some r =>
              rw [hm] at h
              cases r with
              | exc z fs η1 => exact fun dx e' H' F' he ag' sb hx st' => h dx σ e' H' F' ⟨he, ag', KeepP.refl _ _, sb⟩ hx st'
              | ok ds η1 =>
                intro e1 H1 F1 he1 ag1 sb1 ps hps st1
                match ds, hps, h with
                | [d1, d2], hps, h =>
                  simp only at h
                  obtain ⟨v, w, rfl⟩ := map_two hps
                  refine ⟨v, w, rfl, ?_⟩
                  cases h1 : c.store x d1 η1 with
                  | none => rw [h1] at h; exact False.elim h
                  | some η2 =>
                    rw [h1] at h
                    simp only at h
                    cases h2 : c.store y d2 η2 with
                    | none => rw [h2] at h; exact False.elim h
                    | some η3 =>
                      rw [h2] at h
                      obtain ⟨i', a1, a2, a3, a4, rfl⟩ := store_ok h1
                      rw [hi] at a1; cases a1
                      obtain ⟨j', b1, b2, b3, b4, rfl⟩ := store_ok h2
                      rw [hj] at b1; cases b1
                      subst he1
                      refine h _ ((e1.set i (v, d1)).set j (w, d2)) H1 F1 ⟨by rw [map_set, map_set], (ag1.store C.ctx.pins a3).store C.ctx.pins b3, fun q hq => ?_, sb1⟩ ?_
                      · have n1 : i ≠ q := fun z => a3 (by rw [z]; exact hq)
                        have n2 : j ≠ q := fun z => b3 (by rw [z]; exact hq)
                        rw [List.getElem?_set_ne n2, List.getElem?_set_ne n1]
                      · have s1 : Stt X.K ca H1 F1 ((v, d1) :: (e1 ++ (w, d2) :: t)) := st1.perm (perm_mu (by simp only [mu_app, mu_c, mu_n]; ac_rfl))
                        have s2 := stt_set (i := i) s1
                        have s3 : Stt X.K ca H1 F1 ((w, d2) :: (e1.set i (v, d1) ++ t)) := s2.perm (perm_mu (by simp only [mu_app, mu_c, mu_n]; ac_rfl))
                        exact stt_set (i := j) s3
                | [], hps, h => exact False.elim h
                | [_], hps, h => exact False.elim h
                | _ :: _ :: _ :: _, hps, h => exact False.elim h
end
end Z

set_option Elab.async false
set_option linter.all false
set_option maxRecDepth 100000
set_option maxHeartbeats 4000000
namespace Z
open PySem PySem.Spec PyProof.Rows L2
section
variable {X : Cx} {ca : Ca} {W : WX} {k n : Nat} {c : Cs} {H F : Hp} {σ : L2.St} {K : PySem.W.Frag}
theorem st_tupE (C : StOk X ca k c) (tk : Takes X W) {ts : List Expr} {e : Expr} {kt : Nat} {pt pos : Pos} (hne : ∀ vs k2 p2, e ≠ .Tuple vs k2 p2) : PS X (.Assign [.Tuple ts kt pt] e pos) (tS X.K ca W c.P (evS c (n + 1) (.Assign [.Tuple ts kt pt] e pos))) := by
  have h0 : evS c (n + 1) (.Assign [.Tuple ts kt pt] e pos) = fun η => if (c.cur.isSome || isLc e) = true then none else flE (evE c n e η) fun d η1 => (c.bind (.Tuple ts kt pt) d η1).map .nx := by
    funext η
    cases e with
    | Tuple vs k2 p2 => exact absurd rfl (hne vs k2 p2)
    | _ => rfl
  rw [h0]
  by_cases hc : (c.cur.isSome || isLc e) = true
  · exact ps_none fun η => by rw [if_pos hc]
  · simp only [if_neg hc]
    simp only [Bool.or_eq_true, not_or, Bool.not_eq_true] at hc
    refine ps_row C.ctx (by simpa using hc.1) ((snd_all n).E X c W e C.ctx tk) (show swapsWithSole [.Tuple ts kt pt] e pos.line X.env = pure false from swap_no hc.2 (some (.Tuple ts kt pt)) pos.line X.env) ?_ rfl
    cases e with
    | Tuple vs k2 p2 => exact absurd rfl (hne vs k2 p2)
    | _ => rfl
/-- a node below a slot gets new content -/
theorem put_slot {e t qs : List (V × D)} {i : Nat} {v0 : V} {d0 : D} {p : List Nat} {a : Addr} {kd : Kd} {xs : List D} (st : Stt K ca H F (qs ++ (e ++ t))) (he : e[i]? = some (v0, d0)) (h : PathV K ca H F v0 d0 p (.ref a) (.node kd true xs)) :
    ∃ ps : List (V × D), NdO ca H a kd (ps.map Prod.fst) ∧ ps.map Prod.snd = xs ∧ ∀ (o : HO) (k' : Kd) (ps' r : List (V × D)), (ps ++ qs).Perm (ps' ++ r) → NdO ca (upd H a o) a k' (ps'.map Prod.fst) →
      Stt K ca (upd H a o) F (r ++ (e.set i (v0, d0.putAt p (.node k' true (ps'.map Prod.snd))) ++ t)) := by
  have st1 : Stt K ca H F (qs ++ (v0, d0) :: ((e.take i ++ e.drop (i + 1)) ++ t)) := st.perm ((slot_perm (t := t) he).append_left qs)
  obtain ⟨ps, h1, h2, h3⟩ := Stt.put st1 h
  exact ⟨ps, h1, h2, fun o k' ps' r pm hn => (h3 o k' ps' r pm hn).perm ((slot_perm' (t := t) he).append_left r)⟩
theorem putAt_bound {d0 x : D} {p : List Nat} (hx : x.bound = true) (h0 : d0.bound = true) : (d0.putAt p x).bound = true := by
  cases p with
  | nil => exact hx
  | cons j p => cases d0 <;> first | exact h0 | rfl
theorem ref_of {v : V} {kd : Kd} {o : Bool} {xs : List D} (h : ∃ B, DenL K ca H F [(v, .node kd o xs)] B) : ∃ a, v = .ref a := by
  obtain ⟨B, h⟩ := h
  cases h with
  | frz => exact ⟨_, rfl⟩
  | own => exact ⟨_, rfl⟩
theorem st_sub (C : StOk X ca k c) (tk : Takes X W) {o i e : Expr} {sp pos : Pos} : PS X (.Assign [.Subscript o i sp] e pos) (tS X.K ca W c.P (evS c (n + 1) (.Assign [.Subscript o i sp] e pos))) := by
  by_cases hc : (isSlice i || isLc e) = true
  · exact ps_none fun η => by simp only [evS, if_pos hc]
  have hc' : isSlice i = false ∧ isLc e = false := by simpa [Bool.or_eq_true, not_or] using hc
  have hasg : ∀ v, assign (.Subscript o i sp) X.env v = (do
      let ov ← holding [v] (eval o X.env)
      let iv ← holding [v, ov] (eval i X.env)
      standAt sp
      holding [v, ov, iv] (setItem ov iv v)
      release [v, ov, iv] []) := by
    intro v
    cases i <;> first | rfl | (simp [isSlice] at hc')
  refine PS.weak (ps_asg ((snd_all n).E X c W e C.ctx tk) (pg_sub ((sndXP n).2 X c o C.ctx) ((sndXP n).1 X c i C.ctx) set_list hasg) (show swapsWithSole [.Subscript o i sp] e pos.line X.env = pure false from swap_no hc'.2 (some (.Subscript o i sp)) pos.line X.env) (by cases e <;> rfl) rfl) fun E σ H ⟨e0, t, F, ag, st, h⟩ => ?_
  simp only [evS, if_neg hc] at h
  refine ⟨e0, t, F, ag, st, (PostS.flE h).imp (fun _ _ _ z => z) fun d e2 H2 F2 sb2 ag2 hx v st2 => ?_⟩
  -- the target
  split at hx
  · rename_i j p xs m hp hi
    split at hx
    · rename_i kk d0 hk hd0
      obtain ⟨v0, he0⟩ := map_get hd0
      have st3 : Stt X.K ca H2 F2 (e2 ++ (v, d) :: t) := stt_mid st2
      refine ⟨e2, (v, d) :: t, F2, ag2, st3, j, p, _, hp, fun vo v0' d0' e0' b0 pv hB => ?_⟩
      rw [he0] at e0'
      cases e0'
      refine ⟨e2, (v, d) :: t, F2, ag2, st3, _, hi, fun vi hvi => ?_⟩
      cases den_int hvi
      obtain ⟨a, rfl⟩ := ref_of hB
      obtain ⟨ps, n1, n2, fin⟩ := put_slot (qs := [(v, d)]) st2 he0 pv
      have hl : (ps.map Prod.fst).length = xs.length := len_map2 n2
      refine ⟨a, ps.map Prod.fst, m, kk, rfl, rfl, n1, by rw [hl]; exact hk, ?_⟩
      have hkl : kk < ps.length := by
        have := (ixN_seq hk).2.1
        rw [← hl, List.length_map] at this
        exact this
      have hg := List.getElem?_eq_getElem hkl
      generalize ps[kk] = old at hg
      have pm : (ps ++ [(v, d)]).Perm (ps.set kk (v, d) ++ [old]) := by
        have q1 := (set_split (y := (v, d)) hg).1
        have q2 := (set_split (y := (v, d)) hg).2
        rw [q1]
        conv => lhs; rw [q2]
        exact perm_mu (by simp only [mu_app, mu_c, mu_n]; ac_rfl)
      have res := fin (.lst ((ps.map Prod.fst).set kk v)) .lst (ps.set kk (v, d)) [old] pm (by rw [List.map_set]; exact upd_same)
      have e5 : (ps.set kk (v, d)).map Prod.snd = xs.set kk d := by rw [List.map_set, n2]
      rw [e5] at res
      refine hx σ _ _ F2 ⟨by rw [map_set], ag2.set he0 (fun _ => b0), KeepP.refl _ _, Sub.refl F2⟩ (Stt.right (l1 := [old]) res)
    · exact False.elim hx
  · exact False.elim hx
theorem put_zip : ∀ {fs : List Str} {ws : List V} {f : Str} {j : Nat} {w : V}, fs.findIdx? (· == f) = some j → fs.length = ws.length → putF f w (fs.zip ws) = fs.zip (ws.set j w)
  | [], _, _, _, _, h, _ => by simp at h
  | g :: fs, [], _, _, _, _, l => by simp at l
  | g :: fs, w' :: ws, f, j, w, h, l => by
    rw [List.findIdx?_cons] at h
    rw [List.zip_cons_cons]
    unfold putF
    by_cases e : g = f
    · subst e
      simp at h
      subst h
      rw [if_pos rfl]
      rfl
    · have e1 : (g == f) = false := by simpa using e
      rw [e1] at h
      simp only [Bool.false_eq_true, if_false, Option.map_eq_some_iff] at h
      obtain ⟨j', hj, rfl⟩ := h
      rw [if_neg e, put_zip hj (by simpa using l)]
      rfl
theorem put_new : ∀ {fs : List Str} {ws : List V} {f : Str} {w : V}, fs.findIdx? (· == f) = none → fs.length = ws.length → putF f w (fs.zip ws) = (fs ++ [f]).zip (ws ++ [w])
  | [], [], _, _, _, _ => rfl
  | [], _ :: _, _, _, _, l => by simp at l
  | g :: fs, [], _, _, _, l => by simp at l
  | g :: fs, w' :: ws, f, w, h, l => by
    rw [List.findIdx?_cons] at h
    rw [List.zip_cons_cons]
    unfold putF
    by_cases e : g = f
    · subst e; simp at h
    · have e1 : (g == f) = false := by simpa using e
      rw [e1] at h
      simp only [Bool.false_eq_true, if_false, Option.map_eq_none_iff] at h
      rw [if_neg e, put_new h (by simpa using l)]
      rfl
theorem zip_len {fs : List Str} {ws : List V} (h : fs.length = ws.length) : (fs.zip ws).length = fs.length := by rw [List.length_zip]; omega
theorem st_fld (C : StOk X ca k c) (tk : Takes X W) {o e : Expr} {f : Str} {sp pos : Pos} : PS X (.Assign [.Attribute o f sp] e pos) (tS X.K ca W c.P (evS c (n + 1) (.Assign [.Attribute o f sp] e pos))) := by
  by_cases hc : isLc e = true
  · exact ps_none fun η => by simp only [evS, if_pos hc]
  refine PS.weak (ps_fld ((sndXP n).2 X c o C.ctx) ((snd_all n).E X c W e C.ctx tk) (swap_no (by simpa using hc) _ _ _)) fun E σ H ⟨e0, t, F, ag, st, h⟩ => ?_
  simp only [evS, if_neg hc] at h
  refine ⟨e0, t, F, ag, st, (PostS.flE h).imp (fun _ _ _ z => z) fun d e2 H2 F2 sb2 ag2 hx v st2 => ?_⟩
  split at hx
  · rename_i j p x fs xs hp
    split at hx
    · rename_i d0 hd0
      split at hx
      · rename_i hf
        obtain ⟨hfl, hfld⟩ := hf
        obtain ⟨hcls, hno⟩ := isFld_of C.ctx hfld
        obtain ⟨v0, he0⟩ := map_get hd0
        have st3 : Stt X.K ca H2 F2 (e2 ++ (v, d) :: t) := stt_mid st2
        refine ⟨e2, (v, d) :: t, F2, ag2, st3, j, p, _, hp, fun vo v0' d0' e0' b0 pv hB => ?_⟩
        rw [he0] at e0'
        cases e0'
        obtain ⟨a, rfl⟩ := ref_of hB
        obtain ⟨ps, n1, n2, fin⟩ := put_slot (qs := [(v, d)]) st2 he0 pv
        obtain ⟨l1, dx, n3⟩ := n1
        refine ⟨a, ca.at_ x, dx, _, rfl, n3, hcls, hno, by rw [zip_len l1]; exact hfl, ?_⟩
        split at hx
        · rename_i kk hk
          have hkl : kk < ps.length := by
            have h1 := (List.findIdx?_eq_some_iff_getElem.mp hk).1
            rw [l1, List.length_map] at h1
            exact h1
          have hg := List.getElem?_eq_getElem hkl
          generalize ps[kk] = old at hg
          have pm : (ps ++ [(v, d)]).Perm (ps.set kk (v, d) ++ [old]) := by
            have q1 := (set_split (y := (v, d)) hg).1
            have q2 := (set_split (y := (v, d)) hg).2
            rw [q1]
            conv => lhs; rw [q2]
            exact perm_mu (by simp only [mu_app, mu_c, mu_n]; ac_rfl)
          have res := fin (.ins (ca.at_ x) dx (putF f v (fs.zip (ps.map Prod.fst)))) (.obj x fs) (ps.set kk (v, d)) [old] pm ⟨by rw [l1, List.length_map, List.length_map, List.length_set], dx, by rw [List.map_set, put_zip hk l1]; exact upd_same⟩
          have e5 : (ps.set kk (v, d)).map Prod.snd = xs.set kk d := by rw [List.map_set, n2]
          rw [e5] at res
          exact hx σ _ _ F2 ⟨by rw [map_set], ag2.set he0 (fun _ => b0), KeepP.refl _ _, Sub.refl F2⟩ (Stt.right (l1 := [old]) res)
        · rename_i hk
          have res := fin (.ins (ca.at_ x) dx (putF f v (fs.zip (ps.map Prod.fst)))) (.obj x (fs ++ [f])) (ps ++ [(v, d)]) [] (by simp) ⟨by rw [List.length_map] at l1; simp [l1], dx, by rw [List.map_append, put_new hk l1]; exact upd_same⟩
          rw [List.map_append, n2] at res
          exact hx σ _ _ F2 ⟨by rw [map_set]; rfl, ag2.set he0 (fun _ => b0), KeepP.refl _ _, Sub.refl F2⟩ res
      · exact False.elim hx
    · exact False.elim hx
  · exact False.elim hx
theorem st_aug (C : StOk X ca k c) (tk : Takes X W) {x : Str} {op : Operator} {e : Expr} {px pos : Pos} : PS X (.AugAssign (.Name x px) op e pos) (tS X.K ca W c.P (evS c (n + 1) (.AugAssign (.Name x px) op e pos))) := by
  cases hi : c.slot x with
  | none => exact ps_none fun η => by simp only [evS, hi]
  | some i =>
    cases ho : augOp op with
    | none => exact ps_none fun η => by simp only [evS, hi, ho]
    | some f =>
      by_cases hc : (c.canStore x && !c.P i) = true
      · have hop : PIp X op (ipI f) := by
          cases op <;> cases ho
          · exact ip_add
          · exact ip_sub
        have hc' := hc
        simp only [Bool.and_eq_true, Bool.not_eq_true', Cs.canStore, Bool.or_eq_true, beq_iff_eq] at hc'
        obtain ⟨hl, hP⟩ := hc'
        obtain ⟨hN, _⟩ := slot_vis C.ctx hi
        have hP : c.P i ≠ true := by rw [hP]; decide
        have hsi : slotOf c.N x = some i := by
          unfold Cs.slot at hi
          rcases hl with e1 | e1 <;> (rw [e1] at hi; exact hi)
        refine PS.weak (ps_aug (by rw [C.ctx.N]; exact C.ctx.nd) hN (by unfold L2.Loc; rw [C.ctx.sc]; exact hl) ((snd_all n).E X c W e C.ctx tk) hop (by rw [C.ctx.sc]; exact C.ctx.fnl x i hsi hP hl)) fun E σ H ⟨e0, t, F, ag, st, h⟩ => ?_
        simp only [evS, hi, ho, if_pos hc] at h
        split at h
        · rename_i a ha
          obtain ⟨v0, hv0⟩ := map_get ha
          obtain ⟨B, hB⟩ := stt_mem st (List.mem_append_left t (List.mem_of_getElem? hv0))
          cases den_int hB
          refine ⟨.int a, ag.get hv0 rfl, e0, t, F, ag, st, (PostS.flE h).imp (fun _ _ _ z => z) fun d e2 H2 F2 sb2 ag2 hx v st2 => ?_⟩
          split at hx
          · rename_i a' b h1
            split at hx
            · rename_i ea
              subst ea
              cases stt_int st2
              refine ⟨a', b, rfl, rfl, ?_⟩
              cases hst : c.store x (.int (f a' b)) (e2.map Prod.snd) with
              | none => rw [hst] at hx; exact False.elim hx
              | some η' =>
                rw [hst] at hx
                obtain ⟨i2, b1, b2, b3, b4, rfl⟩ := store_ok hst
                rw [hsi] at b1; cases b1
                refine hx _ (e2.set i (.int (f a' b), .int (f a' b))) H2 F2 ⟨by rw [map_set], ag2.store C.ctx.pins b3, fun j hj => ?_, Sub.refl F2⟩ (stt_set (st2.tail.add (.int .nil)))
                have ne : i ≠ j := fun z => b3 (by rw [z]; exact hj)
                rw [List.getElem?_set_ne ne]
            · exact False.elim hx
          · exact False.elim hx
        · exact False.elim h
      · exact ps_none fun η => by simp only [evS, hi, ho, if_neg hc]
end
end Z

set_option Elab.async false
set_option linter.all false
set_option maxRecDepth 100000
set_option maxHeartbeats 4000000
namespace Z
open PySem PySem.Spec PyProof.Rows L2
section
variable {X : Cx} {ca : Ca} {W : WX} {k n : Nat} {c : Cs} {H F : Hp} {σ : L2.St} {K : PySem.W.Frag}
/-- a shared object is laid -/
theorem Stt.frozen {p : Addr} {o : HO} {l : List (V × D)} (st : Stt K ca H F l) (hp : H p = none) : Stt K ca (upd H p o) (upd F p o) l ∧ Sub F (upd F p o) := by
  have hf := st.free hp
  obtain ⟨A, hA, nd, fr, sb, bb⟩ := st
  have ne : ∀ a ∈ A, a ≠ p := fun a z e => hA.there a z (e ▸ hp)
  have sF : Sub F (upd F p o) := fun a u e => by rw [upd_ne (fun z => by rw [z, hf] at e; cases e)]; exact e
  refine ⟨⟨A, hA.mono sF fun a z => upd_ne (ne a z), nd, fun a z => by rw [upd_ne (ne a z)]; exact fr a z, fun a u e => ?_, bb.trans sF⟩, sF⟩
  by_cases q : a = p
  · subst q; rw [upd_same] at e ⊢; exact e
  · rw [upd_ne q] at e ⊢; exact sb a u e
theorem den_all : ∀ {l : List (V × D)}, (∀ q ∈ l, DenL K ca H F [q] []) → DenL K ca H F l []
  | [], _ => .nil
  | q :: r, h => DenL.append (h q List.mem_cons_self) (den_all fun z hz => h z (List.mem_cons_of_mem _ hz))
theorem pick_pairs {ps : List (V × D)} : ∀ {fs : List (Str × Nat)} {q : List (Str × D)}, (fs.mapM fun f => ((ps.map Prod.snd)[f.2]?).map fun d => (f.1, d)) = some q →
    ∃ r : List (Str × (V × D)), (fs.mapM fun f => ((ps.map Prod.fst)[f.2]?).map fun v => (f.1, v)) = some (r.map fun z => (z.1, z.2.1)) ∧ r.map (fun z => (z.1, z.2.2)) = q ∧ (∀ z ∈ r, z.2 ∈ ps) ∧ r.length = fs.length
  | [], q, h => by
    have : q = [] := by simpa using h.symm
    subst this
    exact ⟨[], rfl, rfl, (fun z hz => absurd hz (by simp)), rfl⟩
  | f :: fs, q, h => by
    rw [List.mapM_cons] at h
    simp only [Option.pure_def, Option.bind_eq_bind, Option.bind_eq_some_iff, Option.map_eq_some_iff] at h
    obtain ⟨a, ⟨d, hd, rfl⟩, q', hq', h⟩ := h
    cases h
    obtain ⟨r, h1, h2, h3, h4⟩ := pick_pairs hq'
    rw [List.getElem?_map, Option.map_eq_some_iff] at hd
    obtain ⟨p, hp, rfl⟩ := hd
    refine ⟨(f.1, p) :: r, ?_, by rw [List.map_cons, h2], fun z hz => ?_, by simp [h4]⟩
    · rw [List.mapM_cons, h1, List.getElem?_map, hp]; rfl
    · rcases List.mem_cons.mp hz with rfl | hz
      · exact List.mem_of_getElem? hp
      · exact h3 z hz
theorem st_raise (C : StOk X ca k c) (tk : Takes X W) {e : Expr} {pos : Pos} : PS X (.Raise (some e) none pos) (tS X.K ca W c.P (evS c (n + 1) (.Raise (some e) none pos))) := by
  by_cases hcur : c.cur.isSome = true
  · exact ps_none fun η => by simp only [evS, if_pos hcur]
  have hcur' : c.cur = none := by simpa using hcur
  have none_ : (∀ η, excOf c n e η = none) → PS X (.Raise (some e) none pos) (tS X.K ca W c.P (evS c (n + 1) (.Raise (some e) none pos))) := fun h => ps_none fun η => by simp only [evS, if_neg hcur, h]
  cases e with
  | Call f args kws cp =>
    cases f with
    | Name x xp =>
      cases kws with
      | cons _ _ => exact none_ fun _ => rfl
      | nil =>
        by_cases hs : args.any isStar = true
        · exact none_ fun η => by simp only [excOf, if_pos hs]
        cases hcl : c.isCl x with
        | none => exact none_ fun η => by simp only [excOf, if_neg hs, hcl]
        | some cl =>
          cases hex : cl.exc with
          | none => exact none_ fun η => by simp only [excOf, if_neg hs, hcl, hex]
          | some fs =>
            by_cases hl : args.length = fs.length
            · have hg : c.glob x = true ∧ c.g x = some (.cls cl) := by
                unfold Cs.isCl at hcl
                split at hcl
                · rename_i hg
                  split at hcl
                  · rename_i cl' hv
                    cases hcl
                    exact ⟨hg, hv⟩
                  · cases hcl
                · cases hcl
              obtain ⟨g1, g2, g3⟩ := glob_of C.ctx hg.1
              have hs' : args.any isStar = false := by simpa using hs
              have hmk := C.mkx hcur' x cl fs hg.2 hex X.pn X.xe args _ xp cp (snd_seqF (snd_all n) C.ctx tk hs') hs' hl g1 g2
              refine PS.weak (ps_raise (C.ctx.calm hcur') tk hmk) fun E σ H ⟨e0, t, F, ag, st, h⟩ => ?_
              simp only [evS, if_neg hcur, excOf, if_neg hs, hcl, hex, if_pos hl] at h
              refine ⟨e0, t, F, ag, st, ?_⟩
              cases hm : seqM (fun e => mFrz (evE c n e)) args (e0.map Prod.snd) with
              | none => rw [mBind, hm] at h; exact False.elim h
              | some r =>
                rw [mBind, hm] at h
                cases r with
                | exc z gs η1 => exact fun dx e' H' F' he ag' sb hx st' => h dx σ e' H' F' ⟨he, ag', KeepP.refl _ _, sb⟩ hx st'
                | ok ds η1 =>
                  intro e1 H1 F1 he1 ag1 sb1 ps hps st1
                  have hlen := seq_len hm
                  cases hq : fs.mapM (fun f => (ds[f.2]?).map fun d => (f.1, d)) with
                  | none => simp only [hq, mOpt, Option.map_none] at h; exact False.elim h
                  | some q =>
                    simp only [hq, mOpt, Option.map_some] at h
                    rw [← hps] at hq
                    obtain ⟨r, h1, h2, h3, h4⟩ := pick_pairs hq
                    refine ⟨by rw [List.length_map, ← List.length_map (f := Prod.snd), hps, hlen, hl], ?_⟩
                    by_cases hfs : fs = []
                    · rw [if_pos hfs]
                      subst hfs
                      have hq0 : q = [] := by simpa using hq.symm
                      subst hq0
                      exact h none σ e1 H1 F1 ⟨he1, ag1, KeepP.refl _ _, sb1⟩ (.inl ⟨rfl, rfl⟩) (Stt.right st1)
                    · rw [if_neg hfs]
                      intro dd hdd
                      refine ⟨_, h1, ?_⟩
                      obtain ⟨st2, sF⟩ := (Stt.right st1).frozen (o := .xd (r.map fun z => (z.1, z.2.1))) hdd
                      refine h (some dd) σ e1 _ _ ⟨he1, ag1, KeepP.refl _ _, sb1.trans sF⟩ (.inr ⟨dd, r, rfl, upd_same, h2, den_all fun z hz => ?_⟩) st2
                      obtain ⟨z', hz', rfl⟩ := List.mem_map.mp hz
                      obtain ⟨B, hB⟩ := stt_mem st1 (List.mem_append_left _ (h3 _ hz'))
                      have hst : z'.2.2.still = true := seq_still hm _ (by rw [← hps]; exact List.mem_map.mpr ⟨_, h3 _ hz', rfl⟩)
                      have e0 : B = [] := hB.still (by simp [D.stillL, hst])
                      exact (hB.ground e0 F1).mono sF fun b z => by cases z
            · exact none_ fun η => by simp only [excOf, if_neg hs, hcl, hex, if_neg hl]
    | _ => exact none_ fun _ => rfl
  | _ => exact none_ fun _ => rfl
end
end Z

set_option Elab.async false
set_option linter.all false
set_option maxRecDepth 100000
set_option maxHeartbeats 4000000
namespace Z
open PySem PySem.Spec PyProof.Rows L2
/-! ### try with several clauses, named or not -/
def endsGone (E : Ends) (i : Nat) : Ends := { nx := fun σ H => E.nx (σ.set i none) H, rt := E.rt, bk := fun σ H => E.bk (σ.set i none) H, ct := fun σ H => E.ct (σ.set i none) H }
/-- one clause of the class cv -/
def wOne (K : PySem.W.Frag) (cv : Value) (yes : Addr → WX) (no : WX) : WX := fun cls d σ H => ∃ b, PySem.W.exmOne K cls cv = some b ∧ (b = true → ∀ a, H a = none → yes a cls d σ H) ∧ (b = false → no cls d σ H)
inductive Hds (X : Cx) (E : Ends) (Wo : WX) : List ExceptHandler → WX → Prop
  | nil : Hds X E Wo [] Wo
  | bare {y : Str} {np hp : Pos} {b₀ : Stmt} {suite : List Stmt} {hds : List ExceptHandler} {w : WX} {cv : Value} {ts : Addr → Value → Option Addr → TS} (hc : Names X y cv)
      (hsu : ∀ (a : Addr) (oe : Obj) (cls : Value) (d : Option Addr) (pn : List (Addr × Obj)), Zc cls d oe → (∃ vs, oe.data = .fields vs) → PSs (X.suite a ((a, oe) :: pn)) (b₀ :: suite) (ts a cls d)) (r : Hds X E Wo hds w) :
      Hds X E Wo (.ExceptHandler (some (.Name y np)) none (b₀ :: suite) hp :: hds) (wOne X.K cv (fun a cls d σ H => ts a cls d E σ H) w)
  | named {y nm : Str} {i : Nat} {np hp : Pos} {b₀ : Stmt} {suite : List Stmt} {hds : List ExceptHandler} {w : WX} {cv : Value} {ts : Addr → Value → Option Addr → TS} (hc : Names X y cv) (hi : X.N[i]? = some nm) (hl : X.env.kindOf nm = some .local)
      (hsu : ∀ (a : Addr) (oe : Obj) (cls : Value) (d : Option Addr) (pn : List (Addr × Obj)), Zc cls d oe → (∃ vs, oe.data = .fields vs) → PSs (X.suite a ((a, oe) :: pn)) (b₀ :: suite) (ts a cls d)) (r : Hds X E Wo hds w) :
      Hds X E Wo (.ExceptHandler (some (.Name y np)) (some nm) (b₀ :: suite) hp :: hds) (wOne X.K cv (fun a cls d σ H => ts a cls d (endsGone E i) (σ.set i (some (.ref a))) H) w)
section
variable {X : Cx} {Wo : WX} {pins : List (Addr × Obj)} {σ : L2.St} {H : Hp}
/-- where a caught exception stands while the clauses are asked -/
structure Held (X : Cx) (pins : List (Addr × Obj)) (σ : L2.St) (H : Hp) (a : Addr) (cls : Value) (d : Option Addr) (B : Heap) (sI s' : Shared) : Prop where
  inv : Inv X pins σ H sI
  grd : ∀ b o, sI.heap.get? b = some o → b ∉ frs X.stack → B.get? b = some o
  up : sI.heap.UpToSlots s'.heap
  fly : HandSPX.FlyingZ B (X.env :: X.outer) a (Zc cls d) s'.heap
  no : H a = none
  os : s'.os = sI.os
  bare : AllBare s'.gens
theorem Held.inv' {a : Addr} {cls : Value} {d : Option Addr} {B : Heap} {sI s' : Shared} (h : Held X pins σ H a cls d B sI s') : Inv X pins σ H s' := h.inv.landed h.grd h.fly.1 h.up h.os h.bare
/-- the suite's context -/
theorem Held.suite (hf : X.env.frame = some X.env.locals) {a : Addr} {cls : Value} {d : Option Addr} {B : Heap} {sI s' : Shared} (h : Held X pins σ H a cls d B sI s') :
    ∃ oe, Zc cls d oe ∧ (∃ vs, oe.data = .fields vs) ∧ s'.heap.get? a = some oe ∧ Inv (X.suite a ((a, oe) :: (X.pn ++ pins))) [] σ H s' := by
  obtain ⟨oe, vs, he, hz, hd⟩ := h.fly.there
  have out : a ∉ frs (X.env :: X.outer) := fun hm => by
    obtain ⟨_, o', e', hnf⟩ := h.fly.2.2.1.mem hm
    rw [he] at e'; cases e'
    exact hnf _ hd
  refine ⟨oe, hz, ⟨vs, hd⟩, he, h.inv'.suite he hd h.no (fun z => out (List.mem_filterMap.mpr ⟨X.env, List.mem_cons_self, by rw [hf, z]⟩)) fun hm => ?_⟩
  obtain ⟨e, h1, h2⟩ := List.mem_filterMap.mp hm
  exact out (List.mem_filterMap.mpr ⟨e, List.mem_cons_of_mem _ h1, h2⟩)
theorem hds_run (hs : X.stack = X.env :: X.outer) (hf : X.env.frame = some X.env.locals) (hN : X.N.Nodup) (tk : Takes X Wo) {E : Ends} {a : Addr} {cls : Value} {d : Option Addr} {B : Heap} {sI s' : Shared} (ok : X.Ok) (h : Held X pins σ H a cls d B sI s') :
    ∀ {hds : List ExceptHandler} {w : WX}, Hds X E Wo hds w → w cls d σ H → wpAny (model X.prog X.w) X.A (handleBy (.ref a) X.env hds) (SP X pins E) X.xe s' := by
  obtain ⟨oe, hz, hd, he, S⟩ := h.suite hf
  have ask : ∀ {y : Str} {np : Pos} {cv : Value} {b : Bool} {Q : Bool → Shared → Prop} {E' : Value → Shared → Prop}, Names X y cv → PySem.W.exmOne X.K cls cv = some b →
      (PySem.W.Looks (model X.prog X.w) s'.heap (excMatches (.ref a) cv) b) := fun {y np cv b Q E'} hc hb =>
    PySem.W.exm_one (M := model X.prog X.w) S.kIn (fun A Q E s k q => wpAny_typeOf_ref (k _ _ he) (by rw [hz.1]; exact q)) hb
  have name : ∀ {y : Str} {np : Pos} {cv : Value} {Q : Value → Shared → Prop} {E' : Value → Shared → Prop}, Names X y cv → Q cv s' → wpAny (model X.prog X.w) (X.A.mark (some (.ref a))) (eval (.Name y np) X.env) Q E' s' := fun {y np cv Q E'} hc q => by
    obtain ⟨hg, hdbg, hm | ⟨hm, hv, hnn⟩⟩ := hc
    · exact ld_glob (X := X.suite a ((a, oe) :: (X.pn ++ pins))) S hg hm q hdbg
    · exact ld_blt (X := X.suite a ((a, oe) :: (X.pn ++ pins))) S hg hm hv q hnn hdbg
  intro hds w hh
  induction hh with
  | nil =>
    intro hw
    refine wpAny_handleBy_nil ?_
    obtain ⟨_, _, _, oe', vs, T, oT, ts', he', _, hd', h1, _⟩ := id h.fly
    unfold PySem.passOn
    refine wpAny_bind (wpAny_field he' hd' h1 ?_)
    rw [if_neg (show ¬ ((Value.ref T == Value.none) = true) from by simp)]
    have fin : wpAny (model X.prog X.w) X.A (setFlight (.ref a) X.env.frame) (fun _ s4 => wpAny (model X.prog X.w) X.A (throw (.ref a) : Sem Flow) (SP X pins E) X.xe s4) X.xe s' := by
      rw [hf]
      refine HandSPX.setFlight_upZ h.fly fun h4 hh4 up4 => wpAny_throw (tk _ _ ?_)
      exact ⟨a, B, sI, pins, σ, H, cls, d, rfl, h.inv, h.grd, h.up.trans up4, .inr (.inr (by rw [hs]; exact hh4)), h.no, h.os, h.bare, hw⟩
    first
      | exact wpAny_bind (wpAny_pure (wpAny_bind fin))
      | exact wpAny_bind fin
  | @bare y np hp b₀ suite hds w cv ts hc hsu r ih =>
    intro hw
    obtain ⟨b, hb, yes, no⟩ := hw
    refine wpAny_handleBy_cons (codeAny_handlers_test ?_) (by intro q; cases q)
    refine name hc ((ask (y := y) (np := np) (Q := fun _ _ => True) (E' := fun _ _ => True) hc hb).here ?_)
    cases b with
    | false =>
      show wpAny _ X.A (handleBy (.ref a) X.env hds) _ _ _
      exact ih (no rfl)
    | true =>
      refine codeAny_handlers_suite ?_
      refine HandSPX.lands_againZ h.fly fun h4 fl4 up4 => ?_
      have h' : Held X pins σ H a cls d B sI { s' with heap := h4 } := ⟨h.inv, h.grd, h.up.trans up4, fl4, h.no, h.os, h.bare⟩
      obtain ⟨oe4, hz4, hd4, he4, S4⟩ := h'.suite hf
      refine wpAny_mono ((hsu a oe4 cls d (X.pn ++ pins) hz4 hd4).run [] _ σ H _ S4 (yes rfl a h.no)) (fun f s6 q => ?_) fun _ _ z => False.elim z
      cases f with
      | next => obtain ⟨_, _, S6, q6⟩ := q; exact ⟨_, _, S6.unsuite ok, q6⟩
      | brk => obtain ⟨_, _, S6, q6⟩ := q; exact ⟨_, _, S6.unsuite ok, q6⟩
      | cont => obtain ⟨_, _, S6, q6⟩ := q; exact ⟨_, _, S6.unsuite ok, q6⟩
      | ret u => obtain ⟨_, _, _, S6, r6, q6⟩ := q; exact ⟨_, _, _, S6.unsuite ok, r6, q6⟩
  | @named y nm i np hp b₀ suite hds w cv ts hc hi hl hsu r ih =>
    intro hw
    obtain ⟨b, hb, yes, no⟩ := hw
    refine wpAny_handleBy_cons (codeAny_handlers_test ?_) (by intro q; cases q)
    refine name hc ((ask (y := y) (np := np) (Q := fun _ _ => True) (E' := fun _ _ => True) hc hb).here ?_)
    cases b with
    | false =>
      show wpAny _ X.A (handleBy (.ref a) X.env hds) _ _ _
      exact ih (no rfl)
    | true =>
      refine codeAny_handlers_suite_as ?_
      refine HandSPX.lands_againZ h.fly fun h4 fl4 up4 => ?_
      have h' : Held X pins σ H a cls d B sI { s' with heap := h4 } := ⟨h.inv, h.grd, h.up.trans up4, fl4, h.no, h.os, h.bare⟩
      obtain ⟨oe4, hz4, hd4, he4, S4⟩ := h'.suite hf
      refine L2.store_ok (X := X.suite a ((a, oe4) :: (X.pn ++ pins))) (v := .ref a) S4 hN hi (.inl hl) rfl (fun s5 S5 => ?_) (.inr hl)
      refine wpAny_mono ((hsu a oe4 cls d (X.pn ++ pins) hz4 hd4).run [] s5 _ H _ S5 (yes rfl a h.no)) (fun f s6 q => ?_) fun _ _ z => False.elim z
      have gone : ∀ {σ6 : L2.St} {H6 : Hp} {Q : Shared → Prop}, Inv (X.suite a ((a, oe4) :: (X.pn ++ pins))) [] σ6 H6 s6 → (∀ s7, Inv X pins (σ6.set i none) H6 s7 → Q s7) →
          wpAny (model X.prog X.w) X.A (do bindName X.env nm .none; unbindBehindTheSuite X.env nm hp) (fun _ s7 => Q s7) X.xe s6 := fun {σ6 H6 Q} S6 hq => gone_ok (S6.unsuite ok) hN hi hl hq
      cases f with
      | next => obtain ⟨_, _, S6, q6⟩ := q; exact gone S6 fun s7 J7 => ⟨_, _, J7, q6⟩
      | brk => obtain ⟨_, _, S6, q6⟩ := q; exact gone S6 fun s7 J7 => ⟨_, _, J7, q6⟩
      | cont => obtain ⟨_, _, S6, q6⟩ := q; exact gone S6 fun s7 J7 => ⟨_, _, J7, q6⟩
      | ret u => obtain ⟨_, _, _, S6, r6, q6⟩ := q; exact gone S6 fun s7 J7 => ⟨_, _, _, J7, r6, q6⟩
theorem ps_tryN {body : List Stmt} {h₀ : ExceptHandler} {hds : List ExceptHandler} {pos : Pos} {tb : WX → TS} (hs : X.stack = X.env :: X.outer) (hf : X.env.frame = some X.env.locals) (hN : X.N.Nodup) (tk : Takes X Wo)
    (hb : ∀ (W : WX) (pn : List (Addr × Obj)) (xe : Value → Shared → Prop), Takes (X.tr pn xe) W → PassesOwn (model X.prog X.w) X.A X.env xe → PSs (X.tr pn xe) body (tb W)) {w : Ends → WX} (hh : ∀ E, Hds X E Wo (h₀ :: hds) (w E)) :
    PS X (.Try body (h₀ :: hds) [] [] pos) (fun E σ H => tb (w E) E σ H) := by
  refine ⟨fun pins s σ H E I h => ?_⟩
  have ok := I.ok
  have hfr : X.A.frames = some (X.env :: X.outer) := by rw [ok.frames, hs]
  have back : ∀ {f : Flow} {s1 : Shared}, SP (X.tr (X.pn ++ pins) fun e s₁ => wpAny (model X.prog X.w) X.A (noteFrame e X.env) (fun _ s₂ => wpAny (model X.prog X.w) X.A (setFlight e none) (fun _ s₃ =>
      wpAny (model X.prog X.w) X.A (handleBy e X.env (h₀ :: hds)) (SP X pins E) X.xe s₃) X.xe s₂) X.xe s₁) [] E f s1 → SP X pins E f s1 := by
    intro f s1 q
    cases f with
    | next => obtain ⟨_, _, J, q⟩ := q; exact ⟨_, _, J.ofTry ok, q⟩
    | brk => obtain ⟨_, _, J, q⟩ := q; exact ⟨_, _, J.ofTry ok, q⟩
    | cont => obtain ⟨_, _, J, q⟩ := q; exact ⟨_, _, J.ofTry ok, q⟩
    | ret u => obtain ⟨_, _, _, J, r, q⟩ := q; exact ⟨_, _, _, J.ofTry ok, r, q⟩
  refine wpAny_Try_except (wpAny_mono ((hb (w E) (X.pn ++ pins) _ (fun u s' xx => ?_) PassesOwn.looking).run [] s σ H E (I.toTry _) h) (fun f s1 q => ?_) (fun e s1 he => he))
  · obtain ⟨a, B, sI, pins', σ', H', cls, d, rfl, J', nb, up, sky, na, os, ag, hw⟩ := xx
    have sky' : Sky B (X.env :: X.outer) a (Zc cls d) X.env.locals s'.heap := by rw [← hs]; exact sky
    show wpAny (model X.prog X.w) X.A (noteFrame (.ref a) X.env) _ _ _
    refine Sky.land Zc.steady hfr hf sky' fun h3 fl3 up3 => ?_
    exact hds_run hs hf hN tk ok (⟨J'.ofTry ok, nb, up.trans up3, fl3, na, os, ag⟩ : Held X pins σ' H' a cls d B sI { s' with heap := h3 }) (hh E) hw
  · have q := back q
    cases f with
    | next => obtain ⟨_, _, J, q⟩ := q; exact wpAny_execs_nil ⟨_, _, J, q⟩
    | brk => exact q
    | cont => exact q
    | ret u => exact q
end
end Z

set_option Elab.async false
set_option linter.all false
set_option maxRecDepth 100000
set_option maxHeartbeats 4000000
namespace Z
open PySem PySem.Spec PyProof.Rows L2
section
variable {X : Cx} {ca ca' : Ca} {W : WX} {k n : Nat} {c : Cs} {H F : Hp} {σ : L2.St} {K : PySem.W.Frag}
theorem NdF.recast {a : Addr} {kd : Kd} {ws : List V} (e : ca'.at_ = ca.at_) (h : NdF K ca F a kd ws) : NdF K ca' F a kd ws := by
  cases kd with
  | obj x fs => obtain ⟨l, dx, h⟩ := h; exact ⟨l, dx, by rw [e]; exact h⟩
  | lst => exact h
  | rol => exact h
  | tup => exact h
theorem NdO.recast {a : Addr} {kd : Kd} {ws : List V} (e : ca'.at_ = ca.at_) (h : NdO ca H a kd ws) : NdO ca' H a kd ws := by
  cases kd with
  | obj x fs => obtain ⟨l, dx, h⟩ := h; exact ⟨l, dx, by rw [e]; exact h⟩
  | lst => exact h
  | rol => exact h
  | tup => exact h
theorem DenL.recast (e : ca'.at_ = ca.at_) {l : List (V × D)} {A : List Addr} (h : DenL K ca H F l A) : DenL K ca' H F l A := by
  induction h with
  | nil => exact .nil
  | unb _ ih => exact .unb ih
  | non _ ih => exact .non ih
  | bl _ ih => exact .bl ih
  | int _ ih => exact .int ih
  | str _ ih => exact .str ih
  | ty _ ih => exact .ty ih
  | frz hn hx _ _ ih1 ih2 => exact .frz (NdF.recast e hn) hx ih1 ih2
  | own hn hx _ _ ih1 ih2 => exact .own (NdO.recast e hn) hx ih1 ih2
theorem Stt.recast (e : ca'.at_ = ca.at_) {l : List (V × D)} (h : Stt K ca H F l) (hb : Sub ca'.B F) : Stt K ca' H F l := by
  obtain ⟨A, hA, nd, fr, sb, _⟩ := h
  exact ⟨A, DenL.recast e hA, nd, fr, sb, hb⟩
/-- the body of a try -/
theorem StOk.tr (C : StOk X ca k c) (hcur : c.cur = none) (pn : List (Addr × Obj)) (xe : Value → Shared → Prop) (hp : PassesOwn (model X.prog X.w) X.A X.env xe) : StOk (X.tr pn xe) ca k c where
  ctx := {
    N := C.ctx.N, nd := C.ctx.nd, dbg := C.ctx.dbg, sc := C.ctx.sc, kind := C.ctx.kind, room := C.ctx.room, units := C.ctx.units, calm := C.ctx.calm, free := C.ctx.free, gval := C.ctx.gval
    gfn := fun z x f hf => by
      obtain ⟨fa, m1, m2⟩ := C.ctx.gfn z x f hf
      exact ⟨fa, m1, ⟨m2.ok, m2.kp, m2.len, m2.len2⟩⟩
    ginit := fun z x cl' f a1 a2 a3 => by
      obtain ⟨fa, k', m1, m2, m3⟩ := C.ctx.ginit z x cl' f a1 a2 a3
      exact ⟨fa, k', m1, m2, ⟨m3.ok, m3.kp, m3.len, m3.len2⟩⟩
    gmeth := fun z x cl' m f a1 a2 a3 => by
      obtain ⟨fa, m1, m3⟩ := C.ctx.gmeth z x cl' m f a1 a2 a3
      exact ⟨fa, m1, ⟨m3.ok, m3.kp, m3.len, m3.len2⟩⟩
    cur := fun i fs z => by rw [hcur] at z; cases z
    pins := C.ctx.pins, out := C.ctx.out
    gcl := fun x cl' hx => by
      have m := C.ctx.gcl x cl' hx
      exact ⟨m.at_, m.cls, m.ty, m.isa, m.notb⟩
    fnl := C.ctx.fnl }
  pass := hp
  stk := C.stk
  frm := C.frm
  mkx := C.mkx
  exm := C.exm
  xf := C.xf
/-- a suite without a name for its exception -/
theorem StOk.suite0 (C : StOk X ca k c) (hcur : c.cur = none) (a : Addr) (pn : List (Addr × Obj)) : StOk (X.suite a pn) ca k c.suite0 where
  ctx := {
    N := C.ctx.N, nd := C.ctx.nd, dbg := C.ctx.dbg, sc := C.ctx.sc, kind := C.ctx.kind, units := C.ctx.units, free := C.ctx.free, gval := C.ctx.gval
    room := fun z => by cases z
    calm := fun z => by cases z
    gfn := fun z => by cases z
    ginit := fun z => by cases z
    gmeth := fun z => by cases z
    cur := fun i fs z hf => by
      have z : some (c.N.length, []) = some (i, fs) := z
      cases z
      exact absurd rfl hf
    pins := C.ctx.pins
    out := fun z => by cases z
    gcl := fun x cl' hx => by
      have m := C.ctx.gcl x cl' hx
      exact ⟨m.at_, m.cls, m.ty, m.isa, m.notb⟩
    fnl := C.ctx.fnl }
  pass := PassesOwn.never
  stk := fun z => by cases z
  frm := fun z => by cases z
  mkx := fun z => by cases z
  exm := C.exm
  xf := C.xf
/-- a suite with a name for its exception -/
theorem StOk.suiteN (C : StOk X ca k c) (hcur : c.cur = none) {i : Nat} {fs : List (Str × D)} {x : Str} (hx : c.xfOk x fs = true) {a : Addr} {oe : Obj} {d : Option Addr} (pn : List (Addr × Obj)) (hz : Zc (.ref (ca.at_ x)) d oe) (hd : ∃ vs, oe.data = .fields vs) (ex : ExD X.K ca F d fs) :
    StOk (X.suite a ((a, oe) :: pn)) { ca with B := F, pin := [(i, .ref a)] } k (c.suiteN i fs) where
  ctx := {
    N := C.ctx.N, nd := C.ctx.nd, dbg := C.ctx.dbg, sc := C.ctx.sc, kind := C.ctx.kind, units := C.ctx.units, free := C.ctx.free
    gval := fun x d hv => by
      obtain ⟨h1, v, u, h2, h3, h4⟩ := C.ctx.gval x d hv
      exact ⟨h1, v, u, h2, h3, fun H F0 => DenL.recast (ca := ca) (ca' := { ca with B := F, pin := [(i, .ref a)] }) rfl (h4 H F0)⟩
    room := fun z => by cases z
    calm := fun z => by cases z
    gfn := fun z => by cases z
    ginit := fun z => by cases z
    gmeth := fun z => by cases z
    cur := fun i' fs' z hf => by
      have z : some (i, fs) = some (i', fs') := z
      cases z
      refine ⟨a, List.mem_singleton.mpr rfl, fun f dd hl => ?_⟩
      rcases ex with ⟨e1, _⟩ | ⟨ad, vs, rfl, hxd, hvs, hden⟩
      · exact absurd e1 hf
      · -- the field's value
        have key : ∀ {vs : List (Str × (V × D))}, (vs.map fun q => (q.1, q.2.2)).lookup f = some dd → ∃ v, (vs.map fun q => (q.1, q.2.1)).lookup f = some v ∧ (v, dd) ∈ vs.map (·.2) := by
          intro vs
          induction vs with
          | nil => intro h; cases h
          | cons q r ih =>
            intro h
            simp only [List.map_cons, List.lookup_cons] at h ⊢
            cases hb : f == q.1 with
            | true =>
              rw [hb] at h
              cases h
              exact ⟨q.2.1, rfl, List.mem_cons_self⟩
            | false =>
              rw [hb] at h
              obtain ⟨v, h1, h2⟩ := ih h
              exact ⟨v, h1, List.mem_cons_of_mem _ h2⟩
        rw [← hvs] at hl
        obtain ⟨v, hv, hm⟩ := key hl
        have hfn : PySem.W.findIn X.K (.ref (ca.at_ x)) f = some none ∧ XfC X.K (ca.at_ x) := by
          unfold Cs.xfOk at hx
          split at hx
          · rename_i cl hcl
            split at hx
            · rename_i gs hgs
              obtain ⟨x1, x2⟩ := C.xf x cl gs hcl hgs
              refine ⟨?_, x1⟩
              rw [List.all_eq_true] at hx
              have hmem : ∃ q ∈ fs, q.1 = f := by
                rw [← hvs]
                have : ∀ {l : List (Str × D)}, l.lookup f = some dd → ∃ q ∈ l, q.1 = f := by
                  intro l
                  induction l with
                  | nil => intro h; cases h
                  | cons q r ih =>
                    intro h
                    rw [List.lookup_cons] at h
                    cases hb : f == q.1 with
                    | true => exact ⟨q, List.mem_cons_self, (eq_of_beq hb).symm⟩
                    | false =>
                      rw [hb] at h
                      obtain ⟨z, h1, h2⟩ := ih h
                      exact ⟨z, List.mem_cons_of_mem _ h1, h2⟩
                exact this hl
              obtain ⟨q, hq, rfl⟩ := hmem
              have := hx q hq
              rw [List.any_eq_true] at this
              obtain ⟨g, hg, he⟩ := this
              rw [← eq_of_beq he]
              exact x2 g hg
            · cases hx
          · cases hx
        refine ⟨v, fun H F' sb => ?_, fun e pos te he ⟨y, py, hn⟩ => ?_⟩
        · obtain ⟨B, h1, h2⟩ := den_mem hden hm
          have e0 : B = [] := List.eq_nil_iff_forall_not_mem.mpr fun b z => by have := h2 b z; simp at this
          exact DenL.recast (ca := ca) (ca' := { ca with B := F, pin := [(i, .ref a)] }) rfl ((h1.ground e0 H).mono sb fun b z => by cases z)
        · have hb : attributeBase e f X.env (eval e X.env) = eval e X.env := by subst hn; rfl
          have he2 : PE (X.suite a ((a, oe) :: pn)) e (fun σ H Q => ∃ Q' : VK, te σ H Q' ∧ ∀ x H1, Q' x H1 → Q x H1) :=
            ⟨fun pins s σ H Q I ⟨Q', h1, h2⟩ => thn (he.run pins s σ H Q' I h1) fun u s' ⟨v, H', I', r, q⟩ => ⟨v, H', I', r, h2 _ _ q⟩⟩
          refine PE.weak (pe_xf hfn.2 hfn.1 hz hd he2 hb) fun σ H Q h => ⟨_, h, fun x H1 ⟨h1, h2, h3⟩ => ⟨h1, rfl, ad, _, v, rfl, h2 _ _ hxd, hv, h3⟩⟩
    pins := fun q hq => by
      have : q = (i, V.ref a) := by simpa using hq
      subst this
      show (c.P i || i == i) = true
      simp
    out := fun z => by cases z
    gcl := fun x cl' hx => by
      have m := C.ctx.gcl x cl' hx
      exact ⟨m.at_, m.cls, m.ty, m.isa, m.notb⟩
    fnl := fun x j hj hP hl => C.ctx.fnl x j hj (fun z => hP (by show (c.P j || j == i) = true; rw [z]; rfl)) hl }
  pass := PassesOwn.never
  stk := fun z => by cases z
  frm := fun z => by cases z
  mkx := fun z => by cases z
  exm := C.exm
  xf := C.xf
end
end Z

set_option Elab.async false
set_option linter.all false
set_option maxRecDepth 100000
set_option maxHeartbeats 4000000
namespace Z
open PySem PySem.Spec PyProof.Rows L2
section
variable {X : Cx} {ca : Ca} {W : WX} {k n : Nat} {c : Cs} {H F : Hp} {σ : L2.St} {K : PySem.W.Frag}
/-- what a suite is to do -/
def tsB (X : Cx) (ca : Ca) (c : Cs) (n : Nat) (suite : List Stmt) (a : Addr) (cls : Value) (d : Option Addr) : TS := tS X.K ca (fun _ _ _ _ => False) c.suite0.P (evSs c.suite0 n suite)
def tsN (X : Cx) (ca : Ca) (c : Cs) (n i : Nat) (suite : List Stmt) (a : Addr) (cls : Value) (d : Option Addr) : TS := fun E σ H => ∃ (x : Str) (fs : List (Str × D)) (F : Hp), cls = .ref (ca.at_ x) ∧ c.xfOk x fs = true ∧ ExD X.K ca F d fs ∧
  tS X.K { ca with B := F, pin := [(i, .ref a)] } (fun _ _ _ _ => False) (c.suiteN i fs).P (evSs (c.suiteN i fs) n suite) E σ H
/-- what is wished of an exception of the body -/
def wHs (X : Cx) (ca : Ca) (W : WX) (c : Cs) (n : Nat) (E : Ends) : List ExceptHandler → WX
  | [] => W
  | .ExceptHandler (some (.Name y _)) none suite _ :: r => wOne X.K (.ref (ca.at_ y)) (fun a cls d σ H => tsB X ca c n suite a cls d E σ H) (wHs X ca W c n E r)
  | .ExceptHandler (some (.Name y _)) (some nm) suite _ :: r => match slotOf c.N nm with
    | some i => wOne X.K (.ref (ca.at_ y)) (fun a cls d σ H => tsN X ca c n i suite a cls d (endsGone E i) (σ.set i (some (.ref a))) H) (wHs X ca W c n E r)
    | none => fun _ _ _ _ => False
  | _ :: _ => fun _ _ _ _ => False
/-- clauses that are looked after, one by one -/
theorem hdOk_of {h : ExceptHandler} (hh : c.hdOk h = true) : ∃ y np b₀ suite hp cl, c.glob y = true ∧ c.g y = some (.cls cl) ∧ (h = .ExceptHandler (some (.Name y np)) none (b₀ :: suite) hp ∨ ∃ nm i, h = .ExceptHandler (some (.Name y np)) (some nm) (b₀ :: suite) hp ∧ c.sc.names.lookup nm = some .local ∧ slotOf c.N nm = some i ∧ c.P i = false) := by
  unfold Cs.hdOk at hh
  split at hh
  · rename_i y np b₀ suite hp
    simp only [Bool.and_eq_true] at hh
    obtain ⟨h1, h2⟩ := hh
    split at h2
    · rename_i cl hcl
      exact ⟨y, np, b₀, suite, hp, cl, h1, hcl, .inl rfl⟩
    · cases h2
  · rename_i y np nm b₀ suite hp
    simp only [Bool.and_eq_true, beq_iff_eq] at hh
    obtain ⟨⟨⟨h1, h2⟩, h3⟩, h4⟩ := hh
    split at h2
    · rename_i cl hcl
      split at h4
      · rename_i i hi
        exact ⟨y, np, b₀, suite, hp, cl, h1, hcl, .inr ⟨nm, i, rfl, h3, hi, by simpa using h4⟩⟩
      · cases h4
    · cases h2
  · cases hh
theorem names_of (C : CtxOk X ca k c) {y : Str} {cl : Cl} (hg : c.glob y = true) (hc : c.g y = some (.cls cl)) : Names X y (.ref (ca.at_ y)) := by
  obtain ⟨g1, g2, g3⟩ := glob_of C hg
  exact ⟨g1, g2, .inl (C.gcl _ _ hc).at_⟩
theorem hds_of (S : ∀ ca, SndS ca k n) (C : StOk X ca k c) (hcur : c.cur = none) (E : Ends) : ∀ {hs : List ExceptHandler}, hs.all c.hdOk = true → Hds X E W hs (wHs X ca W c n E hs)
  | [], _ => .nil
  | h :: r, hh => by
    simp only [List.all_cons, Bool.and_eq_true] at hh
    obtain ⟨y, np, b₀, suite, hp, cl, g1, g2, h1 | ⟨nm, i, h1, h2, h3, h4⟩⟩ := hdOk_of hh.1
    · subst h1
      refine .bare (ts := tsB X ca c n (b₀ :: suite)) (names_of C.ctx g1 g2) (fun a oe cls d pn hz hd => ?_) (hds_of S C hcur E hh.2)
      exact (S ca).Ss (X.suite a ((a, oe) :: pn)) c.suite0 _ _ (C.suite0 hcur a _) takes_none5
    · subst h1
      have h5 : wHs X ca W c n E (.ExceptHandler (some (.Name y np)) (some nm) (b₀ :: suite) hp :: r) = wOne X.K (.ref (ca.at_ y)) (fun a cls d σ H => tsN X ca c n i (b₀ :: suite) a cls d (endsGone E i) (σ.set i (some (.ref a))) H) (wHs X ca W c n E r) := by
        simp only [wHs, h3]
      rw [h5]
      refine .named (ts := tsN X ca c n i (b₀ :: suite)) (names_of C.ctx g1 g2) (by rw [C.ctx.N]; exact slotOf_at h3) (by show X.env.scope.names.lookup nm = _; rw [C.ctx.sc]; exact h2) (fun a oe cls d pn hz hd => ⟨fun pins s σ H E' I ⟨x, fs, F, e1, e2, e3, e4⟩ => ?_⟩) (hds_of S C hcur E hh.2)
      subst e1
      exact ((S _).Ss (X.suite a ((a, oe) :: pn)) (c.suiteN i fs) _ _ (C.suiteN hcur e2 pn hz hd e3) takes_none5).run pins s σ H E' I e4
/-- an exception of the body finds its clause -/
theorem wish_ok (C : StOk X ca k c) (hcur : c.cur = none) {E : Ends} {P : Nat → Bool} {t e' : List (V × D)} {x : Str} {fs : List (Str × D)} {η1 : List D} {dx : Option Addr} {σ' : L2.St} {H' F' : Hp} (hP : P = c.P) (af : Aft ca P σ F η1 σ' e' F') (ex : ExD X.K ca F' dx fs) (st : Stt X.K ca H' F' (e' ++ t)) :
    ∀ {hs : List ExceptHandler}, hs.all c.hdOk = true → PostS X.K ca W P σ t F E (match clauseOf c x hs with
        | some none => some (.exc x fs η1)
        | some (some (none, sts)) => noExc (evSs (c.suite0) n sts η1)
        | some (some (some nm, sts)) => (match slotOf c.N nm with
          | some i => if i < η1.length ∧ c.xfOk x fs = true then goneAt i (evSs (c.suiteN i fs) n sts (η1.set i .unb)) else none
          | none => none)
        | none => none) → wHs X ca W c n E hs (.ref (ca.at_ x)) dx σ' H'
  | [], _, h => h dx σ' e' H' F' af ex st
  | hd :: r, hh, h => by
    subst hP
    simp only [List.all_cons, Bool.and_eq_true] at hh
    obtain ⟨y, np, b₀, suite, hp, cy, g1, g2, h1⟩ := hdOk_of hh.1
    -- the question
    have ask : ∀ nm, (PostS X.K ca W c.P σ t F E (match clauseOf c x (.ExceptHandler (some (.Name y np)) nm (b₀ :: suite) hp :: r) with
        | some none => some (.exc x fs η1)
        | some (some (none, sts)) => noExc (evSs (c.suite0) n sts η1)
        | some (some (some nm, sts)) => (match slotOf c.N nm with
          | some i => if i < η1.length ∧ c.xfOk x fs = true then goneAt i (evSs (c.suiteN i fs) n sts (η1.set i .unb)) else none
          | none => none)
        | none => none)) → ∃ b, PySem.W.exmOne X.K (.ref (ca.at_ x)) (.ref (ca.at_ y)) = some b ∧ (b = true → PostS X.K ca W c.P σ t F E (match nm with
          | none => noExc (evSs (c.suite0) n (b₀ :: suite) η1)
          | some nm => (match slotOf c.N nm with
            | some i => if i < η1.length ∧ c.xfOk x fs = true then goneAt i (evSs (c.suiteN i fs) n (b₀ :: suite) (η1.set i .unb)) else none
            | none => none))) ∧ (b = false → wHs X ca W c n E r (.ref (ca.at_ x)) dx σ' H') := by
      intro nm h
      cases hgx : c.g x with
      | none => simp only [clauseOf, hgx] at h; exact False.elim h
      | some g =>
        cases g with
        | val _ => simp only [clauseOf, hgx] at h; exact False.elim h
        | fn _ => simp only [clauseOf, hgx] at h; exact False.elim h
        | cls cl =>
          cases hq : cl.exc.isSome with
          | false => simp only [clauseOf, hgx, hq, Bool.false_eq_true, if_false] at h; exact False.elim h
          | true =>
          cases hl : cl.isa.lookup y with
          | none => simp only [clauseOf, hgx, hq, if_true, hl] at h; exact False.elim h
          | some b =>
            refine ⟨b, C.exm x y cl cy b hgx g2 hq hl, fun hb => ?_, fun hb => ?_⟩
            · subst hb
              simp only [clauseOf, hgx, hq, if_true, hl] at h
              cases nm <;> exact h
            · subst hb
              simp only [clauseOf, hgx, hq, if_true, hl] at h
              exact wish_ok C hcur rfl af ex st hh.2 h
    rcases h1 with rfl | ⟨nm, i, rfl, l1, l2, l3⟩
    · obtain ⟨b, hb, yes, no⟩ := ask none h
      refine ⟨b, hb, fun z a na => ?_, no⟩
      have q := yes z
      refine ⟨e', t, F', af.ag, st, ?_⟩
      rw [af.eq]
      cases hm : evSs c.suite0 n (b₀ :: suite) η1 with
      | none => rw [hm] at q; exact q
      | some f =>
        rw [hm] at q
        cases f with
        | exc _ _ _ => exact False.elim q
        | nx η => exact fun σ2 e2 H2 F2 a2 st2 => q σ2 e2 H2 F2 (a2.trans af.kp af.sb) st2
        | brk η => exact fun σ2 e2 H2 F2 a2 st2 => q σ2 e2 H2 F2 (a2.trans af.kp af.sb) st2
        | cnt η => exact fun σ2 e2 H2 F2 a2 st2 => q σ2 e2 H2 F2 (a2.trans af.kp af.sb) st2
        | ret d η => exact fun σ2 e2 H2 F2 v a2 st2 => q σ2 e2 H2 F2 v (a2.trans af.kp af.sb) st2
    · obtain ⟨b, hb, yes, no⟩ := ask (some nm) h
      simp only [wHs, l2]
      refine ⟨b, hb, fun z a na => ?_, no⟩
      have q := yes z
      simp only [l2] at q
      by_cases hcnd : i < η1.length ∧ c.xfOk x fs = true
      · rw [if_pos hcnd] at q
        refine ⟨x, fs, F', rfl, hcnd.2, ex, e'.set i (.non, .unb), t, F', ⟨by rw [List.length_set, List.length_set]; exact af.ag.1, fun j v d hj hbd => ?_, fun p hp' => ?_⟩, Stt.recast (ca := ca) (ca' := { ca with B := F', pin := [(i, V.ref a)] }) rfl (stt_unb st) (Sub.refl F'), ?_⟩
        · by_cases hij : i = j
          · subst hij
            by_cases hl : i < e'.length
            · rw [List.getElem?_set_self hl] at hj; cases hj; cases hbd
            · rw [List.getElem?_eq_none (by simpa using hl)] at hj; cases hj
          · rw [List.getElem?_set_ne hij] at hj
            rw [List.getElem?_set_ne hij]
            exact af.ag.2.1 j v d hj hbd
        · have hp2 : p = (i, V.ref a) := by simpa using hp'
          subst hp2
          have : i < σ'.length := by rw [← af.ag.1, ← List.length_map (f := Prod.snd), af.eq]; exact hcnd.1
          exact List.getElem?_set_self this
        · rw [map_set, af.eq]
          obtain ⟨B0, P0⟩ := C.ctx.out hcur
          -- back from the suite
          have back : ∀ {η2 : List D} {σ3 : L2.St} {e3 : List (V × D)} {F3 : Hp}, Aft { ca with B := F', pin := [(i, V.ref a)] } (c.suiteN i fs).P (σ'.set i (some (.ref a))) F' η2 σ3 e3 F3 → Aft ca c.P σ F (η2.set i .unb) (σ3.set i none) (e3.set i (.non, .unb)) F3 := by
            intro η2 σ3 e3 F3 a3
            refine ⟨by rw [map_set, a3.eq], ⟨by rw [List.length_set, List.length_set]; exact a3.ag.1, fun j v d hj hbd => ?_, fun p hp' => by rw [P0] at hp'; cases hp'⟩, fun j hj => ?_, af.sb.trans a3.sb⟩
            · by_cases hij : i = j
              · subst hij
                by_cases hl : i < e3.length
                · rw [List.getElem?_set_self hl] at hj; cases hj; cases hbd
                · rw [List.getElem?_eq_none (by simpa using hl)] at hj; cases hj
              · rw [List.getElem?_set_ne hij] at hj
                rw [List.getElem?_set_ne hij]
                exact a3.ag.2.1 j v d hj hbd
            · have hij : i ≠ j := fun z => by rw [z, hj] at l3; cases l3
              rw [List.getElem?_set_ne hij]
              have h1 := a3.kp j (by show (c.P j || j == i) = true; rw [hj]; rfl)
              rw [List.getElem?_set_ne hij] at h1
              rw [h1]
              exact af.kp j hj
          have bk : ∀ {H3 F3 : Hp} {l : List (V × D)}, Stt X.K { ca with B := F', pin := [(i, V.ref a)] } H3 F3 l → Stt X.K ca H3 F3 l := fun st => Stt.recast (ca := { ca with B := F', pin := [(i, V.ref a)] }) (ca' := ca) rfl st (by rw [B0]; intro a o z; cases z)
          cases hm : evSs (c.suiteN i fs) n (b₀ :: suite) (η1.set i .unb) with
          | none => rw [hm] at q; exact q
          | some f =>
            rw [hm] at q
            cases f with
            | exc _ _ _ => exact False.elim q
            | nx η => exact fun σ2 e2 H2 F2 a2 st2 => q _ _ H2 F2 (back a2) (stt_unb (bk st2))
            | brk η => exact fun σ2 e2 H2 F2 a2 st2 => q _ _ H2 F2 (back a2) (stt_unb (bk st2))
            | cnt η => exact fun σ2 e2 H2 F2 a2 st2 => q _ _ H2 F2 (back a2) (stt_unb (bk st2))
            | ret d η =>
              intro σ2 e2 H2 F2 v a2 st2
              refine q _ _ H2 F2 v (back a2) ?_
              have s1 : Stt X.K ca H2 F2 (e2 ++ (v, d) :: t) := stt_mid (bk st2)
              exact stt_up (stt_unb s1)
      · rw [if_neg hcnd] at q; exact False.elim q
theorem st_try (S : ∀ ca, SndS ca k n) (C : StOk X ca k c) (tk : Takes X W) {body : List Stmt} {hs : List ExceptHandler} {pos : Pos} : PS X (.Try body hs [] [] pos) (tS X.K ca W c.P (evS c (n + 1) (.Try body hs [] [] pos))) := by
  by_cases hc : (c.cur.isSome || hs.isEmpty || !(hs.all c.hdOk)) = true
  · exact ps_none fun η => by simp only [evS, if_pos hc]
  have hc' := hc
  simp only [Bool.or_eq_true, not_or, Bool.not_eq_true, Bool.not_eq_true', Bool.not_eq_false] at hc'
  obtain ⟨⟨h1, h2⟩, h3⟩ := hc'
  have hcur : c.cur = none := by simpa using h1
  cases hs with
  | nil => cases h2
  | cons h₀ hds =>
    refine PS.weak (ps_tryN (Wo := W) (C.stk hcur) (C.frm hcur) (by rw [C.ctx.N]; exact C.ctx.nd) tk (tb := fun W => tS X.K ca W c.P (evSs c n body)) (fun W pn xe tk' hp => (S ca).Ss (X.tr pn xe) c W body (C.tr hcur pn xe hp) tk') (fun E => hds_of S C hcur E h3)) fun E σ H ⟨e, t, F, ag, st, h⟩ => ?_
    simp only [evS, if_neg hc] at h
    refine ⟨e, t, F, ag, st, ?_⟩
    cases hm : evSs c n body (e.map Prod.snd) with
    | none => rw [hm] at h; exact h
    | some f =>
      rw [hm] at h
      cases f with
      | nx η => exact h
      | ret d η => exact h
      | brk η => exact h
      | cnt η => exact h
      | exc x fs η1 => exact fun dx σ' e' H' F' af ex st' => wish_ok C hcur rfl af ex st' h3 h
theorem sndS_step (S : ∀ ca, SndS ca k n) : SndS ca k (n + 1) where
  S := fun X c W s C tk => by
    cases s with
    | Pass pos => exact st_pass
    | Break pos => exact st_break
    | Continue pos => exact st_cont
    | Return o pos =>
      cases o with
      | none => exact st_retN
      | some e => exact st_ret C tk
    | Expr e pos => exact st_expr C tk
    | If q a b pos => exact st_if (S ca) C tk
    | While q b o pos =>
      cases o with
      | nil => exact st_while (S ca) C tk
      | cons _ _ => exact ps_none fun _ => rfl
    | For tg it b o pos =>
      cases o with
      | nil => exact st_for (S ca) C tk
      | cons _ _ => exact ps_none fun _ => rfl
    | Raise e cause pos =>
      cases e with
      | none => exact ps_none fun _ => rfl
      | some e =>
        cases cause with
        | none => exact st_raise C tk
        | some _ => exact ps_none fun _ => rfl
    | Try b hs o f pos =>
      cases o with
      | nil =>
        cases f with
        | nil => exact st_try S C tk
        | cons _ _ => exact ps_none fun _ => rfl
      | cons _ _ => exact ps_none fun _ => rfl
    | AugAssign tg op e pos =>
      cases tg with
      | Name x px => exact st_aug C tk
      | _ => exact ps_none fun _ => rfl
    | Assign tgs e pos =>
      match tgs with
      | [] => exact ps_none fun _ => rfl
      | _ :: _ :: _ => exact ps_none fun η => by unfold evS; simp
      | [tg] =>
        cases tg with
        | Name x px => exact st_name C tk
        | Subscript o i sp => exact st_sub C tk
        | Attribute o f sp => exact st_fld C tk
        | Tuple ts kt pt =>
          by_cases hne : ∃ vs k2 p2, e = .Tuple vs k2 p2
          · obtain ⟨vs, k2, p2, rfl⟩ := hne
            exact st_par C tk
          · exact st_tupE C tk fun vs k2 p2 z => hne ⟨vs, k2, p2, z⟩
        | _ => exact ps_none fun _ => rfl
    | _ => exact ps_none fun _ => rfl
  Ss := fun X c W s C tk => by
    cases s with
    | nil => exact seqs_nil
    | cons s r => exact seqs_cons (S ca) C tk
theorem sndS_zero : SndS ca k 0 where
  S := fun X c W s C tk => ps_none fun _ => rfl
  Ss := fun X c W s C tk => ⟨fun pins s σ H E I ⟨_, _, _, _, _, z⟩ => False.elim z⟩
/-- soundness of the runner's statements -/
theorem sndS_all : ∀ (n : Nat) (ca : Ca), SndS ca k n
  | 0, ca => sndS_zero
  | n + 1, ca => sndS_step fun ca => sndS_all n ca
end
end Z

set_option Elab.async false
set_option linter.all false
set_option maxRecDepth 100000
set_option maxHeartbeats 4000000
namespace Z
open PySem PySem.Spec PyProof.Rows L2
/-- a body of the module -/
def At (P : Program) (w : World) (K : PySem.W.Frag) (mg : Str → Option Value) (base : Heap) (X : Cx) : Prop := X.prog = P ∧ X.w = w ∧ X.K = K ∧ X.mg = mg ∧ X.base = base
/-- what the names of the module stand for -/
structure GOk (P : Program) (w : World) (K : PySem.W.Frag) (mg : Str → Option Value) (base : Heap) (ca : Ca) (k : Nat) (g : Str → Option G) (free : Str → Bool) : Prop where
  free : ∀ x, free x = true → mg x = none
  gval : ∀ x d, g x = some (.val d) → d.still = true ∧ ∃ v u, mg x = some u ∧ RelV v u ∧ ∀ H F, DenL K ca H F [(v, d)] []
  gfn : ∀ x f, g x = some (.fn f) → ∃ fa, mg x = some (.ref fa) ∧ ∀ X, At P w K mg base X → FnFact X ca k fa f
  ginit : ∀ x cl f, g x = some (.cls cl) → cl.exc = none → cl.init = some f → ∃ fa k', Mk K (ca.at_ x) fa ∧ k' + 1 ≤ k ∧ ∀ X, At P w K mg base X → FnFact X ca k' fa f
  gmeth : ∀ x cl m f, g x = some (.cls cl) → cl.exc = none → cl.meths.lookup m = some f → ∃ fa, Meth K (ca.at_ x) m fa ∧ ∀ X, At P w K mg base X → FnFact X ca k fa f
  gcl : ∀ x cl, g x = some (.cls cl) → ∀ X, At P w K mg base X → ClFact X ca g k x cl
  mkx : ∀ x cl fs, g x = some (.cls cl) → cl.exc = some fs → ∀ X, At P w K mg base X → Room k X.A → XcFact X ca x fs
  exm : ∀ x y cl cy b, g x = some (.cls cl) → g y = some (.cls cy) → cl.exc.isSome = true → cl.isa.lookup y = some b → PySem.W.exmOne K (.ref (ca.at_ x)) (.ref (ca.at_ y)) = some b
  xf : ∀ x cl fs, g x = some (.cls cl) → cl.exc = some fs → XfC K (ca.at_ x) ∧ ∀ f ∈ fs, PySem.W.findIn K (.ref (ca.at_ x)) f.1 = some none
/-- what is left of some pairs -/
inductive Lo : List (V × D) → List (V × D) → Prop
  | nil {l} : Lo l []
  | keep {p r s} (h : Lo r s) : Lo (p :: r) (p :: s)
  | drop {p w r s} (h : Lo r s) : Lo (p :: r) ((w, .unb) :: s)
  | more {w s} (h : Lo [] s) : Lo [] ((w, .unb) :: s)
theorem Lo.stt {K : PySem.W.Frag} {ca : Ca} {H F : Hp} {l m : List (V × D)} (h : Lo l m) : ∀ {t : List (V × D)}, Stt K ca H F (l ++ t) → Stt K ca H F (m ++ t) := by
  induction h with
  | nil => exact fun st => Stt.right st
  | @keep p r s h ih =>
    intro t st
    have s1 : Stt K ca H F (r ++ p :: t) := stt_mid st
    exact stt_up (ih s1)
  | @drop p w r s h ih =>
    intro t st
    exact (ih (Stt.tail (v := p.1) (d := p.2) st)).add (l1 := [(w, D.unb)]) (.unb .nil)
  | @more w s h ih =>
    intro t st
    exact (ih st).add (l1 := [(w, D.unb)]) (.unb .nil)
theorem lo_of : ∀ {m l : List (V × D)}, (∀ (i : Nat) (q : V × D), m[i]? = some q → q.2 = D.unb ∨ l[i]? = some q) → Lo l m
  | [], _, _ => .nil
  | q :: m, [], h => by
    have hr : Lo [] m := lo_of fun i z hz => by
      rcases h (i + 1) z (by simpa using hz) with h | h
      · exact .inl h
      · simp at h
    rcases h 0 q rfl with h2 | h2
    · obtain ⟨w, d⟩ := q
      have : d = .unb := h2
      subst this
      exact .more hr
    · simp at h2
  | q :: m, p :: l, h => by
    have hr : Lo l m := lo_of fun i z hz => by
      rcases h (i + 1) z (by simpa using hz) with h | h
      · exact .inl h
      · exact .inr (by simpa using h)
    rcases h 0 q rfl with h2 | h2
    · obtain ⟨w, d⟩ := q
      have : d = .unb := h2
      subst this
      exact .drop hr
    · have : p = q := by simpa using h2
      subst this
      exact .keep hr
section
variable {P : Program} {w : World} {K : PySem.W.Frag} {mg : Str → Option Value} {base : Heap} {ca : Ca} {k n : Nat} {c : Cs} {H F : Hp}
theorem outD_len {np : Nat} {keep : Nat → Bool} {η : List D} : ((List.range np).map fun i => if keep i = true then η.getD i .unb else .unb).length = np := by simp
theorem run_len {np : Nat} {keep : Nat → Bool} {body : List Stmt} : (∀ ds d ds', runF c n np keep body ds = some (.ret d ds') → ds'.length = np) ∧ ∀ ds x fs ds', runF c n np keep body ds = some (.exc x fs ds') → ds'.length = np := by
  refine ⟨fun ds d ds' h => ?_, fun ds x fs ds' h => ?_⟩ <;>
  · unfold runF at h
    simp only at h
    split at h
    · cases h
    · split at h <;> cases h <;> simp
theorem start_get {N : List Str} {vs : List V} {i : Nat} {v : V} (h : vs[i]? = some v) : (L2.start N vs)[i]? = some (some v) := by
  unfold L2.start
  have hl : i < vs.length := (List.getElem?_eq_some_iff.mp h).1
  rw [List.getElem?_append_left (by simpa using hl), List.getElem?_map, h]
  rfl
/-- the kept parameters, behind the body -/
theorem out_lo {np : Nat} {keep : Nat → Bool} {η : List D} {e' : List (V × D)} {vs : List V} {σ' : L2.St} {F' : Hp} (hk : ∀ i, keep i = true → c.P i = true) (a : Aft ca c.P (L2.start c.N vs) F η σ' e' F') : Lo e' (vs.zip ((List.range np).map fun i => if keep i = true then η.getD i .unb else .unb)) := by
  refine lo_of fun i q hq => ?_
  rw [List.getElem?_zip_eq_some] at hq
  obtain ⟨h1, h2⟩ := hq
  rw [List.getElem?_map, Option.map_eq_some_iff] at h2
  obtain ⟨j, hj, h2⟩ := h2
  have hij : j = i := by
    obtain ⟨a1, a2⟩ := List.getElem?_eq_some_iff.mp hj
    simpa using a2.symm
  subst hij
  by_cases hkj : keep j = true
  · rw [if_pos hkj] at h2
    cases he : e'[j]? with
    | none =>
      left
      rw [← h2, ← a.eq, List.getD_eq_getElem?_getD, List.getElem?_map, he]
      rfl
    | some p =>
      obtain ⟨v, d⟩ := p
      have hd : q.2 = d := by rw [← h2, ← a.eq, List.getD_eq_getElem?_getD, List.getElem?_map, he]; rfl
      cases hb : d.bound with
      | false =>
        left
        rw [hd]
        cases d <;> first | rfl | cases hb
      | true =>
        right
        have h3 := a.ag.2.1 j v d he hb
        rw [a.kp j (hk j hkj), start_get h1] at h3
        have h4 : v = q.1 := by simpa using h3.symm
        rw [h4, ← hd]
  · rw [if_neg hkj] at h2
    exact .inl h2.symm
/-- what a def's text must be like -/
structure DefOk (c : Cs) (ps : List Str) : Prop where
  sc : FnScope c.N ps c.sc
  dbg : ∀ x ∈ c.N, (x == ("__debug__" : Str)) = false ∧ (x == ("__classdict__" : Str)) = false
  cur : c.cur = none
/-- THE RULE for a def: its body, as the runner says -/
theorem def_ok (hca : ca.B = (fun _ => none) ∧ ca.pin = []) (G0 : GOk P w K mg base ca k c.g c.free) {x qual : Str} {params : Arguments} {body : List Stmt} {dvs : List V} {kws : List (Str × V)} {fa : Addr} {fd : FuncData} {ps : List Str} {keep : Nat → Bool} (FD : FunD K x qual params body c.sc dvs kws fa fd) (D0 : DefOk c ps)
    (hk : ∀ i, keep i = true → c.P i = true) : FnOk P w K mg base (L2.CX P w) (k + 1) fa fd ps (spF K ca ps.length (runF c n ps.length keep body)) := by
  refine FD.ok D0.sc (fun vs H Q E h => h.1) fun cdv A outer s H vs Q E hr hsp => ?_
  obtain ⟨hv, ds, t, F, hd, st, hrun⟩ := hsp
  let X := cxOf (L2.CX P w) P w K mg base c.N qual c.sc fa cdv A outer s H E
  have hX : ∀ pn xe, At P w K mg base (X.tr pn xe) := fun _ _ => ⟨rfl, rfl, rfl, rfl, rfl⟩
  have C : StOk X ca k c := {
    ctx := {
      N := rfl, nd := D0.sc.nd, dbg := D0.dbg, sc := rfl, kind := D0.sc.kind, room := fun _ => hr, units := hr.units, calm := fun _ => rfl, free := G0.free, gval := G0.gval
      gfn := fun _ x f hf => by
        obtain ⟨fa, h1, h2⟩ := G0.gfn x f hf
        exact ⟨fa, h1, h2 X ⟨rfl, rfl, rfl, rfl, rfl⟩⟩
      ginit := fun _ x cl f a b d => by
        obtain ⟨fa, k', h1, h2, h3⟩ := G0.ginit x cl f a b d
        exact ⟨fa, k', h1, h2, h3 X ⟨rfl, rfl, rfl, rfl, rfl⟩⟩
      gmeth := fun _ x cl m f a b d => by
        obtain ⟨fa, h1, h3⟩ := G0.gmeth x cl m f a b d
        exact ⟨fa, h1, h3 X ⟨rfl, rfl, rfl, rfl, rfl⟩⟩
      cur := fun i fs z => by rw [D0.cur] at z; cases z
      pins := fun q z => by rw [hca.2] at z; cases z
      out := fun _ => hca
      gcl := fun x cl hx => G0.gcl x cl hx X ⟨rfl, rfl, rfl, rfl, rfl⟩
      fnl := fun x i _ _ _ => .inl rfl }
    pass := passes_of rfl
    stk := fun _ => rfl
    frm := fun _ => rfl
    mkx := fun _ x cl fs h1 h2 pn xe => G0.mkx x cl fs h1 h2 (X.tr pn xe) ⟨rfl, rfl, rfl, rfl, rfl⟩ hr
    exm := G0.exm
    xf := G0.xf }
  have tk : Takes X (fun cls d _ H => E cls d H) := takes_of rfl rfl rfl rfl
  refine ⟨_, (sndS_all n ca).Ss X c _ body C tk, ?_⟩
  have hN : ps.length ≤ c.N.length := by have := congrArg List.length D0.sc.pre; rw [List.length_take] at this; omega
  have hzl : (vs.zip ds).length = ps.length := by rw [List.length_zip, hv, hd]; omega
  refine ⟨vs.zip ds ++ List.replicate (c.N.length - ps.length) (V.non, D.unb), t, F, ⟨?_, fun i v d hi hb => ?_, fun q z => by rw [hca.2] at z; cases z⟩, ?_, ?_⟩
  · unfold L2.start
    rw [List.length_append, List.length_append, List.length_map, List.length_replicate, List.length_replicate, hzl, hv]
  · by_cases hil : i < ps.length
    · rw [List.getElem?_append_left (by omega)] at hi
      rw [List.getElem?_zip_eq_some] at hi
      exact start_get hi.1
    · rw [List.getElem?_append_right (by omega), List.getElem?_replicate] at hi
      split at hi
      · cases hi; cases hb
      · cases hi
  · have hrep : ∀ m, DenL K ca H F (List.replicate m (V.non, D.unb)) [] := fun m => by
      induction m with
      | zero => exact .nil
      | succ m ih => exact .unb ih
    refine (st.add (hrep (c.N.length - ps.length))).perm (perm_mu (by simp only [mu_app]; ac_rfl))
  · have e1 : (vs.zip ds ++ List.replicate (c.N.length - ps.length) (V.non, D.unb)).map Prod.snd = ds ++ List.replicate (c.N.length - ps.length) .unb := by
      rw [List.map_append, List.map_snd_zip (by omega), List.map_replicate]
    rw [e1]
    unfold runF at hrun
    simp only [hd, ne_eq, not_true_eq_false, if_false] at hrun
    cases hm : evSs c n body (ds ++ List.replicate (c.N.length - ps.length) .unb) with
    | none => rw [hm] at hrun; exact hrun
    | some f =>
      rw [hm] at hrun
      cases f with
      | nx η => exact fun σ' e' H' F' a st' => hrun .non H' F' a.sb (((out_lo hk a).stt st').add (l1 := [(V.non, D.non)]) (.non .nil))
      | ret d η =>
        intro σ' e' H' F' v a st'
        have s1 : Stt K ca H' F' (e' ++ (v, d) :: t) := stt_mid st'
        exact hrun v H' F' a.sb (stt_up ((out_lo hk a).stt s1))
      | exc x fs η => exact fun dx σ' e' H' F' a hx st' => hrun dx H' F' a.sb hx ((out_lo hk a).stt st')
      | brk η => exact False.elim hrun
      | cnt η => exact False.elim hrun
end
end Z

set_option Elab.async false
set_option linter.all false
set_option maxRecDepth 100000
set_option maxHeartbeats 4000000
namespace Z
open PySem PySem.Spec PyProof.Rows L2
section
variable {P : Program} {w : World} {K : PySem.W.Frag} {mg : Str → Option Value} {base : Heap} {ca : Ca} {k j n : Nat} {c : Cs} {fa : Addr} {free : Str → Bool} {g : Str → Option G}
theorem FnFact.mono {X : Cx} {f : Fn} (h : FnFact X ca j fa f) (hjk : j ≤ k) : FnFact X ca k fa f := by
  obtain ⟨fd, ps, h1, h2, h3⟩ := h.ok
  exact ⟨⟨fd, ps, h1, h2.mono hjk, h3⟩, h.kp, h.len, h.len2⟩
/-- a def, as the table has it -/
def fnOf (c : Cs) (n : Nat) (np : Nat) (keep : Nat → Bool) (shapes : List Shape) (body : List Stmt) : Fn := ⟨np, shapes, keep, runF c n np keep body⟩
/-- a def that is never called -/
def fnNo (np : Nat) (keep : Nat → Bool) (shapes : List Shape) : Fn := ⟨np, shapes, keep, fun _ => none⟩
theorem fn_fact (hca : ca.B = (fun _ => none) ∧ ca.pin = []) (G0 : GOk P w K mg base ca k c.g c.free) {x qual : Str} {params : Arguments} {body : List Stmt} {dvs : List V} {kws : List (Str × V)} {fd : FuncData} {ps : List Str} {keep : Nat → Bool} {shapes : List Shape} (FD : FunD K x qual params body c.sc dvs kws fa fd) (D0 : DefOk c ps)
    (hk : ∀ i, keep i = true → c.P i = true) (hs : ∀ sh ∈ shapes, ShapeOk K fd ps sh) : ∀ X, At P w K mg base X → FnFact X ca (k + 1) fa (fnOf c n ps.length keep shapes body) := by
  rintro X ⟨rfl, rfl, rfl, rfl, rfl⟩
  exact ⟨⟨fd, ps, rfl, def_ok hca G0 FD D0 hk, hs⟩, FD.kp, run_len.1, run_len.2⟩
theorem fn_no {x qual : Str} {params : Arguments} {body : List Stmt} {sc : Scope} {dvs : List V} {kws : List (Str × V)} {fd : FuncData} {ps : List Str} {keep : Nat → Bool} {shapes : List Shape} (FD : FunD K x qual params body sc dvs kws fa fd) (hs : ∀ sh ∈ shapes, ShapeOk K fd ps sh) :
    ∀ X, At P w K mg base X → FnFact X ca k fa (fnNo ps.length keep shapes) := by
  rintro X ⟨rfl, rfl, rfl, rfl, rfl⟩
  exact ⟨⟨fd, ps, rfl, ⟨fun vs H Q E h => h.1, fun A outer s H args us vs Q E _ _ _ _ h => by obtain ⟨_, _, _, _, _, _, z⟩ := h; exact False.elim z⟩, hs⟩, FD.kp, (fun _ _ _ h => by cases h), (fun _ _ _ _ h => by cases h)⟩
/-- one more name -/
def putG (g : Str → Option G) (x : Str) (e : G) : Str → Option G := fun y => if y = x then some e else g y
theorem putG_same {x : Str} {e : G} : putG g x e x = some e := if_pos rfl
theorem putG_ne {x y : Str} {e : G} (h : y ≠ x) : putG g x e y = g y := if_neg h
/-- what is to be known of a new entry -/
def EntOk (P : Program) (w : World) (K : PySem.W.Frag) (mg : Str → Option Value) (base : Heap) (ca : Ca) (k : Nat) (g : Str → Option G) (x : Str) : G → Prop
  | .val d => d.still = true ∧ ∃ v u, mg x = some u ∧ RelV v u ∧ ∀ H F, DenL K ca H F [(v, d)] []
  | .fn f => ∃ fa, mg x = some (.ref fa) ∧ ∀ X, At P w K mg base X → FnFact X ca k fa f
  | .cls cl => (∀ f, cl.exc = none → cl.init = some f → ∃ fa k', Mk K (ca.at_ x) fa ∧ k' + 1 ≤ k ∧ ∀ X, At P w K mg base X → FnFact X ca k' fa f) ∧
      (∀ m f, cl.exc = none → cl.meths.lookup m = some f → ∃ fa, Meth K (ca.at_ x) m fa ∧ ∀ X, At P w K mg base X → FnFact X ca k fa f) ∧ (∀ X, At P w K mg base X → ClFact X ca g k x cl) ∧
      (∀ fs, cl.exc = some fs → ∀ X, At P w K mg base X → Room k X.A → XcFact X ca x fs) ∧
      (∀ fs, cl.exc = some fs → XfC K (ca.at_ x) ∧ ∀ f ∈ fs, PySem.W.findIn K (.ref (ca.at_ x)) f.1 = some none)
theorem GOk.put (G0 : GOk P w K mg base ca j g free) (hjk : j ≤ k) {x : Str} {e : G} (he : EntOk P w K mg base ca k (putG g x e) x e)
    (hs : ∀ y cl b, g y = some (.cls cl) → cl.exc = none → cl.isa.lookup x = some b → (g x).isSome = true)
    (hx : ∀ y z cl cz b, putG g x e y = some (.cls cl) → putG g x e z = some (.cls cz) → cl.exc.isSome = true → cl.isa.lookup z = some b → PySem.W.exmOne K (.ref (ca.at_ y)) (.ref (ca.at_ z)) = some b) : GOk P w K mg base ca k (putG g x e) free where
  free := G0.free
  gval := fun y d h => by
    by_cases hy : y = x
    · subst hy; rw [putG_same] at h; cases h; exact he
    · rw [putG_ne hy] at h; exact G0.gval y d h
  gfn := fun y f h => by
    by_cases hy : y = x
    · subst hy; rw [putG_same] at h; cases h; exact he
    · rw [putG_ne hy] at h
      obtain ⟨fa, h1, h2⟩ := G0.gfn y f h
      exact ⟨fa, h1, fun X hX => (h2 X hX).mono hjk⟩
  ginit := fun y cl f h h1 h2 => by
    by_cases hy : y = x
    · subst hy; rw [putG_same] at h; cases h; exact he.1 f h1 h2
    · rw [putG_ne hy] at h
      obtain ⟨fa, k', a, b, d⟩ := G0.ginit y cl f h h1 h2
      exact ⟨fa, k', a, Nat.le_trans b hjk, d⟩
  gmeth := fun y cl m f h h1 h2 => by
    by_cases hy : y = x
    · subst hy; rw [putG_same] at h; cases h; exact he.2.1 m f h1 h2
    · rw [putG_ne hy] at h
      obtain ⟨fa, a, d⟩ := G0.gmeth y cl m f h h1 h2
      exact ⟨fa, a, fun X hX => (d X hX).mono hjk⟩
  gcl := fun y cl h X hX => by
    by_cases hy : y = x
    · subst hy; rw [putG_same] at h; cases h; exact he.2.2.1 X hX
    · have h0 := h
      rw [putG_ne hy] at h
      have m := G0.gcl y cl h X hX
      refine ⟨m.at_, m.cls, m.ty, fun hex z b hz => ?_, m.notb⟩
      have q := m.isa hex z b hz
      have e1 : tgtU (putG g x e) ca z = tgtU g ca z := by
        unfold tgtU
        by_cases hzx : z = x
        · subst hzx
          have := hs y cl b h hex hz
          rw [putG_same]
          cases hg : g z with
          | none => rw [hg] at this; cases this
          | some _ => rfl
        · rw [putG_ne hzx]
      rw [e1]
      exact q
  mkx := fun y cl fs h hf X hX hr => by
    by_cases hy : y = x
    · subst hy; rw [putG_same] at h; cases h; exact he.2.2.2.1 fs hf X hX hr
    · rw [putG_ne hy] at h
      exact G0.mkx y cl fs h hf X hX (hr.mono hjk)
  exm := hx
  xf := fun y cl fs h hf => by
    by_cases hy : y = x
    · subst hy; rw [putG_same] at h; cases h; exact he.2.2.2.2 fs hf
    · rw [putG_ne hy] at h; exact G0.xf y cl fs h hf
/-- a def is put -/
theorem GOk.putF (G0 : GOk P w K mg base ca j g free) (hjk : j ≤ k) {x : Str} {f : Fn} (hm : mg x = some (.ref fa)) (hf : ∀ X, At P w K mg base X → FnFact X ca k fa f) (hs : ∀ y cl b, g y = some (.cls cl) → cl.exc = none → cl.isa.lookup x = some b → (g x).isSome = true) (hn : ∀ cl, g x ≠ some (.cls cl)) : GOk P w K mg base ca k (putG g x (.fn f)) free := by
  refine G0.put hjk (e := .fn f) ⟨fa, hm, hf⟩ hs fun y z cl cz b h h1 h3 h2 => ?_
  · by_cases hy : y = x
    · subst hy; rw [putG_same] at h; cases h
    · by_cases hz : z = x
      · subst hz; rw [putG_same] at h1; cases h1
      · rw [putG_ne hy] at h; rw [putG_ne hz] at h1
        exact G0.exm y z cl cz b h h1 h3 h2
end
end Z

set_option Elab.async false
set_option linter.all false
set_option maxRecDepth 100000
set_option maxHeartbeats 4000000
namespace Z
open PySem PySem.Spec PyProof.Rows L2
section
variable {P : Program} {w : World} {K : PySem.W.Frag} {mg : Str → Option Value} {base : Heap} {ca : Ca} {k : Nat} {C fI : Addr}
/-- self.f = p, as an own exception's __init__ has it -/
def setF (f p : Str) (p1 p2 p3 p4 : Pos) : Stmt := .Assign [.Attribute (.Name "self" p1) f p2] (.Name p p3) p4
def spX1 (K : PySem.W.Frag) (C : Addr) (f : Str) : Sp := fun vs H Q _ => ∃ a y, vs = [.ref a, y] ∧ H a = some (exo a C none) ∧ ∀ d, H d = none → d ≠ a → Q .non (upd (upd H d (exd d [(f, y)])) a (exo a C (some d)))
theorem ok_X1 {CX : CXT} {qual p f : Str} {params : Arguments} {sc : Scope} {fd : FuncData} {p1 p2 p3 p4 : Pos} (T : OexC K C) (hno : PySem.W.findIn K (.ref C) f = some none) (FD : FunD K "__init__" qual params [setF f p p1 p2 p3 p4] sc [] [] fI fd)
    (S : FnScope ["self", p] ["self", p] sc) (hd : (p == ("__debug__" : Str)) = false ∧ (p == ("__classdict__" : Str)) = false) : FnOk P w K mg base CX 1 fI fd ["self", p] (spX1 K C f) := by
  refine FD.ok S (fun vs H Q E h => ?_) fun cdv A outer s H vs Q E hr hsp => ?_
  · obtain ⟨a, y, rfl, _⟩ := h
    rfl
  · obtain ⟨a, y, rfl, ha, q⟩ := hsp
    have v0 : ∀ {pos}, PE (cxOf CX P w K mg base ["self", p] qual sc fI cdv A outer s H E) (.Name "self" pos) (tVar 0) := fun {pos} => pe_var rfl (by
      rcases S.par "self" (by simp) with h | h
      · exact .inl h
      · exact .inr (.inl h)) (by decide) (by decide)
    have v1 : ∀ {pos}, PE (cxOf CX P w K mg base ["self", p] qual sc fI cdv A outer s H E) (.Name p pos) (tVar 1) := fun {pos} => pe_var rfl (by
      rcases S.par p (by simp) with h | h
      · exact .inl h
      · exact .inr (.inl h)) hd.1 hd.2
    refine ⟨_, pss_one (ps_ost v0 v1), ?_⟩
    exact ⟨y, rfl, .ref a, rfl, a, C, rfl, T, hno, .inl ⟨ha, fun d h1 h2 => q d h1 h2⟩⟩
/-- whatever is weaker -/
theorem pa_loose {X : Cx} {es : List Expr} {ta : TA} (h : PA X es ta) : PA X es (fun σ H Q => ∃ Q' : List V → Hp → Prop, ta σ H Q' ∧ ∀ vs H1, Q' vs H1 → Q vs H1) :=
  ⟨fun pos pins s σ H Q I ⟨Q', h1, h2⟩ => thn (h.run pos pins s σ H Q' I h1) fun us s' ⟨vs, H', I', r, q⟩ => ⟨vs, H', I', r, h2 _ _ q⟩⟩
theorem heap_back {H1 : Hp} {a d : Addr} {o u v w : HO} (ha : H1 a = none) (hda : d ≠ a) : upd (del (upd (upd (upd H1 a o) d u) a v) a) d w = upd H1 d w := by
  funext b
  by_cases hb : b = d
  · subst hb; rw [upd_same, upd_same]
  · rw [upd_ne hb, upd_ne hb]
    by_cases hba : b = a
    · subst hba; rw [del_same, ha]
    · rw [del_ne hba, upd_ne hba, upd_ne hb, upd_ne hba]
theorem xc_one {qual p f x : Str} {params : Arguments} {sc : Scope} {fd : FuncData} {p1 p2 p3 p4 : Pos} (hC : ca.at_ x = C) (T : OexC K C) (hno : PySem.W.findIn K (.ref C) f = some none) (FD : FunD K "__init__" qual params [setF f p p1 p2 p3 p4] sc [] [] fI fd)
    (S : FnScope ["self", p] ["self", p] sc) (hd : (p == ("__debug__" : Str)) = false ∧ (p == ("__classdict__" : Str)) = false) (hb : Binds K fd ["self", p] []) (iC : PySem.W.findIn K (.ref C) "__init__" = some (some (.ref fI))) (tI : PySem.W.typeIn K (.ref fI) = some (.type "function")) (gm : mg x = some (.ref C)) (hk : 2 ≤ k) :
    ∀ X, At P w K mg base X → Room k X.A → XcFact X ca x [(f, 0)] := by
  rintro X ⟨rfl, rfl, rfl, rfl, rfl⟩ hr args ta xp cp hA hs hl hg hdb
  match args, hl with
  | [e], _ =>
    have hF : FnOk X.prog X.w X.K X.mg X.base (L2.CX X.prog X.w) 1 fI fd ["self", p] (spX1 X.K C f) := ok_X1 T hno FD S hd
    have hps : Passes (L2.CX X.prog X.w) X (fun _ _ _ => False) := passes_call (takes_none5 (X := X)) fun _ _ _ _ h => h
    have main := pmk_oex (e := e) (es := []) (p := xp) (pos := cp) T iC tI hF (hr.mono hk) hb .nil hps hg gm (pa_loose hA) hdb (star_of (by simpa using hs)) rfl
    intro pins s σ H Q I h
    refine main pins s σ H Q I ⟨_, h, fun vs H1 ⟨h1, h2⟩ => ⟨by rw [h1]; simp, fun a ha => ?_⟩⟩
    rw [if_neg (by simp)] at h2
    match vs, h1 with
    | [y], _ =>
      refine ⟨a, y, rfl, upd_same, fun d hd1 hda => ⟨rfl, d, [(f, y)], upd_same, by rw [upd_ne hda]; exact upd_same, by rw [upd_ne hda] at hd1; exact hd1, ?_⟩⟩
      rw [upd_ne hda] at hd1
      obtain ⟨ws, e1, e2⟩ := h2 d hd1
      cases e1
      rw [hC] at e2
      rw [heap_back ha hda]
      exact e2
/-- self.f = p; self.f2 = p2 -/
def spX2 (K : PySem.W.Frag) (C : Addr) (f f2 : Str) : Sp := fun vs H Q _ => ∃ a y y2, vs = [.ref a, y, y2] ∧ H a = some (exo a C none) ∧ ∀ d, H d = none → d ≠ a → Q .non (upd (upd (upd H d (exd d [(f, y)])) a (exo a C (some d))) d (exd d [(f2, y2), (f, y)]))
theorem ok_X2 {CX : CXT} {qual p f q f2 : Str} {params : Arguments} {sc : Scope} {fd : FuncData} {p1 p2 p3 p4 p5 p6 p7 p8 : Pos} (T : OexC K C) (hno : PySem.W.findIn K (.ref C) f = some none) (hno2 : PySem.W.findIn K (.ref C) f2 = some none) (FD : FunD K "__init__" qual params [setF f p p1 p2 p3 p4, setF f2 q p5 p6 p7 p8] sc [] [] fI fd)
    (S : FnScope ["self", p, q] ["self", p, q] sc) (hd : (p == ("__debug__" : Str)) = false ∧ (p == ("__classdict__" : Str)) = false) (hd2 : (q == ("__debug__" : Str)) = false ∧ (q == ("__classdict__" : Str)) = false) : FnOk P w K mg base CX 1 fI fd ["self", p, q] (spX2 K C f f2) := by
  refine FD.ok S (fun vs H Q E h => ?_) fun cdv A outer s H vs Q E hr hsp => ?_
  · obtain ⟨a, y, y2, rfl, _⟩ := h
    rfl
  · obtain ⟨a, y, y2, rfl, ha, qq⟩ := hsp
    have vis : ∀ z ∈ (["self", p, q] : List Str), Vis sc z := fun z hz => by
      rcases S.par z hz with h | h
      · exact .inl h
      · exact .inr (.inl h)
    have v0 : ∀ {pos}, PE (cxOf CX P w K mg base ["self", p, q] qual sc fI cdv A outer s H E) (.Name "self" pos) (tVar 0) := fun {pos} => pe_var rfl (vis _ (by simp)) (by decide) (by decide)
    have v1 : ∀ {pos}, PE (cxOf CX P w K mg base ["self", p, q] qual sc fI cdv A outer s H E) (.Name p pos) (tVar 1) := fun {pos} => pe_var rfl (vis _ (by simp)) hd.1 hd.2
    have v2 : ∀ {pos}, PE (cxOf CX P w K mg base ["self", p, q] qual sc fI cdv A outer s H E) (.Name q pos) (tVar 2) := fun {pos} => pe_var rfl (vis _ (by simp)) hd2.1 hd2.2
    refine ⟨_, pss_cons (ps_ost v0 v1) (pss_one (ps_ost v0 v2)), ?_⟩
    refine ⟨y, rfl, .ref a, rfl, a, C, rfl, T, hno, .inl ⟨ha, fun d h1 h2 => ?_⟩⟩
    refine ⟨y2, rfl, .ref a, rfl, a, C, rfl, T, hno2, .inr ⟨d, [(f, y)], upd_same, by rw [upd_ne h2]; exact upd_same, by simp, qq d h1 h2⟩⟩
theorem xc_two {qual p f q f2 x : Str} {params : Arguments} {sc : Scope} {fd : FuncData} {p1 p2 p3 p4 p5 p6 p7 p8 : Pos} (hC : ca.at_ x = C) (T : OexC K C) (hno : PySem.W.findIn K (.ref C) f = some none) (hno2 : PySem.W.findIn K (.ref C) f2 = some none)
    (FD : FunD K "__init__" qual params [setF f p p1 p2 p3 p4, setF f2 q p5 p6 p7 p8] sc [] [] fI fd) (S : FnScope ["self", p, q] ["self", p, q] sc) (hd : (p == ("__debug__" : Str)) = false ∧ (p == ("__classdict__" : Str)) = false) (hd2 : (q == ("__debug__" : Str)) = false ∧ (q == ("__classdict__" : Str)) = false)
    (hb : Binds K fd ["self", p, q] []) (iC : PySem.W.findIn K (.ref C) "__init__" = some (some (.ref fI))) (tI : PySem.W.typeIn K (.ref fI) = some (.type "function")) (gm : mg x = some (.ref C)) (hk : 2 ≤ k) :
    ∀ X, At P w K mg base X → Room k X.A → XcFact X ca x [(f2, 1), (f, 0)] := by
  rintro X ⟨rfl, rfl, rfl, rfl, rfl⟩ hr args ta xp cp hA hs hl hg hdb
  match args, hl with
  | [e, e2], _ =>
    have hF : FnOk X.prog X.w X.K X.mg X.base (L2.CX X.prog X.w) 1 fI fd ["self", p, q] (spX2 X.K C f f2) := ok_X2 T hno hno2 FD S hd hd2
    have hps : Passes (L2.CX X.prog X.w) X (fun _ _ _ => False) := passes_call (takes_none5 (X := X)) fun _ _ _ _ h => h
    have hs' := hs
    simp only [List.any_cons, List.any_nil, Bool.or_false, Bool.or_eq_false_iff] at hs'
    have main := pmk_oex (e := e) (es := [e2]) (p := xp) (pos := cp) T iC tI hF (hr.mono hk) hb .nil hps hg gm (pa_loose hA) hdb (star_of hs'.1) (nostar (by simp [hs'.2]))
    intro pins s σ H Q I h
    refine main pins s σ H Q I ⟨_, h, fun vs H1 ⟨h1, h2⟩ => ⟨by rw [h1]; simp, fun a ha => ?_⟩⟩
    rw [if_neg (by simp)] at h2
    match vs, h1 with
    | [y, y2], _ =>
      refine ⟨a, y, y2, rfl, upd_same, fun d hd1 hda => ⟨rfl, d, [(f2, y2), (f, y)], by rw [upd_ne (Ne.symm hda)]; exact upd_same, upd_same, by rw [upd_ne hda] at hd1; exact hd1, ?_⟩⟩
      rw [upd_ne hda] at hd1
      obtain ⟨ws, e1, e2⟩ := h2 d hd1
      cases e1
      rw [hC] at e2
      have e3 : upd (del (upd (upd (upd (upd H1 a (exo a C none)) d (exd d [(f, y)])) a (exo a C (some d))) d (exd d [(f2, y2), (f, y)])) a) d (.xd [(f2, y2), (f, y)]) = upd H1 d (.xd [(f2, y2), (f, y)]) := by
        funext b
        by_cases hb : b = d
        · subst hb; rw [upd_same, upd_same]
        · rw [upd_ne hb, upd_ne hb]
          by_cases hba : b = a
          · subst hba; rw [del_same, ha]
          · rw [del_ne hba, upd_ne hb, upd_ne hba, upd_ne hb, upd_ne hba]
      rw [e3]
      exact e2
end
end Z

set_option Elab.async false
set_option linter.all false
set_option maxRecDepth 100000
set_option maxHeartbeats 4000000
namespace Z
open PySem PySem.Spec PyProof.Rows L2
section
variable {K : PySem.W.Frag} {C : Addr}
/-- an own exception class on ValueError -/
def oexA (C : Addr) : Option Obj → Bool
  | some ⟨.type t, _, .cls cd, sl⟩ => (t == "type") && (match cd.mro, sl.toList with
    | .ref C' :: bm, [_, _, _, _, some (.builtin n), _] => C' == C && n == "ValueError.__new__" && !cd.hasDel && cd.hasDict && PySem.HandSPX.refsVE bm
    | _, _ => false)
  | _ => false
def oexB (K : PySem.W.Frag) (C : Addr) : Bool := oexA C (K.lookup C) && (decide (PySem.W.findIn K (.ref C) "__setattr__" = some (some (.builtin "object.__setattr__"))) && (decide (PySem.W.subIn K (.ref C) (.type "BaseException") = some true) &&
  (decide (PySem.W.typeIn K (.ref C) = some (.type "type")) && PySem.W.keepIn K (.ref C))))
theorem oexB_ok (h : oexB K C = true) : OexC K C := by
  unfold oexB at h
  simp only [Bool.and_eq_true, decide_eq_true_eq] at h
  obtain ⟨h1, h2, h3, h4, h5⟩ := h
  refine ⟨?_, h2, h3, h4, h5⟩
  unfold oexA at h1
  split at h1
  · rename_i t dd cd sl ho
    simp only [Bool.and_eq_true, beq_iff_eq] at h1
    obtain ⟨rfl, h1⟩ := h1
    split at h1
    · rename_i C' bm k0 k1 k2 k3 n k5 hm hs
      simp only [Bool.and_eq_true, beq_iff_eq, Bool.not_eq_true'] at h1
      obtain ⟨⟨⟨⟨rfl, rfl⟩, hdel⟩, hdict⟩, hv⟩ := h1
      obtain ⟨nm, bs, mro, ns, qn, hd, sn, sub, ab, col, del⟩ := cd
      dsimp only at hm hdel hdict
      subst hm hdel hdict
      have hsl : sl = #[k0, k1, k2, k3, some (.builtin "ValueError.__new__"), k5] := by
        obtain ⟨l⟩ := sl
        simp only at hs
        rw [hs]
      subst hsl
      exact ⟨nm, qn, ns, bs, bm, sn, sub, ab, col, dd, k0, k1, k2, k3, k5, ho, hv⟩
    · cases h1
  · cases h1
/-- what is looked at of a class that is no exception -/
def tyB (K : PySem.W.Frag) (C : Addr) : Bool := decide (PySem.W.findIn K (.ref C) "__class__" = some (some (.builtin "object.__class__"))) && (decide (PySem.W.specialIn K (.builtin "object.__class__") "__get__" = some (some (.builtin "getset_descriptor.__get__"))) &&
  (decide (PySem.W.takesIn K (.builtin "object.__class__") = some true) && decide (PySem.W.mroIn K C (.type "object") = some true)))
theorem tyB_ok (h : tyB K C = true) : PySem.W.findIn K (.ref C) "__class__" = some (some (.builtin "object.__class__")) ∧ PySem.W.specialIn K (.builtin "object.__class__") "__get__" = some (some (.builtin "getset_descriptor.__get__")) ∧
    PySem.W.takesIn K (.builtin "object.__class__") = some true ∧ PySem.W.mroIn K C (.type "object") = some true := by
  unfold tyB at h
  simp only [Bool.and_eq_true, decide_eq_true_eq] at h
  exact h
/-- what isinstance tells, looked at; own: the names that stand for own classes -/
def isaB (K : PySem.W.Frag) (C : Addr) (own : Str → Bool) (isa : List (Str × Bool)) : Bool := isa.all fun q => decide (PySem.W.kitOne K (.ref C) (if own q.1 = true then .ref (He.ga K q.1) else .type ((tyName q.1).getD "")) = some q.2)
def notB (K : PySem.W.Frag) (C : Addr) (notb : List String) : Bool := notb.all fun t => decide (PySem.W.kitOne K (.type t) (.ref C) = some false)
theorem look_mem {α : Type} : ∀ {l : List (Str × α)} {y : Str} {b : α}, l.lookup y = some b → (y, b) ∈ l
  | [], _, _, h => by cases h
  | (z, c) :: r, y, b, h => by
    rw [List.lookup_cons] at h
    cases hb : y == z with
    | true =>
      rw [hb] at h
      cases h
      rw [eq_of_beq hb]
      exact List.mem_cons_self
    | false =>
      rw [hb] at h
      exact List.mem_cons_of_mem _ (look_mem h)
theorem cl_fact {X : Cx} {ca : Ca} {g : Str → Option G} {k : Nat} {x : Str} {cl : Cl} {own : Str → Bool} (hca : ∀ y, ca.at_ y = He.ga X.K y) (hm : X.mg x = some (.ref (He.ga X.K x))) (hex : cl.exc = none) (h1 : Cls X.K (He.ga X.K x)) (h2 : ∀ f ∈ cl.flds, NoAttr X.K (He.ga X.K x) f) (h3 : tyB X.K (He.ga X.K x) = true)
    (h4 : isaB X.K (He.ga X.K x) own cl.isa = true) (h5 : notB X.K (He.ga X.K x) cl.notb = true) (ho : ∀ q ∈ cl.isa, (g q.1).isSome = own q.1) : ClFact X ca g k x cl := by
  have e := hca x
  refine ⟨by rw [e]; exact hm, fun _ => ⟨by rw [e]; exact h1, fun f hf => by rw [e]; exact h2 f hf⟩, fun _ => by rw [e]; exact tyB_ok h3, fun _ y b hy => ?_, fun t ht => ?_⟩
  · unfold isaB at h4
    rw [List.all_eq_true] at h4
    have hmem := look_mem hy
    have q := of_decide_eq_true (h4 _ hmem)
    have o := ho _ hmem
    rw [e]
    unfold tgtU
    simp only at q o
    cases hg : g y with
    | none => rw [hg] at o; rw [if_neg (by rw [← o]; simp)] at q; exact q
    | some z => rw [hg] at o; rw [if_pos (by rw [← o]; rfl)] at q; simp only [hca]; exact q
  · unfold notB at h5
    rw [List.all_eq_true] at h5
    rw [e]
    exact of_decide_eq_true (h5 t (by simpa using ht))
/-- an exception's class -/
theorem clx_fact {X : Cx} {ca : Ca} {g : Str → Option G} {k : Nat} {x : Str} {cl : Cl} (hca : ∀ y, ca.at_ y = He.ga X.K y) (hm : X.mg x = some (.ref (He.ga X.K x))) (hex : cl.exc.isSome = true) (hn : cl.notb = []) : ClFact X ca g k x cl := by
  have no : cl.exc ≠ none := fun z => by rw [z] at hex; cases hex
  exact ⟨by rw [hca]; exact hm, fun z => absurd z no, fun z => absurd z no, fun z => absurd z no, fun t ht => by rw [hn] at ht; simp at ht⟩
end
end Z

set_option Elab.async false
set_option linter.all false
set_option maxRecDepth 100000
set_option maxHeartbeats 4000000
namespace Z
open PySem PySem.Spec PyProof.Rows L2
/-- a script, as data -/
def scriptD (ns : List Int) : D := .node .rol false (ns.map D.int)
theorem sp_law {K : PySem.W.Frag} {ca : Ca} (hca : ca.B = (fun _ => none) ∧ ca.pin = []) {run : List D → Option FRes} {H : Hp} {a : Addr} {ns : List Int} (hS : SqL K H a (ns.map V.int)) (hr : ∃ ds', run [scriptD ns] = some (.ret (.bl true) ds')) :
    spF K ca 1 run [.ref a] H (fun v _ => v = .bl true) (fun _ _ _ => False) := by
  obtain ⟨ds', hr⟩ := hr
  refine ⟨rfl, [scriptD ns], [], H, rfl, ?_, ?_⟩
  · have hd : ∀ l : List Int, DenL K ca H H (l.map fun i => (V.int i, D.int i)) [] := fun l => by
      induction l with
      | nil => exact .nil
      | cons i r ih => exact .int ih
    refine ⟨[], .frz (ps := ns.map fun i => (V.int i, D.int i)) ?_ ?_ (hd ns) .nil, List.nodup_nil, (fun a z => absurd z (by simp)), Sub.refl H, by rw [hca.1]; intro a o z; cases z⟩
    · rw [List.map_map]; exact hS
    · rw [List.map_map]; rfl
  · rw [hr]
    intro v H' F' sb st
    obtain ⟨B, hB⟩ := st.den
    exact den_bl hB
theorem cx_no {P : Program} {w : World} {H : Hp} {s : Shared} {e : Value} {s' : Shared} : L2.CX P w [] H s (fun _ _ _ => False) e s' → False := fun ⟨a, B, H', cls, d, _, _, _, _, _, _, _, z⟩ => z
/-- the end of a law: its def keeps what the runner says, and the runner says True -/
theorem law_at {l : PySem.W.OpenLaw} {w : World} {K : PySem.W.Frag} {ca : Ca} {k n : Nat} {x : Str} {mg : Str → Option Value} {fa : Addr} {h : Heap} {fd : FuncData} {run : List D → Option FRes} (hca : ca.B = (fun _ => none) ∧ ca.pin = [])
    (hb : ∀ (s : Shared) (u : Value), BindsTo s fd ⟨[u], []⟩ [(x, u)]) (hF : ∀ base : Heap, K.In base → base.Ns mainGlobals mg → FnOk l.prog w K mg base (L2.CX l.prog w) k fa fd [x] (spF K ca 1 run)) (hr : ∀ ns : List Int, ns.length ≤ n → ∃ ds', run [scriptD ns] = some (.ret (.bl true) ds')) :
    LamX.LawAtS l w K (L2.CX l.prog w) k n x mg fa h :=
  ⟨fd, [], spF K ca 1 run, fun p hp => absurd hp (by simp), fun p hp => absurd hp (by simp), fun p hp => absurd hp (by simp), hb, fun H a ns hl _ _ hS => sp_law hca hS (hr ns hl), fun base hK hG _ => hF base hK hG⟩
end Z

set_option Elab.async false
set_option linter.all false
set_option maxRecDepth 100000
set_option maxHeartbeats 4000000
namespace Z
open PySem PySem.Spec PyProof.Rows L2
/-- every parameter by place -/
def inlR : Nat → Nat → List (Nat ⊕ D)
  | _, 0 => []
  | j, m + 1 => .inl j :: inlR (j + 1) m
def plainShape (np : Nat) : Shape := ⟨np, [], inlR 0 np⟩
theorem arr_plain {as : List Value} : ∀ {m j : Nat}, j + m = as.length → ArrV as (inlR j m) (as.drop j)
  | 0, j, h => by
    show as.drop j = []
    exact List.drop_eq_nil_of_le (by omega)
  | m + 1, j, h => by
    have hj : j < as.length := by omega
    exact ⟨as[j], as.drop (j + 1), List.drop_eq_getElem_cons hj, List.getElem?_eq_getElem hj, arr_plain (by omega)⟩
theorem inl_inlR : ∀ {m j : Nat}, ((inlR j m).filterMap fun x => match x with
    | .inl j => some j
    | .inr _ => none) = List.range' j m
  | 0, j => rfl
  | m + 1, j => by
    show j :: _ = _
    rw [inl_inlR, List.range'_succ]
theorem shape_plain {K : PySem.W.Frag} {fd : FuncData} {ps : List Str} {np : Nat} (hn : np = ps.length) (hb : ∀ (s : Shared) (us : List Value), us.length = ps.length → BindsTo s fd ⟨us, []⟩ (ps.zip us)) : ShapeOk K fd ps (plainShape np) where
  to := fun s us ws _ h1 h2 => by
    have hw : ws = [] := by
      have h2 : ws.length = 0 := h2
      exact List.eq_nil_of_length_eq_zero h2
    subst hw
    have h1 : us.length = np := h1
    refine ⟨us, ?_, by rw [h1, hn], ?_⟩
    · rw [List.append_nil]
      have := arr_plain (as := us) (m := np) (j := 0) (by omega)
      rw [List.drop_zero] at this
      exact this
    · exact hb s us (by rw [h1, hn])
  once := by
    have n : (List.range' 0 np).Nodup := List.nodup_range'
    rw [← inl_inlR] at n
    exact n
/-- one parameter by its name -/
def kwShape1 (x : Str) : Shape := ⟨0, [x], [.inl 0]⟩
/-- self by place, one more by its name -/
def kwShape2 (x : Str) : Shape := ⟨1, [x], [.inl 0, .inl 1]⟩
theorem shape_kw2 {K : PySem.W.Frag} {fd : FuncData} {y x : Str} (hb : ∀ (s : Shared) (u v : Value), BindsTo s fd ⟨[u], [(x, v)]⟩ [(y, u), (x, v)]) : ShapeOk K fd [y, x] (kwShape2 x) where
  to := fun s us ws _ h1 h2 => by
    have h1 : us.length = 1 := h1
    have h2 : ws.length = 1 := h2
    match us, ws, h1, h2 with
    | [u], [v], _, _ => exact ⟨[u, v], ⟨u, [v], rfl, rfl, v, [], rfl, rfl, rfl⟩, rfl, hb s u v⟩
  once := by show ([0, 1] : List Nat).Nodup; decide
theorem GOk.nil {P : Program} {w : World} {K : PySem.W.Frag} {mg : Str → Option Value} {base : Heap} {ca : Ca} {free : Str → Bool} (hf : ∀ x, free x = true → mg x = none) : GOk P w K mg base ca 0 (fun _ => none) free where
  free := hf
  gval := fun _ _ h => by cases h
  gfn := fun _ _ h => by cases h
  ginit := fun _ _ _ h => by cases h
  gmeth := fun _ _ _ _ h => by cases h
  gcl := fun _ _ h => by cases h
  mkx := fun _ _ _ h => by cases h
  exm := fun _ _ _ _ _ h _ => by cases h
  xf := fun _ _ _ h => by cases h
end Z

set_option Elab.async false
set_option linter.all false
set_option maxRecDepth 100000
set_option maxHeartbeats 0
namespace Z
open PySem PySem.Spec PyProof.Rows L2
abbrev rP : Program := PySem.Challenge.pw_lexiconlines_k03_books_refused
abbrev rL : PySem.W.OpenLaw := PySem.Challenge.rw_lexiconlines_k03_books_refused
def top (i : Nat) : Stmt := rP.main.body.getD i (.Pass ⟨0, 0, 0, 0⟩)
def clsBody : Stmt → List Stmt
  | .ClassDef _ _ _ b _ _ _ _ _ _ _ => b
  | _ => []
def mth (i j : Nat) : Stmt := (clsBody (top i)).getD j (.Pass ⟨0, 0, 0, 0⟩)
abbrev s_is_color : Stmt := top 10
def d_is_color : He.DefD := ⟨("is_color", none), "is_color", "is_color", defArgs s_is_color, defBody s_is_color, defScope s_is_color, [], []⟩
abbrev s__parents : Stmt := top 13
def d__parents : He.DefD := ⟨("_parents", none), "_parents", "_parents", defArgs s__parents, defBody s__parents, defScope s__parents, [], []⟩
abbrev s_worded : Stmt := top 14
def d_worded : He.DefD := ⟨("worded", none), "worded", "worded", defArgs s_worded, defBody s_worded, defScope s_worded, [], []⟩
abbrev s__is_child : Stmt := top 18
def d__is_child : He.DefD := ⟨("_is_child", none), "_is_child", "_is_child", defArgs s__is_child, defBody s__is_child, defScope s__is_child, [], []⟩
abbrev s__is_node : Stmt := top 19
def d__is_node : He.DefD := ⟨("_is_node", none), "_is_node", "_is_node", defArgs s__is_node, defBody s__is_node, defScope s__is_node, [], []⟩
abbrev s_InvalidNode___init__ : Stmt := mth 4 0
def d_InvalidNode___init__ : He.DefD := ⟨("InvalidNode", some "__init__"), "__init__", "InvalidNode.__init__", defArgs s_InvalidNode___init__, defBody s_InvalidNode___init__, defScope s_InvalidNode___init__, [], []⟩
abbrev s_TooMany___init__ : Stmt := mth 5 0
def d_TooMany___init__ : He.DefD := ⟨("TooMany", some "__init__"), "__init__", "TooMany.__init__", defArgs s_TooMany___init__, defBody s_TooMany___init__, defScope s_TooMany___init__, [], []⟩
abbrev s_Book___init__ : Stmt := mth 24 0
def d_Book___init__ : He.DefD := ⟨("Book", some "__init__"), "__init__", "Book.__init__", defArgs s_Book___init__, defBody s_Book___init__, defScope s_Book___init__, [], []⟩
abbrev s_Book_nodes : Stmt := mth 24 2
def d_Book_nodes : He.DefD := ⟨("Book", some "nodes"), "nodes", "Book.nodes", defArgs s_Book_nodes, defBody s_Book_nodes, defScope s_Book_nodes, [], []⟩
abbrev s_Book___eq__ : Stmt := mth 24 11
def d_Book___eq__ : He.DefD := ⟨("Book", some "__eq__"), "__eq__", "Book.__eq__", defArgs s_Book___eq__, defBody s_Book___eq__, defScope s_Book___eq__, [], []⟩
abbrev s__law_bag : Stmt := top 26
def d__law_bag : He.DefD := ⟨("_law_bag", none), "_law_bag", "_law_bag", defArgs s__law_bag, defBody s__law_bag, defScope s__law_bag, [], []⟩
abbrev s__law_draw : Stmt := top 27
def d__law_draw : He.DefD := ⟨("_law_draw", none), "_law_draw", "_law_draw", defArgs s__law_draw, defBody s__law_draw, defScope s__law_draw, [], []⟩
abbrev s__law_of : Stmt := top 28
def d__law_of : He.DefD := ⟨("_law_of", none), "_law_of", "_law_of", defArgs s__law_of, defBody s__law_of, defScope s__law_of, [], []⟩
abbrev s__law_same : Stmt := top 29
def d__law_same : He.DefD := ⟨("_law_same", none), "_law_same", "_law_same", defArgs s__law_same, defBody s__law_same, defScope s__law_same, [], []⟩
abbrev s__law_placed : Stmt := top 30
def d__law_placed : He.DefD := ⟨("_law_placed", none), "_law_placed", "_law_placed", defArgs s__law_placed, defBody s__law_placed, defScope s__law_placed, [], []⟩
abbrev s__law_free : Stmt := top 31
def d__law_free : He.DefD := ⟨("_law_free", none), "_law_free", "_law_free", defArgs s__law_free, defBody s__law_free, defScope s__law_free, [], []⟩
abbrev s__law_grown : Stmt := top 32
def d__law_grown : He.DefD := ⟨("_law_grown", none), "_law_grown", "_law_grown", defArgs s__law_grown, defBody s__law_grown, defScope s__law_grown, [], []⟩
abbrev s__law_shape : Stmt := top 33
def d__law_shape : He.DefD := ⟨("_law_shape", none), "_law_shape", "_law_shape", defArgs s__law_shape, defBody s__law_shape, defScope s__law_shape, [], []⟩
abbrev s__law_net : Stmt := top 34
def d__law_net : He.DefD := ⟨("_law_net", none), "_law_net", "_law_net", defArgs s__law_net, defBody s__law_net, defScope s__law_net, [], []⟩
abbrev s__law_any : Stmt := top 35
def d__law_any : He.DefD := ⟨("_law_any", none), "_law_any", "_law_any", defArgs s__law_any, defBody s__law_any, defScope s__law_any, [], []⟩
abbrev s__law_made : Stmt := top 36
def d__law_made : He.DefD := ⟨("_law_made", none), "_law_made", "_law_made", defArgs s__law_made, defBody s__law_made, defScope s__law_made, [], []⟩
abbrev s__law_is_node : Stmt := top 37
def d__law_is_node : He.DefD := ⟨("_law_is_node", none), "_law_is_node", "_law_is_node", defArgs s__law_is_node, defBody s__law_is_node, defScope s__law_is_node, [], []⟩
abbrev s__law_due : Stmt := top 38
def d__law_due : He.DefD := ⟨("_law_due", none), "_law_due", "_law_due", defArgs s__law_due, defBody s__law_due, defScope s__law_due, [], []⟩
abbrev s__law_bent : Stmt := top 39
def d__law_bent : He.DefD := ⟨("_law_bent", none), "_law_bent", "_law_bent", defArgs s__law_bent, defBody s__law_bent, defScope s__law_bent, [], []⟩
abbrev s_law : Stmt := top 40
def d_law : He.DefD := ⟨("law", none), "law", "law", defArgs s_law, defBody s_law, defScope s_law, [], []⟩
def hFn : List He.DefD := [d_is_color, d__parents, d_worded, d__is_child, d__is_node, d_InvalidNode___init__, d_TooMany___init__, d_Book___init__, d_Book_nodes, d_Book___eq__, d__law_bag, d__law_draw, d__law_of, d__law_same, d__law_placed, d__law_free, d__law_grown, d__law_shape, d__law_net, d__law_any, d__law_made, d__law_is_node, d__law_due, d__law_bent, d_law]
def hLoose : List Str := (["_wall", "LexiconError", "InvalidText", "InvalidNode", "TooMany", "LETTERS", "COLORS", "is_letters", "is_color", "lead", "_parents", "worded", "_MOST_NODES", "_DIGITS", "_is_child", "_is_node", "node_text", "_read_index", "read_node", "has_wrong_child"] : List Str) ++ (["Book", "_law_bag", "_law_draw", "_law_of", "_law_same", "_law_placed", "_law_free", "_law_grown", "_law_shape", "_law_net", "_law_any", "_law_made", "_law_is_node", "_law_due", "_law_bent"] : List Str)
def hPlace : Nat := 40
def hFa : List He.Fa := ([.glo "is_color", .glo "_parents", .glo "worded", .glo "_is_child", .glo "_is_node", .glo "InvalidNode", .glo "TooMany", .glo "Book", .glo "_law_bag", .glo "_law_draw", .glo "_law_of", .glo "_law_same", .glo "_law_placed", .glo "_law_free", .glo "_law_grown", .glo "_law_shape", .glo "_law_net", .glo "_law_any", .glo "_law_made", .glo "_law_is_node"] : List He.Fa) ++ ([.glo "_law_due", .glo "_law_bent", .glo "law", .str "COLORS" "xyz", .int "_MOST_NODES" 200, .free "isinstance", .free "len", .free "enumerate", .free "range", .free "list", .free "tuple", .free "all", .free "zip", .free "int", .free "abs", .free "min", .free "str", .free "bool", .cls "Book", .noat "Book" "_nodes"] : List He.Fa) ++ ([.noat "Book" "_worded", .meth "Book" "nodes", .meth "Book" "__eq__", .mkr "Book", .noat "InvalidNode" "at", .noat "TooMany" "count", .exm "InvalidNode" "InvalidNode" true, .exm "TooMany" "InvalidNode" false, .exm "TooMany" "TooMany" true, .exm "InvalidNode" "TooMany" false] : List He.Fa)
def xiB (K : PySem.W.Frag) (C : Addr) : Bool := decide (PySem.W.findIn K (.ref C) "__init__" = some (some (.ref (He.ma K C "__init__")))) && decide (PySem.W.typeIn K (.ref (He.ma K C "__init__")) = some (.type "function"))
def hEx (K : PySem.W.Frag) : Bool := xiB K (He.ga K "InvalidNode") && (xiB K (He.ga K "TooMany") && (oexB K (He.ga K "InvalidNode") && (oexB K (He.ga K "TooMany") && (tyB K (He.ga K "Book") && (xfB K (He.ga K "InvalidNode") && (xfB K (He.ga K "TooMany") && (isaB K (He.ga K "Book") (fun y => y == "Book") [("Book", true), ("list", false), ("tuple", false), ("str", false), ("int", false), ("bool", false)] &&
  notB K (He.ga K "Book") ["NoneType", "bool", "int", "str", "list", "tuple"])))))))
abbrev hR : PySem.W.OpenRow := PySem.W.OpenLaw.row rL
abbrev hHk : PySem.W.Hook := He.hookX 5 hFa hFn [] [] hEx
def hOb (s : PySem.W.SharedT) : He.AlX := He.obsX 5 hFa hFn [] [] hEx (HandSHeadRun.getT s)
theorem hOb_eq (s : PySem.W.SharedT) : hOb s = hHk.obs s.abs := He.obsX_eq (HandSHeadRun.getT_eq s)
theorem hRun (w : World) : HandSHeadRun.RunEq hR (PySem.W.view hR.prog [hPlace]) hHk hOb 4000 hLoose w := by
  intro os
  kernel_rfl
end Z

set_option Elab.async false
set_option linter.all false
set_option maxRecDepth 100000
set_option maxHeartbeats 4000000
namespace Z
open PySem PySem.Spec PyProof.Rows L2

/-! ## the runner's parts, with the text gone: what a def's text comes to -/
abbrev RX := List D → Option D
abbrev RP := List D → Option (Nat × List Nat × D)
abbrev SM := List D → Option Fl
abbrev BM := D → List D → Option (List D)

def seqC {α : Type} : List (M α) → M (List α)
  | [] => mPure []
  | m :: r => mBind m fun y => mBind (seqC r) fun q => mPure (y :: q)

/-! ### ways and what is reckoned on the side -/
def wayN : RP := fun _ => none
def wayS (i : Nat) : RP := fun η => match η[i]? with
  | some d => if d.bound then some (i, [], d) else none
  | none => none
def wayI (a : RP) (b : RX) : RP := fun η => match a η, b η with
  | some (i, p, .node k _ xs), some (.int m) => (match k with
    | .obj _ _ => none
    | _ => match ixN xs.length m with
      | some j => match xs[j]? with
        | some x => some (i, p ++ [j], x)
        | none => none
      | none => none)
  | _, _ => none
def wayA (c : Cs) (a : RP) (f : Str) : RP := fun η => match a η with
  | some (i, p, .node (.obj y fs) _ xs) => if c.isFld y f = true then (match fs.findIdx? (· == f) with
    | some j => match xs[j]? with
      | some x => some (i, p ++ [j], x)
      | none => none
    | none => none) else none
  | _ => none
def xNo : RX := fun _ => none
def xK (d : D) : RX := fun _ => some d
def xS (i : Nat) : RX := fun η => match η[i]? with
  | some d => if d.bound && d.still then some d else none
  | none => none
def xB (op : Operator) (a b : RX) : RX := fun η => match a η, b η with
  | some (.int i), some (.int j) => match op with
    | .Add => some (.int (i + j))
    | .Sub => some (.int (i - j))
    | _ => none
  | _, _ => none
def xN (a : RX) : RX := fun η => match a η with
  | some (.int i) => some (.int (-i))
  | _ => none
def xLen (p : RP) (a : RX) : RX := fun η => match p η with
  | some (_, _, d) => (lenD d).map fun (m : Nat) => D.int m
  | none => match a η with
    | some d => (lenD d).map fun (m : Nat) => D.int m
    | none => none
def xP (p : RP) : RX := fun η => match p η with
  | some (_, _, d) => if d.still then some d else none
  | none => none

/-! ### expressions -/
def eK (d : D) : M D := mPure d
def eS (i : Nat) : M D := fun η => match η[i]? with
  | some d => if d.bound = true then some (.ok d.frz (η.set i d.frz)) else none
  | none => none
def eTup (ms : List (M D)) : M D := mBind (seqC ms) fun ds => if ds.length ≤ sizeLine then mPure (.node .tup true ds) else fun _ => none
def eLst (ms : List (M D)) : M D := mBind (seqC ms) fun ds => if ds.length ≤ sizeLine then mPure (.node .lst true ds) else fun _ => none
def eBin (op : Operator) (a b : M D) : M D := mBind (mFrz a) fun x => mBind (mFrz b) fun y => mOpt (binD op x y)
def eNeg (a : M D) : M D := mBind a fun x => match x with
  | .int i => mPure (.int (-i))
  | _ => fun _ => none
def eNot (a : M D) : M D := mBind a fun x => mOpt ((truthD x).map fun b => .bl !b)
def eAnd (a r : M D) : M D := mBind a fun x => match truthD x with
  | some true => r
  | some false => mPure x
  | none => fun _ => none
def eOr (a r : M D) : M D := mBind a fun x => match truthD x with
  | some false => r
  | some true => mPure x
  | none => fun _ => none
def eIf (t : M Bool) (a b : M D) : M D := mBind t fun k => if k = true then a else b
def eCmp (c : Cs) (op : CmpOp) (a b : M D) : M D := mBind a fun x => mBind b fun y => mOpt ((c.cmpX op x y).map .bl)
def eCmp2 (op op2 : CmpOp) (a b b2 : M D) : M D := mBind (mFrz a) fun x => mBind (mFrz b) fun y => mBind (mOpt (cmpD op x y)) fun k =>
  if k = true then mBind b2 fun z => mOpt ((cmpD op2 y z).map .bl) else mPure (.bl false)
def ptN : M (Option Int) := mPure none
def ptE (a : M D) : M (Option Int) := mBind a fun x => mOpt (partD x)
def eCut (a : M D) (lo hi : M (Option Int)) : M D := mBind (mFrz a) fun x => mBind lo fun l => mBind hi fun h => mOpt (cutD x l h)
def eSub (p : RP) (a b : M D) : M D := fun η => match p η with
  | some (i, p, d) => if d.still = true then some (.ok d η) else some (.ok d.frz (setFrzP i p d η))
  | none => mBind a (fun x => mBind b fun y => mOpt (idxD x y)) η
def ePth (p : RP) : M D := fun η => match p η with
  | some (i, p, d) => if d.still = true then some (.ok d η) else some (.ok d.frz (setFrzP i p d η))
  | none => none
def eCur (fs : List (Str × D)) (f : Str) : M D := fun η => (fs.lookup f).map fun d => .ok d η
def aS (i : Nat) : M Arg := fun η => match η[i]? with
  | some d => if d.bound = true then some (.ok (.slot i) η) else none
  | none => none
def aE (e : M D) : M Arg := mBind e fun d => mPure (.tmp d)
def eCall (fn : Fn) (sh : Shape) (args zs : List (M Arg)) : M D := mBind (seqC args) fun as => mBind (seqC zs) fun zs => callF fn sh (as ++ zs)
def eNew (x : Str) (fn : Fn) (sh : Shape) (args zs : List (M Arg)) : M D := mBind (seqC args) fun as => mBind (seqC zs) fun zs => callC x fn sh (as ++ zs)
def eLen (a : M D) : M D := mBind a fun x => mOpt ((lenD x).map fun (m : Nat) => D.int m)
def eIsa (c : Cs) (xs : List Str) (a : M D) : M D := mBind a fun x => mOpt ((c.isaAny x xs).map .bl)
def eO (f : Str) (a : M D) : M D := mBind a fun x => mOpt (callO f x)
def eRg1 (f : Str) (a : M D) : M D := mBind a fun d => match d with
  | .int j => mOpt (rangeC f 0 j)
  | _ => fun _ => none
def eRg2 (f : Str) (a b : M D) : M D := mBind a fun d => mBind b fun d2 => match d, d2 with
  | .int i, .int j => mOpt (rangeC f i j)
  | _, _ => fun _ => none
def eBf (f : Str) (args : List (M D)) : M D := mBind (seqC args) fun vs => mOpt (callB f vs)
def rR (p : RP) (e : M D) : M D := fun η => match p η with
  | some (_, _, d) => some (.ok d η)
  | none => e η
def rO (p : RP) (e : M D) : M D := fun η => match p η with
  | some (i, p, d) => if kidsStill d = true then some (.ok d η) else some (.ok d.frz (setFrzP i p d η))
  | none => mFrz e η
/-- a method of a thing that no way leads to -/
def eMethE (c : Cs) (m : Str) (n : Nat) (ks : List Str) (eo : M D) (as zs : List (M Arg)) : M D := mBind eo (fun x => match x with
  | .node (.obj y fs) _ _ => (match c.methOf y m fs with
    | some fn => (match findShape n ks fn.shapes with
      | some sh => mBind (seqC as) fun as => mBind (seqC zs) fun zs => callF fn sh (.tmp x :: (as ++ zs))
      | none => fun _ => none)
    | none => fun _ => none)
  | _ => fun _ => none)
def eMeth (c : Cs) (m : Str) (n : Nat) (ks : List Str) (p : RP) (eo : M D) (kwE : Bool) (args : List (M D)) (axs : List RX) (as zs : List (M Arg)) : M D := fun η => match p η with
  | some (i, p, .node .lst true xs0) => if !kwE || !isML m then none else if p = [] then (match seqC args η with
      | some (.ok vs η1) => (match η1[i]? with
        | some (.node .lst true xs) => (match methL m xs vs with
          | some (d, xs') => some (.ok d (η1.set i (.node .lst true xs')))
          | none => none)
        | _ => none)
      | some (.exc x fs η1) => some (.exc x fs η1)
      | none => none)
    else (match axs.mapM (fun a => a η) with
      | some vs => (match η[i]? with
        | some d0 => (match methL m xs0 vs with
          | some (d, xs') => some (.ok d (η.set i (d0.putAt p (.node .lst true xs'))))
          | none => none)
        | none => none)
      | none => none)
  | some (i, p, .node (.obj x fs) ow xs) => (match c.methOf x m fs with
    | some fn => (match findShape n ks fn.shapes with
      | some sh => if p = [] then mBind (seqC as) (fun as => mBind (seqC zs) fun zs => callF fn sh (.slot i :: (as ++ zs))) η
        else if (D.node (.obj x fs) ow xs).still = true then mBind (seqC as) (fun as => mBind (seqC zs) fun zs => callF fn sh (.tmp (.node (.obj x fs) ow xs) :: (as ++ zs))) η else none
      | none => none)
    | none => none)
  | some _ => none
  | none => eMethE c m n ks eo as zs η

/-! ### stores, what is walked, tests -/
def stS (pin : Bool) (i : Nat) (d : D) (η : List D) : Option (List D) := if pin = true ∨ η.length ≤ i then none else some (η.set i d)
def stAll : List Nat → List D → List D → Option (List D)
  | [], [], η => some η
  | i :: r, d :: ds, η => match stS false i d η with
    | some η' => stAll r ds η'
    | none => none
  | _, _, _ => none
def bS (i : Nat) : BM := fun d η => stS false i d η
def bT (is : List Nat) : BM := fun d η => match d with
  | .node .tup _ ds => stAll is ds η
  | _ => none
def lcR (bind : BM) (vs : List Nat) (test : M Bool) (elt : M D) (items : List D) : M D := fun η1 =>
  match lcL (fun d η => bind d (wipeD vs η)) test elt items [] (frzAt vs η1) with
  | some (acc, η4) => some (.ok (.node .lst true acc) (backD vs (frzAt vs η1) η4))
  | none => none
def eLc (vs : List Nat) (bind : BM) (test : M Bool) (elt : M D) (items : M (List D)) : M D := mBind items fun items => lcR bind vs test elt items
def iR1 (a : M D) : M (List D) := mBind (seqC [mFrz a]) fun vs => match vs with
  | [.int j] => mOpt (rangeD 0 j 1)
  | _ => fun _ => none
def iR2 (a b : M D) : M (List D) := mBind (seqC [mFrz a, mFrz b]) fun vs => match vs with
  | [.int i, .int j] => mOpt (rangeD i j 1)
  | _ => fun _ => none
def iR3 (a b s : M D) : M (List D) := mBind (seqC [mFrz a, mFrz b, mFrz s]) fun vs => match vs with
  | [.int i, .int j, .int k] => if k = -1 then mOpt (rangeD i j k) else fun _ => none
  | _ => fun _ => none
def iEn (a : M D) : M (List D) := mBind (seqC [mFrz a]) fun vs => match vs with
  | [.node k _ xs] => if k = .lst ∨ k = .rol ∨ k = .tup then mPure (enumD 0 xs) else fun _ => none
  | _ => fun _ => none
def iZp (a b : M D) : M (List D) := mBind (seqC [mFrz a, mFrz b]) fun vs => match vs with
  | [.node k _ xs, .node k2 _ ys] => if ((k = .lst ∨ k = .rol) ∧ (k2 = .lst ∨ k2 = .rol)) ∨ (k = .tup ∧ k2 = .tup) then mPure (zipD xs ys) else fun _ => none
  | _ => fun _ => none
def iE (a : M D) : M (List D) := mBind (mFrz a) fun x => mOpt (itemsD x)
def tAnd (a r : M Bool) : M Bool := mBind a fun b => if b = true then r else mPure false
def tOr (a r : M Bool) : M Bool := mBind a fun b => if b = true then mPure true else r
def tNot (a : M Bool) : M Bool := mBind a fun b => mPure !b
def tIf (t a b : M Bool) : M Bool := mBind t fun k => if k = true then a else b
def tE (a : M D) : M Bool := mBind a fun x => mOpt (truthD x)
def tY : M Bool := mPure true

/-! ### statements -/
def sPass : SM := fun η => some (.nx η)
def sBrk : SM := fun η => some (.brk η)
def sCnt : SM := fun η => some (.cnt η)
def sRet0 : SM := fun η => some (.ret .non η)
def sRet (e : M D) : SM := fun η => flE (e η) fun d η1 => some (.ret d η1)
def sRetS (i : Nat) : SM := fun η => match η[i]? with
  | some d => if d.bound = true then some (.ret d (η.set i .unb)) else none
  | none => none
def sExp (e : M D) : SM := fun η => flE (e η) fun _ η1 => some (.nx η1)
def sAsg (i : Nat) (e : M D) : SM := fun η => flE (e η) fun d η1 => (stS false i d η1).map .nx
def sPar (i j : Nat) (e1 e2 : M D) : SM := fun η => match seqC [e1, e2] η with
  | some (.ok [d1, d2] η1) => (match stS false i d1 η1 with
    | some η2 => (stS false j d2 η2).map .nx
    | none => none)
  | some (.exc x fs η1) => some (.exc x fs η1)
  | _ => none
def sUnp (is : List Nat) (e : M D) : SM := fun η => flE (e η) fun d η1 => (bT is d η1).map .nx
def sSetI (p : RP) (x : RX) (e : M D) : SM := fun η => flE (e η) fun d η1 => (match p η1, x η1 with
  | some (j, p, .node .lst true xs), some (.int m) => (match ixN xs.length m, η1[j]? with
    | some k, some d0 => some (.nx (η1.set j (d0.putAt p (.node .lst true (xs.set k d)))))
    | _, _ => none)
  | _, _ => none)
def sSetA (c : Cs) (p : RP) (f : Str) (e : M D) : SM := fun η => flE (e η) fun d η1 => (match p η1 with
  | some (j, p, .node (.obj x fs) true xs) => (match η1[j]? with
    | some d0 => if fs.length < 1000 ∧ c.isFld x f = true then (match fs.findIdx? (· == f) with
      | some k => some (.nx (η1.set j (d0.putAt p (.node (.obj x fs) true (xs.set k d)))))
      | none => some (.nx (η1.set j (d0.putAt p (.node (.obj x (fs ++ [f])) true (xs ++ [d])))))) else none
    | none => none)
  | _ => none)
def sAug (i : Nat) (f : Int → Int → Int) (e : M D) : SM := fun η => match η[i]? with
  | some (.int a) => flE (e η) fun d η1 => (match η1[i]?, d with
    | some (.int a'), .int b => if a' = a then (stS false i (.int (f a b)) η1).map .nx else none
    | _, _ => none)
  | _ => none
def sIf (t : M Bool) (a b : SM) : SM := fun η => match t η with
  | some (.ok true η1) => a η1
  | some (.ok false η1) => b η1
  | some (.exc x fs η1) => some (.exc x fs η1)
  | none => none
def sFor (bind : BM) (items : M (List D)) (body : SM) : SM := fun η => match items η with
  | some (.ok items η1) => forL bind body items η1
  | some (.exc x fs η1) => some (.exc x fs η1)
  | none => none
def sWh (t : M Bool) (body : SM) (wf : Nat) : SM := fun η => whileL t body wf η
/-- an own exception's fields, from its arguments -/
def xcE (x : Str) (fs : List (Str × Nat)) (args : List (M D)) : M (Str × List (Str × D)) := mBind (seqC (args.map mFrz)) fun vs => mOpt ((fs.mapM fun f => (vs[f.2]?).map fun d => (f.1, d)).map fun q => (x, q))
def sRs (m : M (Str × List (Str × D))) : SM := fun η => match m η with
  | some (.ok (x, fs) η1) => some (.exc x fs η1)
  | some (.exc x fs η1) => some (.exc x fs η1)
  | none => none
def tryH (c : Cs) (n : Nat) (hs : List ExceptHandler) (x : Str) (fs : List (Str × D)) : SM := fun η1 => match clauseOf c x hs with
  | some none => some (.exc x fs η1)
  | some (some (none, sts)) => noExc (evSs (c.suite0) n sts η1)
  | some (some (some nm, sts)) => (match slotOf c.N nm with
    | some i => if i < η1.length ∧ c.xfOk x fs = true then goneAt i (evSs (c.suiteN i fs) n sts (η1.set i .unb)) else none
    | none => none)
  | none => none
def sTry (body : SM) (h : Str → List (Str × D) → SM) : SM := fun η => match body η with
  | some (.exc x fs η1) => h x fs η1
  | r => r
def qS : List SM → SM
  | [] => fun η => some (.nx η)
  | s :: r => fun η => match s η with
    | some (.nx η1) => qS r η1
    | x => x
def stN (l : List Stmt) (j : Nat) : Stmt := l.getD j (.Pass ⟨0, 0, 0, 0⟩)
def stB : Stmt → List Stmt
  | .If _ a _ _ => a
  | .For _ _ b _ _ => b
  | .While _ b _ _ => b
  | .Try b _ _ _ _ => b
  | _ => []
def stO : Stmt → List Stmt
  | .If _ _ b _ => b
  | _ => []
def stH : Stmt → List ExceptHandler
  | .Try _ hs _ _ _ => hs
  | _ => []
/-- a def's whole run -/
def runC (nN np : Nat) (keep : Nat → Bool) (s : SM) : List D → Option FRes := fun ds =>
  let out := fun (η : List D) => (List.range np).map fun i => if keep i = true then η.getD i .unb else .unb
  if ds.length ≠ np then none else match s (ds ++ List.replicate (nN - np) .unb) with
    | some (.nx η) => some (.ret .non (out η))
    | some (.ret d η) => some (.ret d (out η))
    | some (.exc x fs η) => some (.exc x fs (out η))
    | _ => none
theorem runC_of {c : Cs} {n np : Nat} {keep : Nat → Bool} {body : List Stmt} {s : SM} (h : ∀ η, evSs c n body η = s η) : runF c n np keep body = runC c.N.length np keep s := by
  funext ds
  unfold runF runC
  simp only [h] <;> rfl
end Z

set_option Elab.async false
set_option linter.all false
set_option maxRecDepth 100000
set_option maxHeartbeats 400000
namespace Z
open PySem PySem.Spec PyProof.Rows L2

/-! ## what a part comes to, told backwards -/
def wM {α : Type} (m : M α) (η : List D) (Q : α → List D → Prop) (X : Str → List (Str × D) → List D → Prop) : Prop := match m η with
  | none => False
  | some (.ok a η') => Q a η'
  | some (.exc c fs η') => X c fs η'
/-- an option has a value that does -/
def wO {α : Type} (o : Option α) (Q : α → Prop) : Prop := match o with
  | none => False
  | some a => Q a
def wS (s : SM) (η : List D) (Q : Fl → Prop) : Prop := wO (s η) Q
def wF (run : List D → Option FRes) (ds : List D) (Q : FRes → Prop) : Prop := wO (run ds) Q
theorem wO_some {α : Type} {a : α} {Q : α → Prop} : wO (some a) Q = Q a := rfl
theorem wO_none {α : Type} {Q : α → Prop} : wO none Q = False := rfl
theorem wO_map {α β : Type} {o : Option α} {f : α → β} {Q : β → Prop} : wO (o.map f) Q = wO o fun a => Q (f a) := by cases o <;> rfl
theorem wO_ite {α : Type} {c : Prop} [Decidable c] {x y : Option α} {Q : α → Prop} : wO (if c then x else y) Q = if c then wO x Q else wO y Q := by split <;> rfl
theorem wF_get {run : List D → Option FRes} {ds : List D} {Q : FRes → Prop} (h : wF run ds Q) : ∃ r, run ds = some r ∧ Q r := by
  unfold wF at h
  cases e : run ds with
  | none => rw [e] at h; exact h.elim
  | some r => rw [e] at h; exact ⟨r, rfl, h⟩
theorem wF_of {run : List D → Option FRes} {ds : List D} {Q : FRes → Prop} {r : FRes} (e : run ds = some r) (h : Q r) : wF run ds Q := by
  unfold wF; rw [e]; exact h
theorem wS_get {s : SM} {η : List D} {Q : Fl → Prop} (h : wS s η Q) : ∃ r, s η = some r ∧ Q r := by
  unfold wS at h
  cases e : s η with
  | none => rw [e] at h; exact h.elim
  | some r => rw [e] at h; exact ⟨r, rfl, h⟩
theorem wS_of {s : SM} {η : List D} {Q : Fl → Prop} {r : Fl} (e : s η = some r) (h : Q r) : wS s η Q := by
  unfold wS; rw [e]; exact h
theorem wM_of {α : Type} {m : M α} {η η' : List D} {a : α} {Q : α → List D → Prop} {X : Str → List (Str × D) → List D → Prop} (e : m η = some (.ok a η')) (h : Q a η') : wM m η Q X := by
  unfold wM; rw [e]; exact h
theorem wM_mono {α : Type} {m : M α} {η : List D} {Q Q' : α → List D → Prop} {X X' : Str → List (Str × D) → List D → Prop} (h : wM m η Q X) (h1 : ∀ a η', Q a η' → Q' a η') (h2 : ∀ c fs η', X c fs η' → X' c fs η') : wM m η Q' X' := by
  unfold wM at *
  split <;> simp_all
theorem wO_mono {α : Type} {o : Option α} {Q Q' : α → Prop} (h : wO o Q) (h1 : ∀ a, Q a → Q' a) : wO o Q' := by
  cases o with
  | none => exact h
  | some a => exact h1 a h
theorem wS_mono {s : SM} {η : List D} {Q Q' : Fl → Prop} (h : wS s η Q) (h1 : ∀ f, Q f → Q' f) : wS s η Q' := wO_mono h h1
theorem wF_mono {run : List D → Option FRes} {ds : List D} {Q Q' : FRes → Prop} (h : wF run ds Q) (h1 : ∀ f, Q f → Q' f) : wF run ds Q' := wO_mono h h1
section
variable {α β : Type} {η : List D} {X : Str → List (Str × D) → List D → Prop} {QD : D → List D → Prop} {QB : Bool → List D → Prop} {QL : List D → List D → Prop} {F : Fl → Prop}
theorem wM_bind {m : M α} {f : α → M β} {Q : β → List D → Prop} : wM (mBind m f) η Q X = wM m η (fun a η1 => wM (f a) η1 Q X) X := by
  unfold wM mBind
  cases m η with
  | none => rfl
  | some r => cases r <;> rfl
theorem wM_pure {a : α} {Q : α → List D → Prop} : wM (mPure a) η Q X = Q a η := rfl
theorem wM_none {Q : α → List D → Prop} : wM (fun _ => none) η Q X = False := rfl
theorem wM_opt {o : Option α} {Q : α → List D → Prop} : wM (mOpt o) η Q X = wO o fun a => Q a η := by cases o <;> rfl
theorem wM_ite {c : Prop} [Decidable c] {x y : M α} {Q : α → List D → Prop} : wM (if c then x else y) η Q X = if c then wM x η Q X else wM y η Q X := by split <;> rfl
theorem wM_frz {m : M D} : wM (mFrz m) η QD X = wM m η (fun d η1 => QD d.frz η1) X := by
  unfold wM mFrz
  cases m η with
  | none => rfl
  | some r => cases r <;> rfl
theorem wM_sq0 {Q : List α → List D → Prop} : wM (seqC []) η Q X = Q [] η := rfl
theorem wM_sq1 {m : M α} {r : List (M α)} {Q : List α → List D → Prop} : wM (seqC (m :: r)) η Q X = wM m η (fun a η1 => wM (seqC r) η1 (fun as η2 => Q (a :: as) η2) X) X := by
  show wM (mBind m fun y => mBind (seqC r) fun q => mPure (y :: q)) η Q X = _
  simp only [wM_bind, wM_pure]
/-! ### expressions -/
theorem and_ite {c : Prop} [Decidable c] {P : Prop} : (if c then P else False) = (c ∧ P) := by
  by_cases h : c
  · rw [if_pos h]; simp only [h, true_and]
  · rw [if_neg h]; simp only [h, false_and]
theorem wM_eK {d : D} : wM (eK d) η QD X = QD d η := rfl
theorem wM_eS {i : Nat} : wM (eS i) η QD X = wO η[i]? fun d => d.bound = true ∧ QD d.frz (η.set i d.frz) := by
  unfold wM eS wO
  cases η[i]? with
  | none => rfl
  | some d =>
    simp only
    by_cases h : d.bound = true
    · simp only [h, if_true, true_and]
    · rw [if_neg h]; simp only [h, false_and]; simp
theorem wM_eTup {ms : List (M D)} : wM (eTup ms) η QD X = wM (seqC ms) η (fun ds η1 => ds.length ≤ sizeLine ∧ QD (.node .tup true ds) η1) X := by
  unfold eTup
  simp only [wM_bind, wM_ite, wM_pure, wM_none, and_ite]
theorem wM_eLst {ms : List (M D)} : wM (eLst ms) η QD X = wM (seqC ms) η (fun ds η1 => ds.length ≤ sizeLine ∧ QD (.node .lst true ds) η1) X := by
  unfold eLst
  simp only [wM_bind, wM_ite, wM_pure, wM_none, and_ite]
theorem wM_eBin {op : Operator} {a b : M D} : wM (eBin op a b) η QD X = wM a η (fun x η1 => wM b η1 (fun y η2 => wO (binD op x.frz y.frz) fun z => QD z η2) X) X := by
  unfold eBin
  simp only [wM_bind, wM_frz, wM_opt]
theorem wM_eNeg {a : M D} : wM (eNeg a) η QD X = wM a η (fun x η1 => match x with
    | .int i => QD (.int (-i)) η1
    | _ => False) X := by
  unfold eNeg
  simp only [wM_bind]
  congr 1
  funext x η1
  cases x <;> rfl
theorem wM_eNot {a : M D} : wM (eNot a) η QD X = wM a η (fun x η1 => wO (truthD x) fun b => QD (.bl !b) η1) X := by
  unfold eNot
  simp only [wM_bind, wM_opt, wO_map]
theorem wM_eAnd {a r : M D} : wM (eAnd a r) η QD X = wM a η (fun x η1 => wO (truthD x) fun b => if b = true then wM r η1 QD X else QD x η1) X := by
  unfold eAnd
  simp only [wM_bind]
  congr 1
  funext x η1
  cases truthD x with
  | none => rfl
  | some b => cases b <;> rfl
theorem wM_eOr {a r : M D} : wM (eOr a r) η QD X = wM a η (fun x η1 => wO (truthD x) fun b => if b = true then QD x η1 else wM r η1 QD X) X := by
  unfold eOr
  simp only [wM_bind]
  congr 1
  funext x η1
  cases truthD x with
  | none => rfl
  | some b => cases b <;> rfl
theorem wM_eIf {t : M Bool} {a b : M D} : wM (eIf t a b) η QD X = wM t η (fun k η1 => if k = true then wM a η1 QD X else wM b η1 QD X) X := by
  unfold eIf
  simp only [wM_bind, wM_ite]
theorem wM_eCmp {c : Cs} {op : CmpOp} {a b : M D} : wM (eCmp c op a b) η QD X = wM a η (fun x η1 => wM b η1 (fun y η2 => wO (c.cmpX op x y) fun r => QD (.bl r) η2) X) X := by
  unfold eCmp
  simp only [wM_bind, wM_opt, wO_map]
theorem wM_eCmp2 {op op2 : CmpOp} {a b b2 : M D} : wM (eCmp2 op op2 a b b2) η QD X = wM a η (fun x η1 => wM b η1 (fun y η2 => wO (cmpD op x.frz y.frz) fun k => if k = true then wM b2 η2 (fun z η3 => wO (cmpD op2 y.frz z) fun r => QD (.bl r) η3) X else QD (.bl false) η2) X) X := by
  unfold eCmp2
  simp only [wM_bind, wM_frz, wM_opt, wO_map, wM_ite, wM_pure]
theorem wM_ptN {Q : Option Int → List D → Prop} : wM ptN η Q X = Q none η := rfl
theorem wM_ptE {a : M D} {Q : Option Int → List D → Prop} : wM (ptE a) η Q X = wM a η (fun x η1 => wO (partD x) fun p => Q p η1) X := by
  unfold ptE
  simp only [wM_bind, wM_opt]
theorem wM_eCut {a : M D} {lo hi : M (Option Int)} : wM (eCut a lo hi) η QD X = wM a η (fun x η1 => wM lo η1 (fun l η2 => wM hi η2 (fun h η3 => wO (cutD x.frz l h) fun z => QD z η3) X) X) X := by
  unfold eCut
  simp only [wM_bind, wM_frz, wM_opt]
def wPth (q : Nat × List Nat × D) (η : List D) (Q : D → List D → Prop) : Prop := if q.2.2.still = true then Q q.2.2 η else Q q.2.2.frz (setFrzP q.1 q.2.1 q.2.2 η)
theorem wM_eSub {p : RP} {a b : M D} : wM (eSub p a b) η QD X = match p η with
    | some q => wPth q η QD
    | none => wM a η (fun x η1 => wM b η1 (fun y η2 => wO (idxD x y) fun z => QD z η2) X) X := by
  unfold eSub wPth
  cases e : p η with
  | none =>
    simp only
    refine Eq.trans (b := wM (mBind a (fun x => mBind b fun y => mOpt (idxD x y))) η QD X) ?_ (by simp only [wM_bind, wM_opt])
    unfold wM
    simp only [e]
  | some q =>
    obtain ⟨i, q, d⟩ := q
    unfold wM
    simp only [e]
    by_cases h : d.still = true
    · simp only [h, if_true]
    · simp only [h, if_false]; rfl
theorem wM_ePth {p : RP} : wM (ePth p) η QD X = wO (p η) fun q => wPth q η QD := by
  unfold ePth wPth wM wO
  cases e : p η with
  | none => simp only [e]
  | some q =>
    obtain ⟨i, q, d⟩ := q
    simp only [e]
    by_cases h : d.still = true
    · simp only [h, if_true]
    · simp only [h, if_false]; rfl
theorem wM_eCur {fs : List (Str × D)} {f : Str} : wM (eCur fs f) η QD X = wO (fs.lookup f) fun d => QD d η := by
  unfold eCur wM wO
  cases fs.lookup f <;> rfl
theorem wM_aS {i : Nat} {Q : Arg → List D → Prop} : wM (aS i) η Q X = wO η[i]? fun d => d.bound = true ∧ Q (.slot i) η := by
  unfold wM aS wO
  cases η[i]? with
  | none => rfl
  | some d =>
    simp only
    by_cases h : d.bound = true
    · simp only [h, if_true, true_and]
    · rw [if_neg h]; simp only [h, false_and]; simp
theorem wM_aE {e : M D} {Q : Arg → List D → Prop} : wM (aE e) η Q X = wM e η (fun d η1 => Q (.tmp d) η1) X := by
  unfold aE
  simp only [wM_bind, wM_pure]
def wRes (wb : List (Option Nat)) (η' : List D) (Q : D → List D → Prop) (X : Str → List (Str × D) → List D → Prop) : FRes → Prop
  | .ret d ds' => Q d (giveBack wb ds' η')
  | .exc c fs ds' => X c fs (giveBack wb ds' η')
theorem wM_callF {f : Fn} {sh : Shape} {as : List Arg} : wM (callF f sh as) η QD X = wO (pickAll as sh.arr) fun bs => wO (takeArgs f.keep 0 bs η) fun q => wF f.run q.1 (wRes q.2.2 q.2.1 QD X) := by
  unfold wM callF wO
  cases pickAll as sh.arr with
  | none => rfl
  | some bs =>
    simp only
    cases takeArgs f.keep 0 bs η with
    | none => rfl
    | some q =>
      obtain ⟨ds, η', wb⟩ := q
      simp only [wF]
      cases f.run ds with
      | none => rfl
      | some r => cases r <;> rfl
theorem wM_eCall {f : Fn} {sh : Shape} {args zs : List (M Arg)} : wM (eCall f sh args zs) η QD X = wM (seqC args) η (fun as η1 => wM (seqC zs) η1 (fun zs η2 => wM (callF f sh (as ++ zs)) η2 QD X) X) X := by
  unfold eCall
  simp only [wM_bind]
theorem wM_eLen {a : M D} : wM (eLen a) η QD X = wM a η (fun x η1 => wO (lenD x) fun n => QD (.int (n : Nat)) η1) X := by
  unfold eLen
  simp only [wM_bind, wM_opt, wO_map]
theorem wM_eIsa {c : Cs} {xs : List Str} {a : M D} : wM (eIsa c xs a) η QD X = wM a η (fun x η1 => wO (c.isaAny x xs) fun b => QD (.bl b) η1) X := by
  unfold eIsa
  simp only [wM_bind, wM_opt, wO_map]
theorem wM_eO {f : Str} {a : M D} : wM (eO f a) η QD X = wM a η (fun x η1 => wO (callO f x) fun z => QD z η1) X := by
  unfold eO
  simp only [wM_bind, wM_opt]
theorem wM_eBf {f : Str} {args : List (M D)} : wM (eBf f args) η QD X = wM (seqC args) η (fun vs η1 => wO (callB f vs) fun z => QD z η1) X := by
  unfold eBf
  simp only [wM_bind, wM_opt]
theorem wM_eRg1 {f : Str} {a : M D} : wM (eRg1 f a) η QD X = wM a η (fun x η1 => match x with
    | .int j => wO (rangeC f 0 j) fun z => QD z η1
    | _ => False) X := by
  unfold eRg1
  simp only [wM_bind]
  congr 1
  funext x η1
  cases x <;> simp only [wM_none, wM_opt]
theorem wM_rR {p : RP} {e : M D} : wM (rR p e) η QD X = match p η with
    | some q => QD q.2.2 η
    | none => wM e η QD X := by
  unfold rR
  cases h : p η with
  | none => unfold wM; simp only [h]
  | some q => obtain ⟨i, q, d⟩ := q; unfold wM; simp only [h]
theorem wM_rO {p : RP} {e : M D} : wM (rO p e) η QD X = match p η with
    | some q => if kidsStill q.2.2 = true then QD q.2.2 η else QD q.2.2.frz (setFrzP q.1 q.2.1 q.2.2 η)
    | none => wM e η (fun d η1 => QD d.frz η1) X := by
  unfold rO
  cases h : p η with
  | none =>
    simp only
    rw [← wM_frz]
    unfold wM
    simp only [h]
  | some q =>
    obtain ⟨i, q, d⟩ := q
    unfold wM
    simp only [h]
    by_cases h : kidsStill d = true
    · simp only [h, if_true]
    · simp only [h, if_false]; rfl
/-! ### walked things, tests -/
theorem wM_iE {a : M D} : wM (iE a) η QL X = wM a η (fun x η1 => wO (itemsD x.frz) fun xs => QL xs η1) X := by
  unfold iE
  simp only [wM_bind, wM_frz, wM_opt]
theorem wM_iR1 {a : M D} : wM (iR1 a) η QL X = wM a η (fun x η1 => match x.frz with
    | .int j => wO (rangeD 0 j 1) fun xs => QL xs η1
    | _ => False) X := by
  unfold iR1
  simp only [wM_bind, wM_sq1, wM_sq0, wM_frz]
  congr 1
  funext x η1
  cases x.frz <;> simp only [wM_none, wM_opt]
theorem wM_iR3 {a b s : M D} : wM (iR3 a b s) η QL X = wM a η (fun x η1 => wM b η1 (fun y η2 => wM s η2 (fun z η3 => match x.frz, y.frz, z.frz with
    | .int i, .int j, .int k => if k = -1 then wO (rangeD i j k) fun xs => QL xs η3 else False
    | _, _, _ => False) X) X) X := by
  unfold iR3
  simp only [wM_bind, wM_sq1, wM_sq0, wM_frz]
  congr 1; funext x η1; congr 1; funext y η2; congr 1; funext z η3
  cases x.frz <;> try rfl
  cases y.frz <;> try rfl
  cases z.frz <;> try rfl
  simp only [wM_ite, wM_opt, wM_none]
theorem wM_iEn {a : M D} : wM (iEn a) η QL X = wM a η (fun x η1 => match x.frz with
    | .node k _ xs => (k = .lst ∨ k = .rol ∨ k = .tup) ∧ QL (enumD 0 xs) η1
    | _ => False) X := by
  unfold iEn
  simp only [wM_bind, wM_sq1, wM_sq0, wM_frz]
  congr 1
  funext x η1
  cases x.frz <;> simp only [wM_none, wM_ite, wM_pure, and_ite]
theorem wM_iZp {a b : M D} : wM (iZp a b) η QL X = wM a η (fun x η1 => wM b η1 (fun y η2 => match x.frz, y.frz with
    | .node k _ xs, .node k2 _ ys => (((k = .lst ∨ k = .rol) ∧ (k2 = .lst ∨ k2 = .rol)) ∨ (k = .tup ∧ k2 = .tup)) ∧ QL (zipD xs ys) η2
    | _, _ => False) X) X := by
  unfold iZp
  simp only [wM_bind, wM_sq1, wM_sq0, wM_frz]
  congr 1; funext x η1; congr 1; funext y η2
  cases x.frz <;> try rfl
  cases y.frz <;> try rfl
  simp only [wM_none, wM_ite, wM_pure, and_ite]
theorem wM_tAnd {a r : M Bool} : wM (tAnd a r) η QB X = wM a η (fun b η1 => if b = true then wM r η1 QB X else QB false η1) X := by
  unfold tAnd
  simp only [wM_bind, wM_ite, wM_pure]
theorem wM_tOr {a r : M Bool} : wM (tOr a r) η QB X = wM a η (fun b η1 => if b = true then QB true η1 else wM r η1 QB X) X := by
  unfold tOr
  simp only [wM_bind, wM_ite, wM_pure]
theorem wM_tNot {a : M Bool} : wM (tNot a) η QB X = wM a η (fun b η1 => QB (!b) η1) X := by
  unfold tNot
  simp only [wM_bind, wM_pure]
theorem wM_tE {a : M D} : wM (tE a) η QB X = wM a η (fun x η1 => wO (truthD x) fun b => QB b η1) X := by
  unfold tE
  simp only [wM_bind, wM_opt]
theorem wM_tY : wM tY η QB X = QB true η := rfl
/-! ### statements -/
theorem wS_q0 : wS (qS []) η F = F (.nx η) := rfl
theorem wS_q1 {s : SM} {r : List SM} : wS (qS (s :: r)) η F = wS s η (fun f => match f with
    | .nx η1 => wS (qS r) η1 F
    | f => F f) := by
  refine Eq.trans (b := wO (match s η with
    | some (.nx η1) => qS r η1
    | x => x) F) rfl ?_
  unfold wS
  cases s η with
  | none => rfl
  | some f => cases f <;> rfl
theorem wS_pass : wS sPass η F = F (.nx η) := rfl
theorem wS_brk : wS sBrk η F = F (.brk η) := rfl
theorem wS_cnt : wS sCnt η F = F (.cnt η) := rfl
theorem wS_ret0 : wS sRet0 η F = F (.ret .non η) := rfl
theorem wS_fl {m : M D} {k : D → List D → Option Fl} : wO (flE (m η) k) F = wM m η (fun d η1 => wO (k d η1) F) (fun c fs η1 => F (.exc c fs η1)) := by
  unfold wM flE
  cases m η with
  | none => rfl
  | some r => cases r <;> rfl
theorem wS_ret {e : M D} : wS (sRet e) η F = wM e η (fun d η1 => F (.ret d η1)) (fun c fs η1 => F (.exc c fs η1)) := wS_fl
theorem wS_retS {i : Nat} : wS (sRetS i) η F = wO η[i]? fun d => d.bound = true ∧ F (.ret d (η.set i .unb)) := by
  unfold wS sRetS wO
  cases η[i]? with
  | none => rfl
  | some d =>
    simp only
    by_cases h : d.bound = true
    · simp only [h, if_true, true_and]
    · rw [if_neg h]; simp only [h, false_and]; simp
theorem wS_exp {e : M D} : wS (sExp e) η F = wM e η (fun d η1 => F (.nx η1)) (fun c fs η1 => F (.exc c fs η1)) := wS_fl
theorem st_ok {i : Nat} {d : D} (h : i < η.length) : stS false i d η = some (η.set i d) := by
  unfold stS
  rw [if_neg]
  rintro (z | z)
  · cases z
  · omega
theorem wS_asg {i : Nat} {e : M D} : wS (sAsg i e) η F = wM e η (fun d η1 => wO (stS false i d η1) fun η2 => F (.nx η2)) (fun c fs η1 => F (.exc c fs η1)) := by
  refine wS_fl.trans ?_
  simp only [wO_map]
theorem wS_unp {is : List Nat} {e : M D} : wS (sUnp is e) η F = wM e η (fun d η1 => wO (bT is d η1) fun η2 => F (.nx η2)) (fun c fs η1 => F (.exc c fs η1)) := by
  refine wS_fl.trans ?_
  simp only [wO_map]
theorem wS_par {i j : Nat} {e1 e2 : M D} : wS (sPar i j e1 e2) η F = wM e1 η (fun d1 η1 => wM e2 η1 (fun d2 η2 => wO (stS false i d1 η2) fun η3 => wO (stS false j d2 η3) fun η4 => F (.nx η4)) (fun c fs η1 => F (.exc c fs η1))) (fun c fs η1 => F (.exc c fs η1)) := by
  have e0 : ∀ η, seqC [e1, e2] η = mBind e1 (fun y => mBind (mBind e2 fun y => mBind (mPure []) fun q => mPure (y :: q)) fun q => mPure (y :: q)) η := fun _ => rfl
  unfold wS sPar
  rw [e0]
  unfold wM mBind
  cases e1 η with
  | none => rfl
  | some r =>
    cases r with
    | exc => rfl
    | ok d1 η1 =>
      simp only
      cases e2 η1 with
      | none => rfl
      | some r =>
        cases r with
        | exc => rfl
        | ok d2 η2 =>
          simp only [mPure, wO, mBind]
          cases stS false i d1 η2 with
          | none => rfl
          | some η3 =>
            simp only
            cases stS false j d2 η3 <;> rfl
def setI (p : RP) (x : RX) (d : D) (η1 : List D) : Option (List D) := match p η1, x η1 with
  | some (j, p, .node .lst true xs), some (.int m) => (match ixN xs.length m, η1[j]? with
    | some k, some d0 => some (η1.set j (d0.putAt p (.node .lst true (xs.set k d))))
    | _, _ => none)
  | _, _ => none
theorem setI_eq {p : RP} {x : RX} {d : D} {j : Nat} {q : List Nat} {xs : List D} {m : Int} {k : Nat} {d0 : D} (hp : p η = some (j, q, .node .lst true xs)) (hx : x η = some (.int m)) (hk : ixN xs.length m = some k) (hd : η[j]? = some d0) :
    setI p x d η = some (η.set j (d0.putAt q (.node .lst true (xs.set k d)))) := by
  unfold setI
  simp only [hp, hx, hk, hd]
theorem wS_setI {p : RP} {x : RX} {e : M D} : wS (sSetI p x e) η F = wM e η (fun d η1 => wO (setI p x d η1) fun η2 => F (.nx η2)) (fun c fs η1 => F (.exc c fs η1)) := by
  refine wS_fl.trans ?_
  congr 1
  funext d η1
  rw [← wO_map (f := Fl.nx)]
  congr 1
  unfold setI
  rcases hp : p η1 with _ | ⟨j, q, dd⟩
  · rfl
  rcases dd with _ | _ | _ | _ | _ | _ | ⟨k, o, xs⟩ <;> try rfl
  cases k <;> cases o <;> try rfl
  rcases hx : x η1 with _ | m
  · rfl
  cases m <;> try rfl
  rename_i m
  simp only
  cases h1 : ixN xs.length m <;> cases h2 : η1[j]? <;> rfl
def setA (c : Cs) (p : RP) (f : Str) (d : D) (η1 : List D) : Option (List D) := match p η1 with
  | some (j, p, .node (.obj x fs) true xs) => (match η1[j]? with
    | some d0 => if fs.length < 1000 ∧ c.isFld x f = true then (match fs.findIdx? (· == f) with
      | some k => some (η1.set j (d0.putAt p (.node (.obj x fs) true (xs.set k d))))
      | none => some (η1.set j (d0.putAt p (.node (.obj x (fs ++ [f])) true (xs ++ [d]))))) else none
    | none => none)
  | _ => none
theorem wS_setA {c : Cs} {p : RP} {f : Str} {e : M D} : wS (sSetA c p f e) η F = wM e η (fun d η1 => wO (setA c p f d η1) fun η2 => F (.nx η2)) (fun c fs η1 => F (.exc c fs η1)) := by
  refine wS_fl.trans ?_
  congr 1
  funext d η1
  rw [← wO_map (f := Fl.nx)]
  congr 1
  unfold setA
  rcases hp : p η1 with _ | ⟨j, q, dd⟩
  · rfl
  rcases dd with _ | _ | _ | _ | _ | _ | ⟨k, o, xs⟩ <;> try rfl
  cases k <;> cases o <;> try rfl
  cases h2 : η1[j]? with
  | none => simp [h2]
  | some d0 =>
    simp only [h2]
    split
    · cases h3 : List.findIdx? (fun x => x == f) _ <;> simp [h3]
    · rfl
theorem wS_aug {i : Nat} {f : Int → Int → Int} {e : M D} : wS (sAug i f e) η F = match η[i]? with
    | some (.int a) => wM e η (fun d η1 => match η1[i]?, d with
      | some (.int a'), .int b => a' = a ∧ wO (stS false i (.int (f a b)) η1) fun η2 => F (.nx η2)
      | _, _ => False) (fun c fs η1 => F (.exc c fs η1))
    | _ => False := by
  unfold wS sAug
  cases η[i]? with
  | none => rfl
  | some d =>
    cases d <;> try rfl
    refine wS_fl.trans ?_
    congr 1
    funext d η1
    cases η1[i]? with
    | none => rfl
    | some d' =>
      cases d' <;> try rfl
      cases d <;> try rfl
      simp only [wO_ite, wO_map, wO_none, and_ite]
theorem wS_if {t : M Bool} {a b : SM} : wS (sIf t a b) η F = wM t η (fun k η1 => if k = true then wS a η1 F else wS b η1 F) (fun c fs η1 => F (.exc c fs η1)) := by
  unfold wS sIf wM
  cases t η with
  | none => rfl
  | some r =>
    cases r with
    | exc => rfl
    | ok k η1 => cases k <;> rfl
theorem wS_for {bind : BM} {items : M (List D)} {body : SM} : wS (sFor bind items body) η F = wM items η (fun xs η1 => wO (forL bind body xs η1) F) (fun c fs η1 => F (.exc c fs η1)) := by
  unfold wS sFor wM
  cases items η with
  | none => rfl
  | some r => cases r <;> rfl
theorem wS_wh {t : M Bool} {body : SM} {wf : Nat} : wS (sWh t body wf) η F = wO (whileL t body wf η) F := rfl
theorem wS_rs {m : M (Str × List (Str × D))} : wS (sRs m) η F = wM m η (fun q η1 => F (.exc q.1 q.2 η1)) (fun c fs η1 => F (.exc c fs η1)) := by
  unfold wS sRs wM
  cases m η with
  | none => rfl
  | some r => cases r <;> rfl
theorem wM_xcE {x : Str} {fs : List (Str × Nat)} {args : List (M D)} {Q : Str × List (Str × D) → List D → Prop} : wM (xcE x fs args) η Q X = wM (seqC (args.map mFrz)) η (fun vs η1 => wO (fs.mapM fun f => (vs[f.2]?).map fun d => (f.1, d)) fun q => Q (x, q) η1) X := by
  unfold xcE
  simp only [wM_bind, wM_opt, wO_map]
theorem wS_try {body : SM} {h : Str → List (Str × D) → SM} : wS (sTry body h) η F = wS body η (fun f => match f with
    | .exc x fs η1 => wS (h x fs) η1 F
    | f => F f) := by
  unfold wS sTry
  cases body η with
  | none => rfl
  | some f => cases f <;> rfl
/-! ### loops -/
theorem wO_for0 {bind : BM} {body : SM} : wO (forL bind body [] η) F = F (.nx η) := rfl
theorem wO_for1 {bind : BM} {body : SM} {d : D} {r : List D} : wO (forL bind body (d :: r) η) F = wO (bind d η) fun η1 => wS body η1 fun f => match f with
    | .nx η2 => wO (forL bind body r η2) F
    | .cnt η2 => wO (forL bind body r η2) F
    | .brk η2 => F (.nx η2)
    | f => F f := by
  refine Eq.trans (b := wO (match bind d η with
    | none => none
    | some η1 => match body η1 with
      | some (.nx η2) => forL bind body r η2
      | some (.cnt η2) => forL bind body r η2
      | some (.brk η2) => some (.nx η2)
      | x => x) F) rfl ?_
  unfold wS
  simp only [wO]
  cases bind d η with
  | none => rfl
  | some η1 =>
    simp only
    cases body η1 with
    | none => rfl
    | some f => cases f <;> rfl
/-- a for loop that goes through, by what holds behind i items -/
theorem wO_for_inv {bind : BM} {body : SM} (I : Nat → List D → Prop) : ∀ (items : List D) (k : Nat) (η : List D), I k η →
    (∀ j d η, items[j]? = some d → I (k + j) η → wO (bind d η) fun η1 => wS body η1 fun f => match f with
      | .nx η2 => I (k + j + 1) η2
      | .cnt η2 => I (k + j + 1) η2
      | .brk η2 => F (.nx η2)
      | f => F f) → (∀ η, I (k + items.length) η → F (.nx η)) → wO (forL bind body items η) F
  | [], k, η, h0, _, hz => by
    rw [wO_for0]
    exact hz η h0
  | d :: r, k, η, h0, hs, hz => by
    rw [wO_for1]
    have h := hs 0 d η rfl h0
    cases e : bind d η with
    | none => rw [e] at h; exact h
    | some η1 =>
      rw [e] at h
      refine wS_mono h fun f hf => ?_
      have go : ∀ η2, I (k + 1) η2 → wO (forL bind body r η2) F := fun η2 hi => wO_for_inv I r (k + 1) η2 hi (fun j d η hj hij => by
        have := hs (j + 1) d η hj (by rw [show k + (j + 1) = k + 1 + j by omega]; exact hij)
        rw [show k + (j + 1) + 1 = k + 1 + j + 1 by omega] at this
        exact this) (fun η hi => hz η (by rw [List.length_cons, show k + (r.length + 1) = k + 1 + r.length by omega]; exact hi))
      cases f with
      | nx η2 => exact go η2 hf
      | cnt η2 => exact go η2 hf
      | brk η2 => exact hf
      | ret d η2 => exact hf
      | exc c fs η2 => exact hf
/-- a while loop, by what falls -/
theorem wO_while {t : M Bool} {body : SM} (I : List D → Prop) (μ : List D → Nat) : ∀ (n : Nat) (η : List D), I η → μ η < n →
    (∀ η, I η → wM t η (fun b η1 => if b = true then wS body η1 fun f => match f with
        | .nx η2 => I η2 ∧ μ η2 < μ η
        | .cnt η2 => I η2 ∧ μ η2 < μ η
        | .brk η2 => F (.nx η2)
        | f => F f
      else F (.nx η1)) (fun c fs η1 => F (.exc c fs η1))) → wO (whileL t body n η) F
  | 0, η, _, hn, _ => absurd hn (by omega)
  | n + 1, η, h0, hn, hs => by
    have h := hs η h0
    unfold whileL
    unfold wM at h
    cases e : t η with
    | none => rw [e] at h; exact h
    | some r =>
      rw [e] at h
      cases r with
      | exc c fs η1 => exact h
      | ok b η1 =>
        cases b with
        | false => exact h
        | true =>
          simp only [if_true] at h
          obtain ⟨f, e2, hf⟩ := wS_get h
          simp only [e2]
          cases f with
          | nx η2 => exact wO_while I μ n η2 hf.1 (by omega) hs
          | cnt η2 => exact wO_while I μ n η2 hf.1 (by omega) hs
          | brk η2 => exact hf
          | ret d η2 => exact hf
          | exc c fs η2 => exact hf
/-- a comprehension, by what holds behind i items -/
theorem wM_lc {vs : List Nat} {bind : BM} {test : M Bool} {elt : M D} {items : M (List D)} : wM (eLc vs bind test elt items) η QD X = wM items η (fun xs η1 => wO (lcL (fun d η => bind d (wipeD vs η)) test elt xs [] (frzAt vs η1)) fun q => QD (.node .lst true q.1) (backD vs (frzAt vs η1) q.2)) X := by
  unfold eLc
  rw [wM_bind]
  congr 1
  funext xs η1
  unfold lcR wM wO
  simp only
  cases lcL (fun d η => bind d (wipeD vs η)) test elt xs [] (frzAt vs η1) with
  | none => rfl
  | some q => obtain ⟨a, b⟩ := q; rfl
theorem lc_inv {bind : BM} {test : M Bool} {elt : M D} {Q : List D × List D → Prop} (I : Nat → List D → List D → Prop) : ∀ (items : List D) (k : Nat) (acc η : List D), I k acc η → acc.length + items.length ≤ sizeLine →
    (∀ j d acc η, items[j]? = some d → I (k + j) acc η → wO (bind d η) fun η1 => wM test η1 (fun b η2 => if b = true then wM elt η2 (fun x η3 => I (k + j + 1) (acc ++ [x]) η3) (fun _ _ _ => False) else I (k + j + 1) acc η2) (fun _ _ _ => False)) →
    (∀ acc η, I (k + items.length) acc η → Q (acc, η)) → wO (lcL bind test elt items acc η) Q
  | [], k, acc, η, h0, _, _, hz => hz acc η h0
  | d :: r, k, acc, η, h0, hl, hs, hz => by
    have h := hs 0 d acc η rfl h0
    unfold lcL
    cases e : bind d η with
    | none => rw [e] at h; exact h
    | some η1 =>
      rw [e] at h
      simp only [wO_some] at h
      simp only
      rw [List.length_cons] at hl
      have go : ∀ acc η2, acc.length + r.length ≤ sizeLine → I (k + 1) acc η2 → wO (lcL bind test elt r acc η2) Q := fun acc η2 hl hi => lc_inv I r (k + 1) acc η2 hi hl (fun j d acc η hj hij => by
        have := hs (j + 1) d acc η hj (by rw [show k + (j + 1) = k + 1 + j by omega]; exact hij)
        rw [show k + (j + 1) + 1 = k + 1 + j + 1 by omega] at this
        exact this) (fun acc η hi => hz acc η (by rw [List.length_cons, show k + (r.length + 1) = k + 1 + r.length by omega]; exact hi))
      unfold wM at h
      cases e2 : test η1 with
      | none => rw [e2] at h; exact h
      | some q =>
        rw [e2] at h
        cases q with
        | exc c fs η2 => exact h.elim
        | ok b η2 =>
          simp only at h
          cases b with
          | false => exact go acc η2 (by omega) h
          | true =>
            simp only [if_true] at h
            simp only
            cases e3 : elt η2 with
            | none => rw [e3] at h; exact h.elim
            | some q =>
              rw [e3] at h
              cases q with
              | exc c fs η2 => exact h.elim
              | ok x η3 =>
                simp only
                rw [if_pos (by omega)]
                exact go (acc ++ [x]) η3 (by rw [List.length_append, List.length_singleton]; omega) h
end
/-- a def's run -/
def outD (np : Nat) (keep : Nat → Bool) (η : List D) : List D := (List.range np).map fun i => if keep i = true then η.getD i .unb else .unb
theorem wF_runC {nN np : Nat} {keep : Nat → Bool} {s : SM} {ds : List D} {Q : FRes → Prop} (h : ds.length = np) : wF (runC nN np keep s) ds Q = wS s (ds ++ List.replicate (nN - np) .unb) (fun f => match f with
    | .nx η => Q (.ret .non (outD np keep η))
    | .ret d η => Q (.ret d (outD np keep η))
    | .exc x fs η => Q (.exc x fs (outD np keep η))
    | _ => False) := by
  unfold wF runC wS outD
  simp only
  rw [if_neg (by omega)]
  cases s (ds ++ List.replicate (nN - np) .unb) with
  | none => rfl
  | some f => cases f <;> rfl
end Z

set_option Elab.async false
set_option linter.all false
set_option maxRecDepth 100000
set_option maxHeartbeats 0
namespace Z
open PySem PySem.Spec PyProof.Rows L2
def hFree : Str → Bool := fun x => x == "isinstance" || x == "len" || x == "enumerate" || x == "range" || x == "list" || x == "tuple" || x == "all" || x == "zip" || x == "int" || x == "abs" || x == "min" || x == "str" || x == "bool"
def hWf : Nat := 2000
def hFuel : Nat := 60
def kBook (i : Option Fn) (ms : List (Str × Fn)) : G := .cls ⟨none, i, ["_nodes", "_worded"], ms, [("Book", true), ("list", false), ("tuple", false), ("str", false), ("int", false), ("bool", false)], ["NoneType", "bool", "int", "str", "list", "tuple"]⟩
def g0 : Str → Option G := putG (putG (putG (putG (fun _ => none) "COLORS" (.val (.str "xyz"))) "_MOST_NODES" (.val (.int 200))) "InvalidNode" (.cls ⟨some [("at", 0)], none, [], [], [("InvalidNode", true), ("TooMany", false)], []⟩)) "TooMany" (.cls ⟨some [("count", 0)], none, [], [], [("TooMany", true), ("InvalidNode", false)], []⟩)
def g1 : Str → Option G := putG g0 "Book" (kBook none [])
def N_is_color : List Str := ["value"]
def P_is_color : Nat → Bool := fun i => decide (i = 0)
def C_is_color : Cs := ⟨N_is_color, defScope s_is_color, g1, hFree, P_is_color, none, hWf⟩
def S_is_color : SM := (qS [(sRet (eAnd (eIsa C_is_color ["str"] (rR (wayS 0) (eS 0))) (eAnd (eCmp C_is_color .Eq (eLen (rR (wayS 0) (eS 0))) (eK (.int 1))) (eCmp C_is_color .In (rR (wayS 0) (eS 0)) (eK (.str "xyz"))))))])
theorem S_is_color_ok : ∀ η, evSs C_is_color hFuel (defBody s_is_color) η = S_is_color η := by
  intro η
  kernel_rfl
theorem isa_is_color_0_non : C_is_color.isaAny .non ["str"] = some false := by kernel_rfl
theorem isa_is_color_0_bl {b : Bool} : C_is_color.isaAny (.bl b) ["str"] = some false := by kernel_rfl
theorem isa_is_color_0_int {i : Int} : C_is_color.isaAny (.int i) ["str"] = some false := by kernel_rfl
theorem isa_is_color_0_str {s : Str} : C_is_color.isaAny (.str s) ["str"] = some true := by kernel_rfl
theorem isa_is_color_0_lst {o : Bool} {xs : List D} : C_is_color.isaAny (.node .lst o xs) ["str"] = some false := by kernel_rfl
theorem isa_is_color_0_rol {o : Bool} {xs : List D} : C_is_color.isaAny (.node .rol o xs) ["str"] = some false := by kernel_rfl
theorem isa_is_color_0_tup {o : Bool} {xs : List D} : C_is_color.isaAny (.node .tup o xs) ["str"] = some false := by kernel_rfl
theorem isa_is_color_0_oBook {fs : List Str} {o : Bool} {xs : List D} : C_is_color.isaAny (.node (.obj "Book" fs) o xs) ["str"] = some false := by kernel_rfl
def F_is_color : Fn := ⟨1, [plainShape 1], P_is_color, runC 1 1 P_is_color S_is_color⟩
theorem kp_is_color_0 : F_is_color.keep 0 = true := rfl
def g2 : Str → Option G := putG g1 "is_color" (.fn F_is_color)
def N__is_child : List Str := ["value", "count"]
def P__is_child : Nat → Bool := fun i => decide (i = 0) || decide (i = 1)
def C__is_child : Cs := ⟨N__is_child, defScope s__is_child, g2, hFree, P__is_child, none, hWf⟩
def S__is_child : SM := (qS [(sIf (tE (eCmp C__is_child .Is (rR (wayS 0) (eS 0)) (eK .non))) (qS [(sRet (eK (.bl true)))]) (qS [])), (sRet (eAnd (eIsa C__is_child ["int"] (rR (wayS 0) (eS 0))) (eAnd (eNot (eIsa C__is_child ["bool"] (rR (wayS 0) (eS 0)))) (eCmp2 .LtE .Lt (eK (.int 0)) (eS 0) (rR (wayS 1) (eS 1))))))])
theorem S__is_child_ok : ∀ η, evSs C__is_child hFuel (defBody s__is_child) η = S__is_child η := by
  intro η
  kernel_rfl
theorem isa__is_child_0_non : C__is_child.isaAny .non ["bool"] = some false := by kernel_rfl
theorem isa__is_child_0_bl {b : Bool} : C__is_child.isaAny (.bl b) ["bool"] = some true := by kernel_rfl
theorem isa__is_child_0_int {i : Int} : C__is_child.isaAny (.int i) ["bool"] = some false := by kernel_rfl
theorem isa__is_child_0_str {s : Str} : C__is_child.isaAny (.str s) ["bool"] = some false := by kernel_rfl
theorem isa__is_child_0_lst {o : Bool} {xs : List D} : C__is_child.isaAny (.node .lst o xs) ["bool"] = some false := by kernel_rfl
theorem isa__is_child_0_rol {o : Bool} {xs : List D} : C__is_child.isaAny (.node .rol o xs) ["bool"] = some false := by kernel_rfl
theorem isa__is_child_0_tup {o : Bool} {xs : List D} : C__is_child.isaAny (.node .tup o xs) ["bool"] = some false := by kernel_rfl
theorem isa__is_child_0_oBook {fs : List Str} {o : Bool} {xs : List D} : C__is_child.isaAny (.node (.obj "Book" fs) o xs) ["bool"] = some false := by kernel_rfl
theorem isa__is_child_1_non : C__is_child.isaAny .non ["int"] = some false := by kernel_rfl
theorem isa__is_child_1_bl {b : Bool} : C__is_child.isaAny (.bl b) ["int"] = some true := by kernel_rfl
theorem isa__is_child_1_int {i : Int} : C__is_child.isaAny (.int i) ["int"] = some true := by kernel_rfl
theorem isa__is_child_1_str {s : Str} : C__is_child.isaAny (.str s) ["int"] = some false := by kernel_rfl
theorem isa__is_child_1_lst {o : Bool} {xs : List D} : C__is_child.isaAny (.node .lst o xs) ["int"] = some false := by kernel_rfl
theorem isa__is_child_1_rol {o : Bool} {xs : List D} : C__is_child.isaAny (.node .rol o xs) ["int"] = some false := by kernel_rfl
theorem isa__is_child_1_tup {o : Bool} {xs : List D} : C__is_child.isaAny (.node .tup o xs) ["int"] = some false := by kernel_rfl
theorem isa__is_child_1_oBook {fs : List Str} {o : Bool} {xs : List D} : C__is_child.isaAny (.node (.obj "Book" fs) o xs) ["int"] = some false := by kernel_rfl
def F__is_child : Fn := ⟨2, [plainShape 2], P__is_child, runC 2 2 P__is_child S__is_child⟩
theorem kp__is_child_0 : F__is_child.keep 0 = true := rfl
theorem kp__is_child_1 : F__is_child.keep 1 = true := rfl
def g3 : Str → Option G := putG g2 "_is_child" (.fn F__is_child)
def N__is_node : List Str := ["value", "count", "child"]
def P__is_node : Nat → Bool := fun i => decide (i = 0) || decide (i = 1)
def C__is_node : Cs := ⟨N__is_node, defScope s__is_node, g3, hFree, P__is_node, none, hWf⟩
def S__is_node : SM := (qS [(sIf (tOr (tNot (tE (eIsa C__is_node ["tuple"] (rR (wayS 0) (eS 0))))) (tE (eCmp C__is_node .NotEq (eLen (rR (wayS 0) (eS 0))) (eK (.int 5))))) (qS [(sRet (eK (.bl false)))]) (qS [])), (sIf (tOr (tNot (tE (eIsa C__is_node ["str"] (rR (wayI (wayS 0) (xK (.int 0))) (eSub (wayI (wayS 0) (xK (.int 0))) (eS 0) (eK (.int 0))))))) (tAnd (tE (eCmp C__is_node .NotEq (rR (wayI (wayS 0) (xK (.int 0))) (eSub (wayI (wayS 0) (xK (.int 0))) (eS 0) (eK (.int 0)))) (eK (.str "")))) (tNot (tE (eCall F_is_color (plainShape 1) [(aE (eSub (wayI (wayS 0) (xK (.int 0))) (eS 0) (eK (.int 0))))] []))))) (qS [(sRet (eK (.bl false)))]) (qS [])), (sRet (eO "all" (mFrz (eLc [2] (bS 2) tY (eCall F__is_child (plainShape 2) [(aS 2), (aS 1)] []) (iE (eCut (eS 0) (ptE (eK (.int 1))) ptN))))))])
theorem S__is_node_ok : ∀ η, evSs C__is_node hFuel (defBody s__is_node) η = S__is_node η := by
  intro η
  kernel_rfl
theorem isa__is_node_0_non : C__is_node.isaAny .non ["str"] = some false := by kernel_rfl
theorem isa__is_node_0_bl {b : Bool} : C__is_node.isaAny (.bl b) ["str"] = some false := by kernel_rfl
theorem isa__is_node_0_int {i : Int} : C__is_node.isaAny (.int i) ["str"] = some false := by kernel_rfl
theorem isa__is_node_0_str {s : Str} : C__is_node.isaAny (.str s) ["str"] = some true := by kernel_rfl
theorem isa__is_node_0_lst {o : Bool} {xs : List D} : C__is_node.isaAny (.node .lst o xs) ["str"] = some false := by kernel_rfl
theorem isa__is_node_0_rol {o : Bool} {xs : List D} : C__is_node.isaAny (.node .rol o xs) ["str"] = some false := by kernel_rfl
theorem isa__is_node_0_tup {o : Bool} {xs : List D} : C__is_node.isaAny (.node .tup o xs) ["str"] = some false := by kernel_rfl
theorem isa__is_node_0_oBook {fs : List Str} {o : Bool} {xs : List D} : C__is_node.isaAny (.node (.obj "Book" fs) o xs) ["str"] = some false := by kernel_rfl
theorem isa__is_node_1_non : C__is_node.isaAny .non ["tuple"] = some false := by kernel_rfl
theorem isa__is_node_1_bl {b : Bool} : C__is_node.isaAny (.bl b) ["tuple"] = some false := by kernel_rfl
theorem isa__is_node_1_int {i : Int} : C__is_node.isaAny (.int i) ["tuple"] = some false := by kernel_rfl
theorem isa__is_node_1_str {s : Str} : C__is_node.isaAny (.str s) ["tuple"] = some false := by kernel_rfl
theorem isa__is_node_1_lst {o : Bool} {xs : List D} : C__is_node.isaAny (.node .lst o xs) ["tuple"] = some false := by kernel_rfl
theorem isa__is_node_1_rol {o : Bool} {xs : List D} : C__is_node.isaAny (.node .rol o xs) ["tuple"] = some false := by kernel_rfl
theorem isa__is_node_1_tup {o : Bool} {xs : List D} : C__is_node.isaAny (.node .tup o xs) ["tuple"] = some true := by kernel_rfl
theorem isa__is_node_1_oBook {fs : List Str} {o : Bool} {xs : List D} : C__is_node.isaAny (.node (.obj "Book" fs) o xs) ["tuple"] = some false := by kernel_rfl
def F__is_node : Fn := ⟨2, [plainShape 2], P__is_node, runC 3 2 P__is_node S__is_node⟩
theorem kp__is_node_0 : F__is_node.keep 0 = true := rfl
theorem kp__is_node_1 : F__is_node.keep 1 = true := rfl
def g4 : Str → Option G := putG g3 "_is_node" (.fn F__is_node)
def N__parents : List Str := ["rows", "parents", "_", "at", "row", "child"]
def P__parents : Nat → Bool := fun i => decide (i = 0)
def C__parents : Cs := ⟨N__parents, defScope s__parents, g4, hFree, P__parents, none, hWf⟩
def S__parents : SM := (qS [(sAsg 1 (eLc [2] (bS 2) tY (eLst []) (iE (eS 0)))), (sFor (bT [3, 4]) (iEn (eS 0)) (qS [(sFor (bS 5) (iE (eCut (eS 4) (ptE (eK (.int 1))) ptN)) (qS [(sIf (tE (eCmp C__parents .IsNot (rR (wayS 5) (eS 5)) (eK .non))) (qS [(sExp (eMeth C__parents "append" 2 [] (wayI (wayS 1) (xS 5)) (eSub (wayI (wayS 1) (xS 5)) (eS 1) (eS 5)) true [(eS 3)] [(xS 3)] [(aS 3)] []))]) (qS []))]))])), (sRetS 1)])
theorem S__parents_ok : ∀ η, evSs C__parents hFuel (defBody s__parents) η = S__parents η := by
  intro η
  kernel_rfl
def F__parents : Fn := ⟨1, [plainShape 1], P__parents, runC 6 1 P__parents S__parents⟩
theorem kp__parents_0 : F__parents.keep 0 = true := rfl
def g5 : Str → Option G := putG g4 "_parents" (.fn F__parents)
def N_worded : List Str := ["rows", "parents", "found", "row", "waiting", "at", "parent"]
def P_worded : Nat → Bool := fun i => decide (i = 0)
def C_worded : Cs := ⟨N_worded, defScope s_worded, g5, hFree, P_worded, none, hWf⟩
def S_worded : SM := (qS [(sAsg 1 (eCall F__parents (plainShape 1) [(aS 0)] [])), (sAsg 2 (eLc [3] (bS 3) tY (eCmp C_worded .NotEq (rR (wayI (wayS 3) (xK (.int 0))) (eSub (wayI (wayS 3) (xK (.int 0))) (eS 3) (eK (.int 0)))) (eK (.str ""))) (iE (eS 0)))), (sAsg 4 (eLc [5, 3] (bT [5, 3]) (tE (eCmp C_worded .NotEq (rR (wayI (wayS 3) (xK (.int 0))) (eSub (wayI (wayS 3) (xK (.int 0))) (eS 3) (eK (.int 0)))) (eK (.str "")))) (eS 5) (iEn (eS 0)))), (sWh (tE (rR (wayS 4) (eS 4))) (qS [(sAsg 5 (eMeth C_worded "pop" 1 [] (wayS 4) (eS 4) true [] [] [] [])), (sFor (bS 6) (iE (eSub (wayI (wayS 1) (xS 5)) (eS 1) (eS 5))) (qS [(sIf (tNot (tE (rR (wayI (wayS 2) (xS 6)) (eSub (wayI (wayS 2) (xS 6)) (eS 2) (eS 6))))) (qS [(sSetI (wayS 2) (xS 6) (eK (.bl true))), (sExp (eMeth C_worded "append" 2 [] (wayS 4) (eS 4) true [(eS 6)] [(xS 6)] [(aS 6)] []))]) (qS []))]))]) hWf), (sRetS 2)])
theorem S_worded_ok : ∀ η, evSs C_worded hFuel (defBody s_worded) η = S_worded η := by
  intro η
  kernel_rfl
def F_worded : Fn := ⟨1, [plainShape 1], P_worded, runC 7 1 P_worded S_worded⟩
theorem kp_worded_0 : F_worded.keep 0 = true := rfl
def g6 : Str → Option G := putG g5 "worded" (.fn F_worded)
def N_Book___init__ : List Str := ["self", "nodes", "at", "node"]
def P_Book___init__ : Nat → Bool := fun i => decide (i = 0) || decide (i = 1)
def C_Book___init__ : Cs := ⟨N_Book___init__, defScope s_Book___init__, g6, hFree, P_Book___init__, none, hWf⟩
def S_Book___init__ : SM := (qS [(sIf (tOr (tNot (tE (eIsa C_Book___init__ ["list", "tuple"] (rR (wayS 1) (eS 1))))) (tE (eCmp C_Book___init__ .Eq (eLen (rR (wayS 1) (eS 1))) (eK (.int 0))))) (qS [(sRs (xcE "InvalidNode" [("at", 0)] [(eNeg (eK (.int 1)))]))]) (qS [])), (sIf (tE (eCmp C_Book___init__ .Gt (eLen (rR (wayS 1) (eS 1))) (eK (.int 200)))) (qS [(sRs (xcE "TooMany" [("count", 0)] [(eLen (rR (wayS 1) (eS 1)))]))]) (qS [])), (sFor (bT [2, 3]) (iEn (eS 1)) (qS [(sIf (tNot (tE (eCall F__is_node (plainShape 2) [(aS 3), (aE (eLen (rR (wayS 1) (eS 1))))] []))) (qS [(sRs (xcE "InvalidNode" [("at", 0)] [(eS 2)]))]) (qS []))])), (sSetA C_Book___init__ (wayS 0) "_nodes" (eO "list" (rO (wayS 1) (eS 1)))), (sSetA C_Book___init__ (wayS 0) "_worded" (eCall F_worded (plainShape 1) [(aE (ePth (wayA C_Book___init__ (wayS 0) "_nodes")))] []))])
theorem S_Book___init___ok : ∀ η, evSs C_Book___init__ hFuel (defBody s_Book___init__) η = S_Book___init__ η := by
  intro η
  kernel_rfl
theorem isa_Book___init___0_non : C_Book___init__.isaAny .non ["list", "tuple"] = some false := by kernel_rfl
theorem isa_Book___init___0_bl {b : Bool} : C_Book___init__.isaAny (.bl b) ["list", "tuple"] = some false := by kernel_rfl
theorem isa_Book___init___0_int {i : Int} : C_Book___init__.isaAny (.int i) ["list", "tuple"] = some false := by kernel_rfl
theorem isa_Book___init___0_str {s : Str} : C_Book___init__.isaAny (.str s) ["list", "tuple"] = some false := by kernel_rfl
theorem isa_Book___init___0_lst {o : Bool} {xs : List D} : C_Book___init__.isaAny (.node .lst o xs) ["list", "tuple"] = some true := by kernel_rfl
theorem isa_Book___init___0_rol {o : Bool} {xs : List D} : C_Book___init__.isaAny (.node .rol o xs) ["list", "tuple"] = some true := by kernel_rfl
theorem isa_Book___init___0_tup {o : Bool} {xs : List D} : C_Book___init__.isaAny (.node .tup o xs) ["list", "tuple"] = some true := by kernel_rfl
theorem isa_Book___init___0_oBook {fs : List Str} {o : Bool} {xs : List D} : C_Book___init__.isaAny (.node (.obj "Book" fs) o xs) ["list", "tuple"] = some false := by kernel_rfl
def F_Book___init__ : Fn := ⟨2, [plainShape 2, kwShape2 "nodes"], P_Book___init__, runC 4 2 P_Book___init__ S_Book___init__⟩
theorem kp_Book___init___0 : F_Book___init__.keep 0 = true := rfl
theorem kp_Book___init___1 : F_Book___init__.keep 1 = true := rfl
def N_Book_nodes : List Str := ["self"]
def P_Book_nodes : Nat → Bool := fun i => decide (i = 0)
def C_Book_nodes : Cs := ⟨N_Book_nodes, defScope s_Book_nodes, g6, hFree, P_Book_nodes, none, hWf⟩
def S_Book_nodes : SM := (qS [(sRet (eO "list" (rO (wayA C_Book_nodes (wayS 0) "_nodes") (ePth (wayA C_Book_nodes (wayS 0) "_nodes")))))])
theorem S_Book_nodes_ok : ∀ η, evSs C_Book_nodes hFuel (defBody s_Book_nodes) η = S_Book_nodes η := by
  intro η
  kernel_rfl
def F_Book_nodes : Fn := ⟨1, [plainShape 1], P_Book_nodes, runC 1 1 P_Book_nodes S_Book_nodes⟩
theorem kp_Book_nodes_0 : F_Book_nodes.keep 0 = true := rfl
def N_Book___eq__ : List Str := ["self", "other"]
def P_Book___eq__ : Nat → Bool := fun i => decide (i = 0) || decide (i = 1)
def C_Book___eq__ : Cs := ⟨N_Book___eq__, defScope s_Book___eq__, g6, hFree, P_Book___eq__, none, hWf⟩
def S_Book___eq__ : SM := (qS [(sRet (eAnd (eIsa C_Book___eq__ ["Book"] (rR (wayS 1) (eS 1))) (eCmp C_Book___eq__ .Eq (mFrz (ePth (wayA C_Book___eq__ (wayS 0) "_nodes"))) (rR (wayA C_Book___eq__ (wayS 1) "_nodes") (ePth (wayA C_Book___eq__ (wayS 1) "_nodes"))))))])
theorem S_Book___eq___ok : ∀ η, evSs C_Book___eq__ hFuel (defBody s_Book___eq__) η = S_Book___eq__ η := by
  intro η
  kernel_rfl
theorem isa_Book___eq___0_non : C_Book___eq__.isaAny .non ["Book"] = some false := by kernel_rfl
theorem isa_Book___eq___0_bl {b : Bool} : C_Book___eq__.isaAny (.bl b) ["Book"] = some false := by kernel_rfl
theorem isa_Book___eq___0_int {i : Int} : C_Book___eq__.isaAny (.int i) ["Book"] = some false := by kernel_rfl
theorem isa_Book___eq___0_str {s : Str} : C_Book___eq__.isaAny (.str s) ["Book"] = some false := by kernel_rfl
theorem isa_Book___eq___0_lst {o : Bool} {xs : List D} : C_Book___eq__.isaAny (.node .lst o xs) ["Book"] = some false := by kernel_rfl
theorem isa_Book___eq___0_rol {o : Bool} {xs : List D} : C_Book___eq__.isaAny (.node .rol o xs) ["Book"] = some false := by kernel_rfl
theorem isa_Book___eq___0_tup {o : Bool} {xs : List D} : C_Book___eq__.isaAny (.node .tup o xs) ["Book"] = some false := by kernel_rfl
theorem isa_Book___eq___0_oBook {fs : List Str} {o : Bool} {xs : List D} : C_Book___eq__.isaAny (.node (.obj "Book" fs) o xs) ["Book"] = some true := by kernel_rfl
def F_Book___eq__ : Fn := ⟨2, [plainShape 2], P_Book___eq__, runC 2 2 P_Book___eq__ S_Book___eq__⟩
theorem kp_Book___eq___0 : F_Book___eq__.keep 0 = true := rfl
theorem kp_Book___eq___1 : F_Book___eq__.keep 1 = true := rfl
def g7 : Str → Option G := putG g6 "Book" (kBook (some F_Book___init__) [("nodes", F_Book_nodes), ("__eq__", F_Book___eq__)])
def N__law_bag : List Str := ["_law_script", "_law_mixed", "_law_cell"]
def P__law_bag : Nat → Bool := fun i => decide (i = 0)
def C__law_bag : Cs := ⟨N__law_bag, defScope s__law_bag, g7, hFree, P__law_bag, none, hWf⟩
def S__law_bag : SM := (qS [(sAsg 1 (eK (.int 12038))), (sFor (bS 2) (iE (eCut (eS 0) ptN (ptE (eK (.int 63))))) (qS [(sAsg 1 (eBin .Mod (eBf "int" [(eBin .Add (eBin .Add (eBin .Mult (eS 1) (eK (.int 48271))) (eBin .Mult (eBin .Mod (eBf "int" [(eS 2)]) (eK (.int 1000639))) (eK (.int 881)))) (eK (.int 53)))]) (eK (.int 2147483579))))])), (sRet (eLst [(eO "list" (mFrz (eCut (eS 0) ptN (ptE (eK (.int 63)))))), (eK (.int 0)), (eK (.int 0)), (eS 1), (eK (.int 0))]))])
theorem S__law_bag_ok : ∀ η, evSs C__law_bag hFuel (defBody s__law_bag) η = S__law_bag η := by
  intro η
  kernel_rfl
def F__law_bag : Fn := ⟨1, [plainShape 1], P__law_bag, runC 3 1 P__law_bag S__law_bag⟩
theorem kp__law_bag_0 : F__law_bag.keep 0 = true := rfl
def g8 : Str → Option G := putG g7 "_law_bag" (.fn F__law_bag)
def N__law_draw : List Str := ["_law_bag_here", "_law_top", "_law_cell", "_law_digit", "_law_seed"]
def P__law_draw : Nat → Bool := fun i => decide (i = 0) || decide (i = 1)
def C__law_draw : Cs := ⟨N__law_draw, defScope s__law_draw, g8, hFree, P__law_draw, none, hWf⟩
def S__law_draw : SM := (qS [(sSetI (wayS 0) (xK (.int 4)) (eBin .Add (eSub (wayI (wayS 0) (xK (.int 4))) (eS 0) (eK (.int 4))) (eK (.int 1)))), (sIf (tAnd (tE (eCmp C__law_draw .Eq (rR (wayI (wayS 0) (xK (.int 2))) (eSub (wayI (wayS 0) (xK (.int 2))) (eS 0) (eK (.int 2)))) (eK (.int 0)))) (tE (eCmp C__law_draw .Lt (mFrz (eSub (wayI (wayS 0) (xK (.int 1))) (eS 0) (eK (.int 1)))) (eLen (rR (wayI (wayS 0) (xK (.int 0))) (eSub (wayI (wayS 0) (xK (.int 0))) (eS 0) (eK (.int 0)))))))) (qS [(sAsg 2 (eBf "int" [(eSub (wayI (wayI (wayS 0) (xK (.int 0))) (xP (wayI (wayS 0) (xK (.int 1))))) (eSub (wayI (wayS 0) (xK (.int 0))) (eS 0) (eK (.int 0))) (eSub (wayI (wayS 0) (xK (.int 1))) (eS 0) (eK (.int 1))))])), (sSetI (wayS 0) (xK (.int 1)) (eBin .Add (eSub (wayI (wayS 0) (xK (.int 1))) (eS 0) (eK (.int 1))) (eK (.int 1)))), (sIf (tE (eCmp C__law_draw .GtE (mFrz (eBf "abs" [(eS 2)])) (eBin .Pow (eK (.int 10)) (eK (.int 18))))) (qS [(sSetI (wayS 0) (xK (.int 2)) (eBf "abs" [(eS 2)]))]) (qS [(sSetI (wayS 0) (xK (.int 3)) (eBin .Mod (eBf "int" [(eBin .Add (eBin .Add (eBin .Mult (eSub (wayI (wayS 0) (xK (.int 3))) (eS 0) (eK (.int 3))) (eK (.int 43889))) (eBin .Mult (eBin .Mod (eBf "int" [(eS 2)]) (eK (.int 1000639))) (eK (.int 773)))) (eK (.int 29)))]) (eK (.int 2147483587))))]))]) (qS [])), (sIf (tE (eCmp C__law_draw .Gt (rR (wayI (wayS 0) (xK (.int 2))) (eSub (wayI (wayS 0) (xK (.int 2))) (eS 0) (eK (.int 2)))) (eK (.int 0)))) (qS [(sAsg 3 (eBin .Mod (eBf "int" [(eSub (wayI (wayS 0) (xK (.int 2))) (eS 0) (eK (.int 2)))]) (eS 1))), (sSetI (wayS 0) (xK (.int 2)) (eBin .FloorDiv (eSub (wayI (wayS 0) (xK (.int 2))) (eS 0) (eK (.int 2))) (eS 1))), (sRetS 3)]) (qS [])), (sAsg 4 (eBf "int" [(eSub (wayI (wayS 0) (xK (.int 3))) (eS 0) (eK (.int 3)))])), (sSetI (wayS 0) (xK (.int 3)) (eBin .Mod (eBf "int" [(eBin .Add (eBin .Add (eBin .Add (eBin .Pow (eS 4) (eK (.int 3))) (eBin .Mult (eS 4) (eK (.int 47111)))) (eBin .Mult (eSub (wayI (wayS 0) (xK (.int 4))) (eS 0) (eK (.int 4))) (eK (.int 110323)))) (eK (.int 60089)))]) (eK (.int 2147483549)))), (sRet (eBin .Mod (eBf "int" [(eBin .Add (eBin .FloorDiv (eSub (wayI (wayS 0) (xK (.int 3))) (eS 0) (eK (.int 3))) (eK (.int 71))) (eBin .Mult (eBin .Mod (eBf "int" [(eSub (wayI (wayS 0) (xK (.int 3))) (eS 0) (eK (.int 3)))]) (eK (.int 8017))) (eK (.int 59))))]) (eS 1)))])
theorem S__law_draw_ok : ∀ η, evSs C__law_draw hFuel (defBody s__law_draw) η = S__law_draw η := by
  intro η
  kernel_rfl
def F__law_draw : Fn := ⟨2, [plainShape 2], P__law_draw, runC 5 2 P__law_draw S__law_draw⟩
theorem kp__law_draw_0 : F__law_draw.keep 0 = true := rfl
theorem kp__law_draw_1 : F__law_draw.keep 1 = true := rfl
def g9 : Str → Option G := putG g8 "_law_draw" (.fn F__law_draw)
def N__law_of : List Str := ["_law_bag_here", "_law_some"]
def P__law_of : Nat → Bool := fun i => decide (i = 0) || decide (i = 1)
def C__law_of : Cs := ⟨N__law_of, defScope s__law_of, g9, hFree, P__law_of, none, hWf⟩
def S__law_of : SM := (qS [(sRet (eSub (wayI (wayS 1) xNo) (eS 1) (eCall F__law_draw (plainShape 2) [(aS 0), (aE (eLen (rR (wayS 1) (eS 1))))] [])))])
theorem S__law_of_ok : ∀ η, evSs C__law_of hFuel (defBody s__law_of) η = S__law_of η := by
  intro η
  kernel_rfl
def F__law_of : Fn := ⟨2, [plainShape 2], P__law_of, runC 2 2 P__law_of S__law_of⟩
theorem kp__law_of_0 : F__law_of.keep 0 = true := rfl
theorem kp__law_of_1 : F__law_of.keep 1 = true := rfl
def g10 : Str → Option G := putG g9 "_law_of" (.fn F__law_of)
def N__law_same : List Str := ["_law_found", "_law_due_here", "_law_p", "_law_q"]
def P__law_same : Nat → Bool := fun i => decide (i = 0) || decide (i = 1)
def R__law_same (run : List D → Option FRes) : Fn := ⟨2, [plainShape 2], P__law_same, run⟩
def C__law_same (run : List D → Option FRes) : Cs := ⟨N__law_same, defScope s__law_same, putG g10 "_law_same" (.fn (R__law_same run)), hFree, P__law_same, none, hWf⟩
def S__law_same (run : List D → Option FRes) : SM := (qS [(sIf (tE (eIsa (C__law_same run) ["list", "tuple"] (rR (wayS 1) (eS 1)))) (qS [(sIf (tOr (tE (eCmp (C__law_same run) .NotEq (mFrz (eIsa (C__law_same run) ["list"] (rR (wayS 0) (eS 0)))) (eIsa (C__law_same run) ["list"] (rR (wayS 1) (eS 1))))) (tE (eCmp (C__law_same run) .NotEq (mFrz (eIsa (C__law_same run) ["tuple"] (rR (wayS 0) (eS 0)))) (eIsa (C__law_same run) ["tuple"] (rR (wayS 1) (eS 1)))))) (qS [(sRet (eK (.bl false)))]) (qS [])), (sRet (eAnd (eCmp (C__law_same run) .Eq (mFrz (eLen (rR (wayS 0) (eS 0)))) (eLen (rR (wayS 1) (eS 1)))) (eO "all" (mFrz (eLc [2, 3] (bT [2, 3]) tY (eCall (R__law_same run) (plainShape 2) [(aS 2), (aS 3)] []) (iZp (eS 0) (eS 1)))))))]) (qS [])), (sIf (tE (eIsa (C__law_same run) ["list", "tuple"] (rR (wayS 0) (eS 0)))) (qS [(sRet (eK (.bl false)))]) (qS [])), (sIf (tOr (tE (eCmp (C__law_same run) .Is (rR (wayS 1) (eS 1)) (eK .non))) (tE (eCmp (C__law_same run) .Is (rR (wayS 0) (eS 0)) (eK .non)))) (qS [(sRet (eAnd (eCmp (C__law_same run) .Is (rR (wayS 1) (eS 1)) (eK .non)) (eCmp (C__law_same run) .Is (rR (wayS 0) (eS 0)) (eK .non))))]) (qS [])), (sIf (tOr (tE (eIsa (C__law_same run) ["bool"] (rR (wayS 1) (eS 1)))) (tE (eIsa (C__law_same run) ["bool"] (rR (wayS 0) (eS 0))))) (qS [(sRet (eAnd (eIsa (C__law_same run) ["bool"] (rR (wayS 1) (eS 1))) (eAnd (eIsa (C__law_same run) ["bool"] (rR (wayS 0) (eS 0))) (eCmp (C__law_same run) .Eq (rR (wayS 0) (eS 0)) (rR (wayS 1) (eS 1))))))]) (qS [])), (sIf (tOr (tE (eIsa (C__law_same run) ["int"] (rR (wayS 1) (eS 1)))) (tE (eIsa (C__law_same run) ["int"] (rR (wayS 0) (eS 0))))) (qS [(sRet (eAnd (eIsa (C__law_same run) ["int"] (rR (wayS 1) (eS 1))) (eAnd (eIsa (C__law_same run) ["int"] (rR (wayS 0) (eS 0))) (eCmp (C__law_same run) .Eq (rR (wayS 0) (eS 0)) (rR (wayS 1) (eS 1))))))]) (qS [])), (sIf (tOr (tE (eIsa (C__law_same run) ["str"] (rR (wayS 1) (eS 1)))) (tE (eIsa (C__law_same run) ["str"] (rR (wayS 0) (eS 0))))) (qS [(sRet (eAnd (eIsa (C__law_same run) ["str"] (rR (wayS 1) (eS 1))) (eAnd (eIsa (C__law_same run) ["str"] (rR (wayS 0) (eS 0))) (eCmp (C__law_same run) .Eq (rR (wayS 0) (eS 0)) (rR (wayS 1) (eS 1))))))]) (qS [])), (sRet (eCmp (C__law_same run) .Eq (rR (wayS 0) (eS 0)) (rR (wayS 1) (eS 1))))])
theorem S__law_same_ok : ∀ run η, evSs (C__law_same run) hFuel (defBody s__law_same) η = S__law_same run η := by
  intro run η
  kernel_rfl
theorem isa__law_same_0_non {run : List D → Option FRes} : (C__law_same run).isaAny .non ["bool"] = some false := by kernel_rfl
theorem isa__law_same_0_bl {run : List D → Option FRes} {b : Bool} : (C__law_same run).isaAny (.bl b) ["bool"] = some true := by kernel_rfl
theorem isa__law_same_0_int {run : List D → Option FRes} {i : Int} : (C__law_same run).isaAny (.int i) ["bool"] = some false := by kernel_rfl
theorem isa__law_same_0_str {run : List D → Option FRes} {s : Str} : (C__law_same run).isaAny (.str s) ["bool"] = some false := by kernel_rfl
theorem isa__law_same_0_lst {run : List D → Option FRes} {o : Bool} {xs : List D} : (C__law_same run).isaAny (.node .lst o xs) ["bool"] = some false := by kernel_rfl
theorem isa__law_same_0_rol {run : List D → Option FRes} {o : Bool} {xs : List D} : (C__law_same run).isaAny (.node .rol o xs) ["bool"] = some false := by kernel_rfl
theorem isa__law_same_0_tup {run : List D → Option FRes} {o : Bool} {xs : List D} : (C__law_same run).isaAny (.node .tup o xs) ["bool"] = some false := by kernel_rfl
theorem isa__law_same_0_oBook {run : List D → Option FRes} {fs : List Str} {o : Bool} {xs : List D} : (C__law_same run).isaAny (.node (.obj "Book" fs) o xs) ["bool"] = some false := by kernel_rfl
theorem isa__law_same_1_non {run : List D → Option FRes} : (C__law_same run).isaAny .non ["int"] = some false := by kernel_rfl
theorem isa__law_same_1_bl {run : List D → Option FRes} {b : Bool} : (C__law_same run).isaAny (.bl b) ["int"] = some true := by kernel_rfl
theorem isa__law_same_1_int {run : List D → Option FRes} {i : Int} : (C__law_same run).isaAny (.int i) ["int"] = some true := by kernel_rfl
theorem isa__law_same_1_str {run : List D → Option FRes} {s : Str} : (C__law_same run).isaAny (.str s) ["int"] = some false := by kernel_rfl
theorem isa__law_same_1_lst {run : List D → Option FRes} {o : Bool} {xs : List D} : (C__law_same run).isaAny (.node .lst o xs) ["int"] = some false := by kernel_rfl
theorem isa__law_same_1_rol {run : List D → Option FRes} {o : Bool} {xs : List D} : (C__law_same run).isaAny (.node .rol o xs) ["int"] = some false := by kernel_rfl
theorem isa__law_same_1_tup {run : List D → Option FRes} {o : Bool} {xs : List D} : (C__law_same run).isaAny (.node .tup o xs) ["int"] = some false := by kernel_rfl
theorem isa__law_same_1_oBook {run : List D → Option FRes} {fs : List Str} {o : Bool} {xs : List D} : (C__law_same run).isaAny (.node (.obj "Book" fs) o xs) ["int"] = some false := by kernel_rfl
theorem isa__law_same_2_non {run : List D → Option FRes} : (C__law_same run).isaAny .non ["list"] = some false := by kernel_rfl
theorem isa__law_same_2_bl {run : List D → Option FRes} {b : Bool} : (C__law_same run).isaAny (.bl b) ["list"] = some false := by kernel_rfl
theorem isa__law_same_2_int {run : List D → Option FRes} {i : Int} : (C__law_same run).isaAny (.int i) ["list"] = some false := by kernel_rfl
theorem isa__law_same_2_str {run : List D → Option FRes} {s : Str} : (C__law_same run).isaAny (.str s) ["list"] = some false := by kernel_rfl
theorem isa__law_same_2_lst {run : List D → Option FRes} {o : Bool} {xs : List D} : (C__law_same run).isaAny (.node .lst o xs) ["list"] = some true := by kernel_rfl
theorem isa__law_same_2_rol {run : List D → Option FRes} {o : Bool} {xs : List D} : (C__law_same run).isaAny (.node .rol o xs) ["list"] = some true := by kernel_rfl
theorem isa__law_same_2_tup {run : List D → Option FRes} {o : Bool} {xs : List D} : (C__law_same run).isaAny (.node .tup o xs) ["list"] = some false := by kernel_rfl
theorem isa__law_same_2_oBook {run : List D → Option FRes} {fs : List Str} {o : Bool} {xs : List D} : (C__law_same run).isaAny (.node (.obj "Book" fs) o xs) ["list"] = some false := by kernel_rfl
theorem isa__law_same_3_non {run : List D → Option FRes} : (C__law_same run).isaAny .non ["list", "tuple"] = some false := by kernel_rfl
theorem isa__law_same_3_bl {run : List D → Option FRes} {b : Bool} : (C__law_same run).isaAny (.bl b) ["list", "tuple"] = some false := by kernel_rfl
theorem isa__law_same_3_int {run : List D → Option FRes} {i : Int} : (C__law_same run).isaAny (.int i) ["list", "tuple"] = some false := by kernel_rfl
theorem isa__law_same_3_str {run : List D → Option FRes} {s : Str} : (C__law_same run).isaAny (.str s) ["list", "tuple"] = some false := by kernel_rfl
theorem isa__law_same_3_lst {run : List D → Option FRes} {o : Bool} {xs : List D} : (C__law_same run).isaAny (.node .lst o xs) ["list", "tuple"] = some true := by kernel_rfl
theorem isa__law_same_3_rol {run : List D → Option FRes} {o : Bool} {xs : List D} : (C__law_same run).isaAny (.node .rol o xs) ["list", "tuple"] = some true := by kernel_rfl
theorem isa__law_same_3_tup {run : List D → Option FRes} {o : Bool} {xs : List D} : (C__law_same run).isaAny (.node .tup o xs) ["list", "tuple"] = some true := by kernel_rfl
theorem isa__law_same_3_oBook {run : List D → Option FRes} {fs : List Str} {o : Bool} {xs : List D} : (C__law_same run).isaAny (.node (.obj "Book" fs) o xs) ["list", "tuple"] = some false := by kernel_rfl
theorem isa__law_same_4_non {run : List D → Option FRes} : (C__law_same run).isaAny .non ["str"] = some false := by kernel_rfl
theorem isa__law_same_4_bl {run : List D → Option FRes} {b : Bool} : (C__law_same run).isaAny (.bl b) ["str"] = some false := by kernel_rfl
theorem isa__law_same_4_int {run : List D → Option FRes} {i : Int} : (C__law_same run).isaAny (.int i) ["str"] = some false := by kernel_rfl
theorem isa__law_same_4_str {run : List D → Option FRes} {s : Str} : (C__law_same run).isaAny (.str s) ["str"] = some true := by kernel_rfl
theorem isa__law_same_4_lst {run : List D → Option FRes} {o : Bool} {xs : List D} : (C__law_same run).isaAny (.node .lst o xs) ["str"] = some false := by kernel_rfl
theorem isa__law_same_4_rol {run : List D → Option FRes} {o : Bool} {xs : List D} : (C__law_same run).isaAny (.node .rol o xs) ["str"] = some false := by kernel_rfl
theorem isa__law_same_4_tup {run : List D → Option FRes} {o : Bool} {xs : List D} : (C__law_same run).isaAny (.node .tup o xs) ["str"] = some false := by kernel_rfl
theorem isa__law_same_4_oBook {run : List D → Option FRes} {fs : List Str} {o : Bool} {xs : List D} : (C__law_same run).isaAny (.node (.obj "Book" fs) o xs) ["str"] = some false := by kernel_rfl
theorem isa__law_same_5_non {run : List D → Option FRes} : (C__law_same run).isaAny .non ["tuple"] = some false := by kernel_rfl
theorem isa__law_same_5_bl {run : List D → Option FRes} {b : Bool} : (C__law_same run).isaAny (.bl b) ["tuple"] = some false := by kernel_rfl
theorem isa__law_same_5_int {run : List D → Option FRes} {i : Int} : (C__law_same run).isaAny (.int i) ["tuple"] = some false := by kernel_rfl
theorem isa__law_same_5_str {run : List D → Option FRes} {s : Str} : (C__law_same run).isaAny (.str s) ["tuple"] = some false := by kernel_rfl
theorem isa__law_same_5_lst {run : List D → Option FRes} {o : Bool} {xs : List D} : (C__law_same run).isaAny (.node .lst o xs) ["tuple"] = some false := by kernel_rfl
theorem isa__law_same_5_rol {run : List D → Option FRes} {o : Bool} {xs : List D} : (C__law_same run).isaAny (.node .rol o xs) ["tuple"] = some false := by kernel_rfl
theorem isa__law_same_5_tup {run : List D → Option FRes} {o : Bool} {xs : List D} : (C__law_same run).isaAny (.node .tup o xs) ["tuple"] = some true := by kernel_rfl
theorem isa__law_same_5_oBook {run : List D → Option FRes} {fs : List Str} {o : Bool} {xs : List D} : (C__law_same run).isaAny (.node (.obj "Book" fs) o xs) ["tuple"] = some false := by kernel_rfl
def L__law_same : Nat → List D → Option FRes
  | 0 => fun _ => none
  | n + 1 => runC 4 2 P__law_same (S__law_same (L__law_same n))
def F__law_same : Fn := R__law_same (L__law_same 6)
def g11 : Str → Option G := putG g10 "_law_same" (.fn F__law_same)
theorem kp__law_same_0 {run : List D → Option FRes} : (R__law_same run).keep 0 = true := rfl
theorem kq__law_same_0 : F__law_same.keep 0 = true := rfl
theorem kp__law_same_1 {run : List D → Option FRes} : (R__law_same run).keep 1 = true := rfl
theorem kq__law_same_1 : F__law_same.keep 1 = true := rfl
def N__law_placed : List Str := ["_law_bag_here", "_law_kids", "_law_row", "_law_k"]
def P__law_placed : Nat → Bool := fun i => decide (i = 0) || decide (i = 1)
def C__law_placed : Cs := ⟨N__law_placed, defScope s__law_placed, g11, hFree, P__law_placed, none, hWf⟩
def S__law_placed : SM := (qS [(sAsg 2 (eO "list" (rO (wayS 1) (eS 1)))), (sFor (bS 3) (iR1 (eBin .Sub (eK (.int 4)) (eLen (rR (wayS 1) (eS 1))))) (qS [(sExp (eMeth C__law_placed "insert" 3 [] (wayS 2) (eS 2) true [(eCall F__law_draw (plainShape 2) [(aS 0), (aE (eBin .Add (eLen (rR (wayS 2) (eS 2))) (eK (.int 1))))] []), (eK .non)] [xNo, (xK .non)] [(aE (eCall F__law_draw (plainShape 2) [(aS 0), (aE (eBin .Add (eLen (rR (wayS 2) (eS 2))) (eK (.int 1))))] [])), (aE (eK .non))] []))])), (sRetS 2)])
theorem S__law_placed_ok : ∀ η, evSs C__law_placed hFuel (defBody s__law_placed) η = S__law_placed η := by
  intro η
  kernel_rfl
def F__law_placed : Fn := ⟨2, [plainShape 2], P__law_placed, runC 4 2 P__law_placed S__law_placed⟩
theorem kp__law_placed_0 : F__law_placed.keep 0 = true := rfl
theorem kp__law_placed_1 : F__law_placed.keep 1 = true := rfl
def g12 : Str → Option G := putG g11 "_law_placed" (.fn F__law_placed)
def N__law_free : List Str := ["_law_bag_here", "_law_hue", "_law_many", "_law_spots", "_law_found", "_law_k", "_law_tint", "_law_kids", "_law_n"]
def P__law_free : Nat → Bool := fun i => decide (i = 0) || decide (i = 1)
def C__law_free : Cs := ⟨N__law_free, defScope s__law_free, g12, hFree, P__law_free, none, hWf⟩
def S__law_free : SM := (qS [(sAsg 2 (eBin .Add (eK (.int 1)) (eCall F__law_draw (plainShape 2) [(aS 0), (aE (eK (.int 4)))] []))), (sAsg 3 (eCall F__law_of (plainShape 2) [(aS 0), (aE (eLst [(eLst [(eK (.int 0)), (eK (.int 1))]), (eLst [(eK (.int 0)), (eK (.int 1)), (eK (.int 2))]), (eLst [(eK (.int 1)), (eK (.int 3))]), (eLst [(eK (.int 0)), (eK (.int 2)), (eK (.int 3))]), (eLst [(eK (.int 2))]), (eLst [(eK (.int 0)), (eK (.int 1)), (eK (.int 2)), (eK (.int 3))]), (eLst [(eK (.int 0)), (eK (.int 1))]), (eLst [(eK (.int 1)), (eK (.int 2))])]))] [])), (sAsg 4 (eLst [])), (sFor (bS 5) (iR1 (eS 2)) (qS [(sAsg 6 (eIf (tE (eCmp C__law_free .Eq (eCall F__law_draw (plainShape 2) [(aS 0), (aE (eK (.int 2)))] []) (eK (.int 0)))) (eCall F__law_of (plainShape 2) [(aS 0), (aS 1)] []) (eK (.str "")))), (sAsg 7 (eLc [8] (bS 8) tY (eIf (tE (eCmp C__law_free .In (rR (wayS 8) (eS 8)) (rR (wayS 3) (eS 3)))) (eCall F__law_of (plainShape 2) [(aS 0), (aE (eBin .Add (eRg1 "list" (eS 2)) (eLst [(eK .non)])))] []) (eK .non)) (iR1 (eK (.int 4))))), (sExp (eMeth C__law_free "append" 2 [] (wayS 4) (eS 4) true [(eO "tuple" (mFrz (eBin .Add (eLst [(eS 6)]) (eS 7))))] [xNo] [(aE (eO "tuple" (mFrz (eBin .Add (eLst [(eS 6)]) (eS 7)))))] []))])), (sRetS 4)])
theorem S__law_free_ok : ∀ η, evSs C__law_free hFuel (defBody s__law_free) η = S__law_free η := by
  intro η
  kernel_rfl
def F__law_free : Fn := ⟨2, [plainShape 2], P__law_free, runC 9 2 P__law_free S__law_free⟩
theorem kp__law_free_0 : F__law_free.keep 0 = true := rfl
theorem kp__law_free_1 : F__law_free.keep 1 = true := rfl
def g13 : Str → Option G := putG g12 "_law_free" (.fn F__law_free)
def N__law_grown : List Str := ["_law_bag_here", "_law_hue", "_law_many", "_law_found", "_law_k", "_law_p", "_law_q", "_law_kids", "_law_tint"]
def P__law_grown : Nat → Bool := fun i => decide (i = 0) || decide (i = 1)
def C__law_grown : Cs := ⟨N__law_grown, defScope s__law_grown, g13, hFree, P__law_grown, none, hWf⟩
def S__law_grown : SM := (qS [(sAsg 2 (eBin .Add (eK (.int 2)) (eCall F__law_draw (plainShape 2) [(aS 0), (aE (eK (.int 4)))] []))), (sAsg 3 (eLst [(eTup [(eCall F__law_of (plainShape 2) [(aS 0), (aS 1)] []), (eK .non), (eK .non), (eK .non), (eK .non)])])), (sFor (bS 4) (iR3 (eBin .Sub (eS 2) (eK (.int 2))) (eNeg (eK (.int 1))) (eNeg (eK (.int 1)))) (qS [(sPar 5 6 (eBin .Add (eBin .Add (eS 4) (eK (.int 1))) (eCall F__law_draw (plainShape 2) [(aS 0), (aE (eBin .Sub (eBin .Sub (eS 2) (eS 4)) (eK (.int 1))))] [])) (eBin .Add (eBin .Add (eS 4) (eK (.int 1))) (eCall F__law_draw (plainShape 2) [(aS 0), (aE (eBin .Sub (eBin .Sub (eS 2) (eS 4)) (eK (.int 1))))] []))), (sAsg 7 (eCall F__law_of (plainShape 2) [(aS 0), (aE (eLst [(eLst [(eS 5), (eS 6)]), (eLst [(eS 5), (eS 4)]), (eLst [(eS 4), (eS 5)]), (eLst [(eS 4), (eS 5), (eS 4)]), (eLst [(eS 5), (eS 4), (eS 6)]), (eLst [(eS 5), (eS 6), (eS 5)]), (eLst [(eS 4), (eS 5), (eS 4), (eS 6)]), (eLst [(eS 5)])]))] [])), (sAsg 8 (eCall F__law_of (plainShape 2) [(aS 0), (aE (eLst [(eK (.str "")), (eK (.str "")), (eK (.str "")), (eCall F__law_of (plainShape 2) [(aS 0), (aS 1)] [])]))] [])), (sAsg 3 (eBin .Add (eLst [(eO "tuple" (mFrz (eBin .Add (eLst [(eS 8)]) (eCall F__law_placed (plainShape 2) [(aS 0), (aS 7)] []))))]) (eS 3)))])), (sRetS 3)])
theorem S__law_grown_ok : ∀ η, evSs C__law_grown hFuel (defBody s__law_grown) η = S__law_grown η := by
  intro η
  kernel_rfl
def F__law_grown : Fn := ⟨2, [plainShape 2], P__law_grown, runC 9 2 P__law_grown S__law_grown⟩
theorem kp__law_grown_0 : F__law_grown.keep 0 = true := rfl
theorem kp__law_grown_1 : F__law_grown.keep 1 = true := rfl
def g14 : Str → Option G := putG g13 "_law_grown" (.fn F__law_grown)
def N__law_shape : List Str := ["_law_bag_here", "_law_hue", "_law_c", "_law_d", "_law_forms", "_law_tint", "_law_kids"]
def P__law_shape : Nat → Bool := fun i => decide (i = 0) || decide (i = 1)
def C__law_shape : Cs := ⟨N__law_shape, defScope s__law_shape, g14, hFree, P__law_shape, none, hWf⟩
def S__law_shape : SM := (qS [(sPar 2 3 (eCall F__law_of (plainShape 2) [(aS 0), (aS 1)] []) (eCall F__law_of (plainShape 2) [(aS 0), (aS 1)] [])), (sAsg 4 (eLst [(eLst [(eTup [(eS 2), (eLst [(eK (.int 0)), (eK (.int 0))])])]), (eLst [(eTup [(eK (.str "")), (eLst [(eK (.int 1)), (eK (.int 0))])]), (eTup [(eS 2), (eLst [])])]), (eLst [(eTup [(eK (.str "")), (eLst [(eK (.int 0)), (eK (.int 1))])]), (eTup [(eS 2), (eLst [])])]), (eLst [(eTup [(eS 2), (eLst [(eK (.int 0)), (eK (.int 1))])]), (eTup [(eS 3), (eLst [(eK (.int 1))])])]), (eLst [(eTup [(eK (.str "")), (eLst [(eK (.int 0)), (eK (.int 1)), (eK (.int 0))])]), (eTup [(eS 2), (eLst [])])])])), (sAsg 4 (eBin .Add (eS 4) (eLst [(eLst [(eTup [(eK (.str "")), (eLst [(eK (.int 0)), (eK (.int 1)), (eK (.int 0)), (eK (.int 2))])]), (eTup [(eS 2), (eLst [])]), (eTup [(eS 3), (eLst [])])]), (eLst [(eTup [(eS 2), (eLst [(eK (.int 1)), (eK (.int 1))])]), (eTup [(eS 3), (eLst [(eK (.int 0)), (eK (.int 0))])])]), (eLst [(eTup [(eK (.str "")), (eLst [(eK (.int 0))])])]), (eLst [(eTup [(eS 2), (eLst [(eK (.int 0))])])]), (eLst [(eTup [(eS 2), (eLst [])])])]))), (sAsg 4 (eBin .Add (eS 4) (eLst [(eLst [(eTup [(eS 2), (eLst [(eK (.int 1)), (eK (.int 2))])]), (eTup [(eK (.str "")), (eLst [(eK (.int 1)), (eK (.int 1))])]), (eTup [(eS 3), (eLst [])])]), (eLst [(eTup [(eK (.str "")), (eLst [(eK (.int 1)), (eK (.int 2))])]), (eTup [(eK (.str "")), (eLst [(eK (.int 1)), (eK (.int 3))])]), (eTup [(eK (.str "")), (eLst [(eK (.int 3)), (eK (.int 2))])]), (eTup [(eS 2), (eLst [])])]), (eLst [(eTup [(eS 2), (eLst [(eK (.int 0)), (eK (.int 1)), (eK (.int 0))])]), (eTup [(eS 3), (eLst [])])])]))), (sAsg 4 (eBin .Add (eS 4) (eLst [(eLst [(eTup [(eK (.str "")), (eLst [(eK (.int 2)), (eK (.int 1))])]), (eTup [(eK (.str "")), (eLst [(eK (.int 2)), (eK (.int 1))])]), (eTup [(eS 2), (eLst [])])]), (eLst [(eTup [(eK (.str "")), (eLst [(eK (.int 1)), (eK (.int 0)), (eK (.int 2))])]), (eTup [(eS 2), (eLst [(eK (.int 1))])]), (eTup [(eS 3), (eLst [])])]), (eLst [(eTup [(eS 2), (eLst [(eK (.int 1)), (eK (.int 2)), (eK (.int 3))])]), (eTup [(eS 3), (eLst [])]), (eTup [(eS 2), (eLst [])]), (eTup [(eS 3), (eLst [(eK (.int 2)), (eK (.int 2))])])])]))), (sRet (eLc [5, 6] (bT [5, 6]) tY (eO "tuple" (mFrz (eBin .Add (eLst [(eS 5)]) (eCall F__law_placed (plainShape 2) [(aS 0), (aS 6)] [])))) (iE (eCall F__law_of (plainShape 2) [(aS 0), (aS 4)] []))))])
theorem S__law_shape_ok : ∀ η, evSs C__law_shape hFuel (defBody s__law_shape) η = S__law_shape η := by
  intro η
  kernel_rfl
def F__law_shape : Fn := ⟨2, [plainShape 2], P__law_shape, runC 7 2 P__law_shape S__law_shape⟩
theorem kp__law_shape_0 : F__law_shape.keep 0 = true := rfl
theorem kp__law_shape_1 : F__law_shape.keep 1 = true := rfl
def g15 : Str → Option G := putG g14 "_law_shape" (.fn F__law_shape)
def N__law_net : List Str := ["_law_bag_here", "_law_hue", "_law_way"]
def P__law_net : Nat → Bool := fun i => decide (i = 0)
def C__law_net : Cs := ⟨N__law_net, defScope s__law_net, g15, hFree, P__law_net, none, hWf⟩
def S__law_net : SM := (qS [(sAsg 1 (eCall F__law_of (plainShape 2) [(aS 0), (aE (eLst [(eK (.str "x")), (eK (.str "xy")), (eK (.str "y")), (eK (.str "xyz")), (eK (.str "zx"))]))] [])), (sAsg 2 (eCall F__law_draw (plainShape 2) [(aS 0), (aE (eK (.int 9)))] [])), (sIf (tE (eCmp C__law_net .Lt (rR (wayS 2) (eS 2)) (eK (.int 3)))) (qS [(sRet (eCall F__law_free (plainShape 2) [(aS 0), (aS 1)] []))]) (qS [])), (sRet (eIf (tE (eCmp C__law_net .Lt (rR (wayS 2) (eS 2)) (eK (.int 6)))) (eCall F__law_grown (plainShape 2) [(aS 0), (aS 1)] []) (eCall F__law_shape (plainShape 2) [(aS 0), (aS 1)] [])))])
theorem S__law_net_ok : ∀ η, evSs C__law_net hFuel (defBody s__law_net) η = S__law_net η := by
  intro η
  kernel_rfl
def F__law_net : Fn := ⟨1, [plainShape 1], P__law_net, runC 3 1 P__law_net S__law_net⟩
theorem kp__law_net_0 : F__law_net.keep 0 = true := rfl
def g16 : Str → Option G := putG g15 "_law_net" (.fn F__law_net)
def N__law_any : List Str := ["_law_bag_here", "_law_more", "_law_menu"]
def P__law_any : Nat → Bool := fun i => decide (i = 0) || decide (i = 1)
def C__law_any : Cs := ⟨N__law_any, defScope s__law_any, g16, hFree, P__law_any, none, hWf⟩
def S__law_any : SM := (qS [(sAsg 2 (eLst [(eK .non), (eK (.bl true)), (eK (.bl false)), (eK (.int 0)), (eK (.int 1)), (eNeg (eK (.int 1))), (eK (.int 7)), (eBin .Pow (eK (.int 10)) (eK (.int 30))), (eK (.str "")), (eK (.str "a")), (eK (.str "x")), (eK (.str "-")), (eK (.str "ab")), (eK (.str "e")), (eTup []), (eLst []), (eTup [(eK (.str "a"))]), (eLst [(eK (.str "a"))]), (eTup [(eK (.int 1)), (eK (.int 2))]), (eTup [(eTup [])]), (eK (.str "X")), (eK (.str "a\n")), (eK (.str " "))])), (sRet (eCall F__law_of (plainShape 2) [(aS 0), (aE (eBin .Add (eBin .Add (eS 2) (eLst [(eTup [(eK (.str "x")), (eK .non), (eK .non), (eK .non), (eK .non)]), (eLst [(eTup [(eK (.str "a")), (eK (.int 1))])])])) (eS 1)))] []))])
theorem S__law_any_ok : ∀ η, evSs C__law_any hFuel (defBody s__law_any) η = S__law_any η := by
  intro η
  kernel_rfl
def F__law_any : Fn := ⟨2, [plainShape 2], P__law_any, runC 3 2 P__law_any S__law_any⟩
theorem kp__law_any_0 : F__law_any.keep 0 = true := rfl
theorem kp__law_any_1 : F__law_any.keep 1 = true := rfl
def g17 : Str → Option G := putG g16 "_law_any" (.fn F__law_any)
def N__law_made : List Str := ["_law_v", "_law_named", "e"]
def P__law_made : Nat → Bool := fun i => decide (i = 0) || decide (i = 1)
def C__law_made : Cs := ⟨N__law_made, defScope s__law_made, g17, hFree, P__law_made, none, hWf⟩
def S__law_made : SM := (qS [(sTry (qS [(sRet (eTup [(eK (.str "made")), (eIf (tE (rR (wayS 1) (eS 1))) (eMethE C__law_made "nodes" 1 [] (eNew "Book" F_Book___init__ (kwShape2 "nodes") [] [(aS 0)]) [] []) (eMethE C__law_made "nodes" 1 [] (eNew "Book" F_Book___init__ (plainShape 2) [(aS 0)] []) [] []))]))]) (tryH C__law_made 58 (stH (stN (defBody s__law_made) 0))))])
theorem S__law_made_ok : ∀ η, evSs C__law_made hFuel (defBody s__law_made) η = S__law_made η := by
  intro η
  kernel_rfl
def F__law_made : Fn := ⟨2, [plainShape 2], P__law_made, runC 3 2 P__law_made S__law_made⟩
theorem kp__law_made_0 : F__law_made.keep 0 = true := rfl
theorem kp__law_made_1 : F__law_made.keep 1 = true := rfl
def g18 : Str → Option G := putG g17 "_law_made" (.fn F__law_made)
def N__law_is_node : List Str := ["_law_v", "_law_many", "_law_kid"]
def P__law_is_node : Nat → Bool := fun i => decide (i = 0) || decide (i = 1)
def C__law_is_node : Cs := ⟨N__law_is_node, defScope s__law_is_node, g18, hFree, P__law_is_node, none, hWf⟩
def S__law_is_node : SM := (qS [(sIf (tOr (tNot (tE (eIsa C__law_is_node ["tuple"] (rR (wayS 0) (eS 0))))) (tOr (tE (eCmp C__law_is_node .NotEq (eLen (rR (wayS 0) (eS 0))) (eK (.int 5)))) (tOr (tNot (tE (eIsa C__law_is_node ["str"] (rR (wayI (wayS 0) (xK (.int 0))) (eSub (wayI (wayS 0) (xK (.int 0))) (eS 0) (eK (.int 0))))))) (tE (eCmp C__law_is_node .NotIn (mFrz (eSub (wayI (wayS 0) (xK (.int 0))) (eS 0) (eK (.int 0)))) (eLst [(eK (.str "")), (eK (.str "x")), (eK (.str "y")), (eK (.str "z"))])))))) (qS [(sRet (eK (.bl false)))]) (qS [])), (sRet (eCmp C__law_is_node .Eq (mFrz (eLc [2] (bS 2) (tAnd (tE (eCmp C__law_is_node .IsNot (rR (wayS 2) (eS 2)) (eK .non))) (tOr (tNot (tE (eIsa C__law_is_node ["int"] (rR (wayS 2) (eS 2))))) (tOr (tE (eIsa C__law_is_node ["bool"] (rR (wayS 2) (eS 2)))) (tOr (tE (eCmp C__law_is_node .Lt (rR (wayS 2) (eS 2)) (eK (.int 0)))) (tE (eCmp C__law_is_node .GtE (rR (wayS 2) (eS 2)) (rR (wayS 1) (eS 1)))))))) (eS 2) (iE (eCut (eS 0) (ptE (eK (.int 1))) ptN)))) (eLst [])))])
theorem S__law_is_node_ok : ∀ η, evSs C__law_is_node hFuel (defBody s__law_is_node) η = S__law_is_node η := by
  intro η
  kernel_rfl
theorem isa__law_is_node_0_non : C__law_is_node.isaAny .non ["bool"] = some false := by kernel_rfl
theorem isa__law_is_node_0_bl {b : Bool} : C__law_is_node.isaAny (.bl b) ["bool"] = some true := by kernel_rfl
theorem isa__law_is_node_0_int {i : Int} : C__law_is_node.isaAny (.int i) ["bool"] = some false := by kernel_rfl
theorem isa__law_is_node_0_str {s : Str} : C__law_is_node.isaAny (.str s) ["bool"] = some false := by kernel_rfl
theorem isa__law_is_node_0_lst {o : Bool} {xs : List D} : C__law_is_node.isaAny (.node .lst o xs) ["bool"] = some false := by kernel_rfl
theorem isa__law_is_node_0_rol {o : Bool} {xs : List D} : C__law_is_node.isaAny (.node .rol o xs) ["bool"] = some false := by kernel_rfl
theorem isa__law_is_node_0_tup {o : Bool} {xs : List D} : C__law_is_node.isaAny (.node .tup o xs) ["bool"] = some false := by kernel_rfl
theorem isa__law_is_node_0_oBook {fs : List Str} {o : Bool} {xs : List D} : C__law_is_node.isaAny (.node (.obj "Book" fs) o xs) ["bool"] = some false := by kernel_rfl
theorem isa__law_is_node_1_non : C__law_is_node.isaAny .non ["int"] = some false := by kernel_rfl
theorem isa__law_is_node_1_bl {b : Bool} : C__law_is_node.isaAny (.bl b) ["int"] = some true := by kernel_rfl
theorem isa__law_is_node_1_int {i : Int} : C__law_is_node.isaAny (.int i) ["int"] = some true := by kernel_rfl
theorem isa__law_is_node_1_str {s : Str} : C__law_is_node.isaAny (.str s) ["int"] = some false := by kernel_rfl
theorem isa__law_is_node_1_lst {o : Bool} {xs : List D} : C__law_is_node.isaAny (.node .lst o xs) ["int"] = some false := by kernel_rfl
theorem isa__law_is_node_1_rol {o : Bool} {xs : List D} : C__law_is_node.isaAny (.node .rol o xs) ["int"] = some false := by kernel_rfl
theorem isa__law_is_node_1_tup {o : Bool} {xs : List D} : C__law_is_node.isaAny (.node .tup o xs) ["int"] = some false := by kernel_rfl
theorem isa__law_is_node_1_oBook {fs : List Str} {o : Bool} {xs : List D} : C__law_is_node.isaAny (.node (.obj "Book" fs) o xs) ["int"] = some false := by kernel_rfl
theorem isa__law_is_node_2_non : C__law_is_node.isaAny .non ["str"] = some false := by kernel_rfl
theorem isa__law_is_node_2_bl {b : Bool} : C__law_is_node.isaAny (.bl b) ["str"] = some false := by kernel_rfl
theorem isa__law_is_node_2_int {i : Int} : C__law_is_node.isaAny (.int i) ["str"] = some false := by kernel_rfl
theorem isa__law_is_node_2_str {s : Str} : C__law_is_node.isaAny (.str s) ["str"] = some true := by kernel_rfl
theorem isa__law_is_node_2_lst {o : Bool} {xs : List D} : C__law_is_node.isaAny (.node .lst o xs) ["str"] = some false := by kernel_rfl
theorem isa__law_is_node_2_rol {o : Bool} {xs : List D} : C__law_is_node.isaAny (.node .rol o xs) ["str"] = some false := by kernel_rfl
theorem isa__law_is_node_2_tup {o : Bool} {xs : List D} : C__law_is_node.isaAny (.node .tup o xs) ["str"] = some false := by kernel_rfl
theorem isa__law_is_node_2_oBook {fs : List Str} {o : Bool} {xs : List D} : C__law_is_node.isaAny (.node (.obj "Book" fs) o xs) ["str"] = some false := by kernel_rfl
theorem isa__law_is_node_3_non : C__law_is_node.isaAny .non ["tuple"] = some false := by kernel_rfl
theorem isa__law_is_node_3_bl {b : Bool} : C__law_is_node.isaAny (.bl b) ["tuple"] = some false := by kernel_rfl
theorem isa__law_is_node_3_int {i : Int} : C__law_is_node.isaAny (.int i) ["tuple"] = some false := by kernel_rfl
theorem isa__law_is_node_3_str {s : Str} : C__law_is_node.isaAny (.str s) ["tuple"] = some false := by kernel_rfl
theorem isa__law_is_node_3_lst {o : Bool} {xs : List D} : C__law_is_node.isaAny (.node .lst o xs) ["tuple"] = some false := by kernel_rfl
theorem isa__law_is_node_3_rol {o : Bool} {xs : List D} : C__law_is_node.isaAny (.node .rol o xs) ["tuple"] = some false := by kernel_rfl
theorem isa__law_is_node_3_tup {o : Bool} {xs : List D} : C__law_is_node.isaAny (.node .tup o xs) ["tuple"] = some true := by kernel_rfl
theorem isa__law_is_node_3_oBook {fs : List Str} {o : Bool} {xs : List D} : C__law_is_node.isaAny (.node (.obj "Book" fs) o xs) ["tuple"] = some false := by kernel_rfl
def F__law_is_node : Fn := ⟨2, [plainShape 2], P__law_is_node, runC 3 2 P__law_is_node S__law_is_node⟩
theorem kp__law_is_node_0 : F__law_is_node.keep 0 = true := rfl
theorem kp__law_is_node_1 : F__law_is_node.keep 1 = true := rfl
def g19 : Str → Option G := putG g18 "_law_is_node" (.fn F__law_is_node)
def N__law_due : List Str := ["_law_v", "_law_wrong", "_law_k"]
def P__law_due : Nat → Bool := fun i => decide (i = 0)
def C__law_due : Cs := ⟨N__law_due, defScope s__law_due, g19, hFree, P__law_due, none, hWf⟩
def S__law_due : SM := (qS [(sIf (tOr (tNot (tE (eIsa C__law_due ["list", "tuple"] (rR (wayS 0) (eS 0))))) (tE (eCmp C__law_due .Eq (eLen (rR (wayS 0) (eS 0))) (eK (.int 0))))) (qS [(sRet (eTup [(eK (.str "node")), (eNeg (eK (.int 1)))]))]) (qS [])), (sIf (tE (eCmp C__law_due .Gt (eLen (rR (wayS 0) (eS 0))) (eK (.int 200)))) (qS [(sRet (eTup [(eK (.str "many")), (eLen (rR (wayS 0) (eS 0)))]))]) (qS [])), (sAsg 1 (eLc [2] (bS 2) (tNot (tE (eCall F__law_is_node (plainShape 2) [(aE (eSub (wayI (wayS 0) (xS 2)) (eS 0) (eS 2))), (aE (eLen (rR (wayS 0) (eS 0))))] []))) (eS 2) (iR1 (eLen (rR (wayS 0) (eS 0)))))), (sRet (eIf (tE (eCmp C__law_due .Eq (mFrz (eS 1)) (eLst []))) (eTup [(eK (.str "made")), (eO "list" (rO (wayS 0) (eS 0)))]) (eTup [(eK (.str "node")), (eSub (wayI (wayS 1) (xK (.int 0))) (eS 1) (eK (.int 0)))])))])
theorem S__law_due_ok : ∀ η, evSs C__law_due hFuel (defBody s__law_due) η = S__law_due η := by
  intro η
  kernel_rfl
theorem isa__law_due_0_non : C__law_due.isaAny .non ["list", "tuple"] = some false := by kernel_rfl
theorem isa__law_due_0_bl {b : Bool} : C__law_due.isaAny (.bl b) ["list", "tuple"] = some false := by kernel_rfl
theorem isa__law_due_0_int {i : Int} : C__law_due.isaAny (.int i) ["list", "tuple"] = some false := by kernel_rfl
theorem isa__law_due_0_str {s : Str} : C__law_due.isaAny (.str s) ["list", "tuple"] = some false := by kernel_rfl
theorem isa__law_due_0_lst {o : Bool} {xs : List D} : C__law_due.isaAny (.node .lst o xs) ["list", "tuple"] = some true := by kernel_rfl
theorem isa__law_due_0_rol {o : Bool} {xs : List D} : C__law_due.isaAny (.node .rol o xs) ["list", "tuple"] = some true := by kernel_rfl
theorem isa__law_due_0_tup {o : Bool} {xs : List D} : C__law_due.isaAny (.node .tup o xs) ["list", "tuple"] = some true := by kernel_rfl
theorem isa__law_due_0_oBook {fs : List Str} {o : Bool} {xs : List D} : C__law_due.isaAny (.node (.obj "Book" fs) o xs) ["list", "tuple"] = some false := by kernel_rfl
def F__law_due : Fn := ⟨1, [plainShape 1], P__law_due, runC 3 1 P__law_due S__law_due⟩
theorem kp__law_due_0 : F__law_due.keep 0 = true := rfl
def g20 : Str → Option G := putG g19 "_law_due" (.fn F__law_due)
def N__law_bent : List Str := ["_law_bag_here", "_law_item", "_law_many", "_law_lex", "_law_way", "_law_spot", "_law_kid"]
def P__law_bent : Nat → Bool := fun i => decide (i = 0) || decide (i = 1) || decide (i = 2) || decide (i = 3)
def C__law_bent : Cs := ⟨N__law_bent, defScope s__law_bent, g20, hFree, P__law_bent, none, hWf⟩
def S__law_bent : SM := (qS [(sAsg 4 (eCall F__law_draw (plainShape 2) [(aS 0), (aE (eK (.int 5)))] [])), (sIf (tE (eCmp C__law_bent .Eq (rR (wayS 4) (eS 4)) (eK (.int 0)))) (qS [(sRet (eCall F__law_any (plainShape 2) [(aS 0), (aE (eLst [(eS 3), (eO "list" (rO (wayS 1) (eS 1))), (eCut (eS 1) ptN (ptE (eK (.int 4)))), (eBin .Add (eS 1) (eTup [(eK .non)])), (eTup [(eS 1)]), (eTup [(eK (.str ""))]), (eSub (wayI (wayS 1) (xK (.int 0))) (eS 1) (eK (.int 0)))]))] []))]) (qS [])), (sIf (tE (eCmp C__law_bent .Eq (rR (wayS 4) (eS 4)) (eK (.int 1)))) (qS [(sRet (eO "tuple" (mFrz (eBin .Add (eLst [(eCall F__law_of (plainShape 2) [(aS 0), (aE (eLst [(eK (.str "w")), (eK (.str "X")), (eK (.str "xy")), (eK .non), (eK (.str "-")), (eK (.bl true)), (eK (.int 0)), (eTup [(eK (.str "x"))]), (eK (.str " ")), (eK (.str "x\n"))]))] [])]) (eO "list" (mFrz (eCut (eS 1) (ptE (eK (.int 1))) ptN)))))))]) (qS [])), (sAsg 5 (eBin .Add (eK (.int 1)) (eCall F__law_draw (plainShape 2) [(aS 0), (aE (eK (.int 4)))] []))), (sAsg 6 (eCall F__law_of (plainShape 2) [(aS 0), (aE (eLst [(eS 2), (eBin .Add (eS 2) (eK (.int 1))), (eNeg (eK (.int 1))), (eK (.bl true)), (eK (.bl false)), (eK (.str "0")), (eK (.str "")), (eTup [(eK (.int 0))]), (eLst [(eK (.int 0))]), (eBin .Pow (eK (.int 10)) (eK (.int 30))), (eNeg (eBin .Pow (eK (.int 10)) (eK (.int 30)))), (eK (.int 200)), (eS 3), (eBin .Sub (eS 2) (eK (.int 1)))]))] [])), (sRet (eBin .Add (eBin .Add (eCut (eS 1) ptN (ptE (eS 5))) (eTup [(eS 6)])) (eCut (eS 1) (ptE (eBin .Add (eS 5) (eK (.int 1)))) ptN)))])
theorem S__law_bent_ok : ∀ η, evSs C__law_bent hFuel (defBody s__law_bent) η = S__law_bent η := by
  intro η
  kernel_rfl
def F__law_bent : Fn := ⟨4, [plainShape 4], P__law_bent, runC 7 4 P__law_bent S__law_bent⟩
theorem kp__law_bent_0 : F__law_bent.keep 0 = true := rfl
theorem kp__law_bent_1 : F__law_bent.keep 1 = true := rfl
theorem kp__law_bent_2 : F__law_bent.keep 2 = true := rfl
theorem kp__law_bent_3 : F__law_bent.keep 3 = true := rfl
def g21 : Str → Option G := putG g20 "_law_bent" (.fn F__law_bent)
def N_law : List Str := ["_law_script", "_law_bag_here", "_law_plain_y", "_law_turn", "_law_net_here", "_law_k", "_law_rows", "_law_ways", "_law_spot", "_law_given", "_law_v"]
def P_law : Nat → Bool := fun i => decide (i = 0)
def C_law : Cs := ⟨N_law, defScope s_law, g21, hFree, P_law, none, hWf⟩
def S_law : SM := (qS [(sAsg 1 (eCall F__law_bag (plainShape 1) [(aS 0)] [])), (sAsg 2 (eNew "Book" F_Book___init__ (plainShape 2) [(aE (eLst [(eTup [(eK (.str "x")), (eK (.int 0)), (eK .non), (eK .non), (eK .non)])]))] [])), (sFor (bS 3) (iR1 (eK (.int 24))) (qS [(sAsg 4 (eCall F__law_net (plainShape 1) [(aS 1)] [])), (sIf (tE (eCmp C_law .Gt (rR (wayS 3) (eS 3)) (eK (.int 20)))) (qS [(sAsg 4 (eLc [5] (bS 5) tY (eTup [(eK (.str "x")), (eK .non), (eK .non), (eCall F__law_draw (plainShape 2) [(aS 1), (aE (eK (.int 150)))] []), (eK .non)]) (iR1 (eCall F__law_of (plainShape 2) [(aS 1), (aE (eLst [(eK (.int 199)), (eK (.int 200)), (eK (.int 200)), (eK (.int 201)), (eK (.int 202)), (eK (.int 600)), (eK (.int 150))]))] []))))]) (qS [])), (sAsg 6 (eO "list" (rO (wayS 4) (eS 4)))), (sAsg 7 (eCall F__law_of (plainShape 2) [(aS 1), (aE (eLst [(eK (.int 0)), (eK (.int 1)), (eK (.int 1)), (eK (.int 2)), (eLen (rR (wayS 6) (eS 6)))]))] [])), (sFor (bS 5) (iR1 (eBf "min" [(eS 7), (eK (.int 6))])) (qS [(sAsg 8 (eCall F__law_of (plainShape 2) [(aS 1), (aE (eLst [(eK (.int 0)), (eBin .Sub (eLen (rR (wayS 6) (eS 6))) (eK (.int 1))), (eCall F__law_draw (plainShape 2) [(aS 1), (aE (eLen (rR (wayS 6) (eS 6))))] []), (eCall F__law_draw (plainShape 2) [(aS 1), (aE (eLen (rR (wayS 6) (eS 6))))] [])]))] [])), (sSetI (wayS 6) (xS 8) (eCall F__law_bent (plainShape 4) [(aS 1), (aE (eSub (wayI (wayS 4) (xS 8)) (eS 4) (eS 8))), (aE (eLen (rR (wayS 6) (eS 6)))), (aS 2)] []))])), (sAsg 9 (eIf (tE (eCmp C_law .Eq (eCall F__law_draw (plainShape 2) [(aS 1), (aE (eK (.int 3)))] []) (eK (.int 0)))) (eO "tuple" (rO (wayS 6) (eS 6))) (eO "list" (rO (wayS 6) (eS 6))))), (sIf (tOr (tNot (tE (eCall F__law_same (plainShape 2) [(aE (eCall F__law_made (plainShape 2) [(aS 9), (aE (eCmp C_law .Gt (rR (wayS 3) (eS 3)) (eK (.int 14))))] [])), (aE (eCall F__law_due (plainShape 1) [(aS 9)] []))] []))) (tNot (tE (eCall F__law_same (plainShape 2) [(aE (eO "list" (rO (wayS 9) (eS 9)))), (aS 6)] [])))) (qS [(sRet (eK (.bl false)))]) (qS [])), (sAsg 10 (eCall F__law_any (plainShape 2) [(aS 1), (aE (eLst [(eS 2), (eTup [(eK (.str "x")), (eK (.int 0)), (eK .non), (eK .non), (eK .non)]), (eK (.str "x")), (eLst [(eTup [])]), (eTup [(eTup [(eK (.str "x")), (eK .non), (eK .non), (eK .non), (eK .non)])]), (eLst [(eK .non)]), (eLst [(eS 4)]), (eTup [(eK (.str ""))])]))] [])), (sIf (tNot (tE (eCall F__law_same (plainShape 2) [(aE (eCall F__law_made (plainShape 2) [(aS 10), (aE (eCmp C_law .Gt (rR (wayS 3) (eS 3)) (eK (.int 14))))] [])), (aE (eCall F__law_due (plainShape 1) [(aS 10)] []))] []))) (qS [(sRet (eK (.bl false)))]) (qS []))])), (sRet (eK (.bl true)))])
theorem S_law_ok : ∀ η, evSs C_law hFuel (defBody s_law) η = S_law η := by
  intro η
  kernel_rfl
def F_law : Fn := ⟨1, [plainShape 1], P_law, runC 11 1 P_law S_law⟩
theorem kp_law_0 : F_law.keep 0 = true := rfl
end Z

set_option Elab.async false
set_option linter.all false
set_option maxRecDepth 100000
set_option maxHeartbeats 4000000
namespace Z
open PySem PySem.Spec PyProof.Rows L2
/-! ### the rules once more, marked so that rewriting stays at the head -/
def Mk_ {α : Sort _} (a : α) : Type := Unit
def mk_ {α : Sort _} {a : α} : Mk_ a := ()
def vM {α : Type} (m : M α) (η : List D) (Q : α → List D → Prop) (X : Str → List (Str × D) → List D → Prop) (u : Mk_ (m, Q, X) := mk_) : Prop := wM m η Q X
def vO {α : Type} (o : Option α) (Q : α → Prop) (u : Mk_ Q := mk_) : Prop := wO o Q
def vS (s : SM) (η : List D) (Q : Fl → Prop) (u : Mk_ (s, Q) := mk_) : Prop := wS s η Q
def vF (run : List D → Option FRes) (ds : List D) (Q : FRes → Prop) (u : Mk_ (run, Q) := mk_) : Prop := wF run ds Q
def vPt (q : Nat × List Nat × D) (η : List D) (Q : D → List D → Prop) (u : Mk_ Q := mk_) : Prop := wPth q η Q
def wA (P Q : Prop) (u : Mk_ Q := mk_) : Prop := P ∧ Q
def wB (b : Bool) (P Q : Prop) (u : Mk_ (P, Q) := mk_) : Prop := if b = true then P else Q
def wPO (o : Option (Nat × List Nat × D)) (f : Nat × List Nat × D → Prop) (g : Prop) (u : Mk_ (f, g) := mk_) : Prop := match o with
  | some q => f q
  | none => g
theorem wA_T {Q : Prop} : wA True Q = Q := by unfold wA; exact true_and Q
theorem wA_r {α : Type} {a : α} {Q : Prop} : wA (a = a) Q = Q := by unfold wA; rw [eq_self_iff_true]; exact true_and Q
theorem wA_i {P Q : Prop} (h : P) (q : Q) : wA P Q := ⟨h, q⟩
theorem wB_T {P Q : Prop} : wB true P Q = P := rfl
theorem wB_F {P Q : Prop} : wB false P Q = Q := rfl
theorem wB_i {b : Bool} {P Q : Prop} (h1 : b = true → P) (h2 : b = false → Q) : wB b P Q := by
  cases b with
  | true => exact h1 rfl
  | false => exact h2 rfl
theorem wPO_s {q : Nat × List Nat × D} {f : Nat × List Nat × D → Prop} {g : Prop} : wPO (some q) f g = f q := rfl
theorem wPO_n {f : Nat × List Nat × D → Prop} {g : Prop} : wPO none f g = g := rfl
section
variable {α β : Type} {η : List D} {X : Str → List (Str × D) → List D → Prop} {QD : D → List D → Prop} {QB : Bool → List D → Prop} {QL : List D → List D → Prop} {F : Fl → Prop}
theorem vM_bind {m : M α} {f : α → M β} {Q : β → List D → Prop} : vM (mBind m f) η Q X = vM m η (fun a η1 => vM (f a) η1 Q X) X := wM_bind
theorem vM_pure {a : α} {Q : α → List D → Prop} : vM (mPure a) η Q X = Q a η := wM_pure
theorem vM_opt {o : Option α} {Q : α → List D → Prop} : vM (mOpt o) η Q X = vO o fun a => Q a η := wM_opt
theorem vM_frz {m : M D} : vM (mFrz m) η QD X = vM m η (fun d η1 => QD d.frz η1) X := wM_frz
theorem vM_sq0 {Q : List α → List D → Prop} : vM (seqC []) η Q X = Q [] η := wM_sq0
theorem vM_sq1 {m : M α} {r : List (M α)} {Q : List α → List D → Prop} : vM (seqC (m :: r)) η Q X = vM m η (fun a η1 => vM (seqC r) η1 (fun as η2 => Q (a :: as) η2) X) X := wM_sq1
theorem vM_eK {d : D} : vM (eK d) η QD X = QD d η := wM_eK
theorem vM_eBin {op : Operator} {a b : M D} : vM (eBin op a b) η QD X = vM a η (fun x η1 => vM b η1 (fun y η2 => vO (binD op x.frz y.frz) fun z => QD z η2) X) X := wM_eBin
theorem vM_eNeg {a : M D} : vM (eNeg a) η QD X = vM a η (fun x η1 => match x with
    | .int i => QD (.int (-i)) η1
    | _ => False) X := wM_eNeg
theorem vM_eNot {a : M D} : vM (eNot a) η QD X = vM a η (fun x η1 => vO (truthD x) fun b => QD (.bl !b) η1) X := wM_eNot
theorem vM_eCmp {c : Cs} {op : CmpOp} {a b : M D} : vM (eCmp c op a b) η QD X = vM a η (fun x η1 => vM b η1 (fun y η2 => vO (c.cmpX op x y) fun r => QD (.bl r) η2) X) X := wM_eCmp
theorem vM_ptN {Q : Option Int → List D → Prop} : vM ptN η Q X = Q none η := wM_ptN
theorem vM_ptE {a : M D} {Q : Option Int → List D → Prop} : vM (ptE a) η Q X = vM a η (fun x η1 => vO (partD x) fun p => Q p η1) X := wM_ptE
theorem vM_eCut {a : M D} {lo hi : M (Option Int)} : vM (eCut a lo hi) η QD X = vM a η (fun x η1 => vM lo η1 (fun l η2 => vM hi η2 (fun h η3 => vO (cutD x.frz l h) fun z => QD z η3) X) X) X := wM_eCut
theorem vM_ePth {p : RP} : vM (ePth p) η QD X = vO (p η) fun q => vPt q η QD := wM_ePth
theorem vM_eCur {fs : List (Str × D)} {f : Str} : vM (eCur fs f) η QD X = vO (fs.lookup f) fun d => QD d η := wM_eCur
theorem vM_aE {e : M D} {Q : Arg → List D → Prop} : vM (aE e) η Q X = vM e η (fun d η1 => Q (.tmp d) η1) X := wM_aE
theorem vM_callF {f : Fn} {sh : Shape} {as : List Arg} : vM (callF f sh as) η QD X = vO (pickAll as sh.arr) fun bs => vO (takeArgs f.keep 0 bs η) fun q => vF f.run q.1 (wRes q.2.2 q.2.1 QD X) := wM_callF
theorem vM_eCall {f : Fn} {sh : Shape} {args zs : List (M Arg)} : vM (eCall f sh args zs) η QD X = vM (seqC args) η (fun as η1 => vM (seqC zs) η1 (fun zs η2 => vM (callF f sh (as ++ zs)) η2 QD X) X) X := wM_eCall
theorem vM_eLen {a : M D} : vM (eLen a) η QD X = vM a η (fun x η1 => vO (lenD x) fun n => QD (.int (n : Nat)) η1) X := wM_eLen
theorem vM_eIsa {c : Cs} {xs : List Str} {a : M D} : vM (eIsa c xs a) η QD X = vM a η (fun x η1 => vO (c.isaAny x xs) fun b => QD (.bl b) η1) X := wM_eIsa
theorem vM_eO {f : Str} {a : M D} : vM (eO f a) η QD X = vM a η (fun x η1 => vO (callO f x) fun z => QD z η1) X := wM_eO
theorem vM_eBf {f : Str} {args : List (M D)} : vM (eBf f args) η QD X = vM (seqC args) η (fun vs η1 => vO (callB f vs) fun z => QD z η1) X := wM_eBf
theorem vM_eRg1 {f : Str} {a : M D} : vM (eRg1 f a) η QD X = vM a η (fun x η1 => match x with
    | .int j => vO (rangeC f 0 j) fun z => QD z η1
    | _ => False) X := wM_eRg1
theorem vM_iE {a : M D} : vM (iE a) η QL X = vM a η (fun x η1 => vO (itemsD x.frz) fun xs => QL xs η1) X := wM_iE
theorem vM_iR1 {a : M D} : vM (iR1 a) η QL X = vM a η (fun x η1 => match x.frz with
    | .int j => vO (rangeD 0 j 1) fun xs => QL xs η1
    | _ => False) X := wM_iR1
theorem vM_tNot {a : M Bool} : vM (tNot a) η QB X = vM a η (fun b η1 => QB (!b) η1) X := wM_tNot
theorem vM_tE {a : M D} : vM (tE a) η QB X = vM a η (fun x η1 => vO (truthD x) fun b => QB b η1) X := wM_tE
theorem vM_tY : vM tY η QB X = QB true η := wM_tY
theorem vM_xcE {x : Str} {fs : List (Str × Nat)} {args : List (M D)} {Q : Str × List (Str × D) → List D → Prop} : vM (xcE x fs args) η Q X = vM (seqC (args.map mFrz)) η (fun vs η1 => vO (fs.mapM fun f => (vs[f.2]?).map fun d => (f.1, d)) fun q => Q (x, q) η1) X := wM_xcE
theorem vM_lc {vs : List Nat} {bind : BM} {test : M Bool} {elt : M D} {items : M (List D)} : vM (eLc vs bind test elt items) η QD X = vM items η (fun xs η1 => vO (lcL (fun d η => bind d (wipeD vs η)) test elt xs [] (frzAt vs η1)) fun q => QD (.node .lst true q.1) (backD vs (frzAt vs η1) q.2)) X := wM_lc
theorem vS_q0 : vS (qS []) η F = F (.nx η) := wS_q0
theorem vS_q1 {s : SM} {r : List SM} : vS (qS (s :: r)) η F = vS s η (fun f => match f with
    | .nx η1 => vS (qS r) η1 F
    | f => F f) := wS_q1
theorem vS_pass : vS sPass η F = F (.nx η) := wS_pass
theorem vS_brk : vS sBrk η F = F (.brk η) := wS_brk
theorem vS_cnt : vS sCnt η F = F (.cnt η) := wS_cnt
theorem vS_ret0 : vS sRet0 η F = F (.ret .non η) := wS_ret0
theorem vS_ret {e : M D} : vS (sRet e) η F = vM e η (fun d η1 => F (.ret d η1)) (fun c fs η1 => F (.exc c fs η1)) := wS_ret
theorem vS_exp {e : M D} : vS (sExp e) η F = vM e η (fun d η1 => F (.nx η1)) (fun c fs η1 => F (.exc c fs η1)) := wS_exp
theorem vS_asg {i : Nat} {e : M D} : vS (sAsg i e) η F = vM e η (fun d η1 => vO (stS false i d η1) fun η2 => F (.nx η2)) (fun c fs η1 => F (.exc c fs η1)) := wS_asg
theorem vS_unp {is : List Nat} {e : M D} : vS (sUnp is e) η F = vM e η (fun d η1 => vO (bT is d η1) fun η2 => F (.nx η2)) (fun c fs η1 => F (.exc c fs η1)) := wS_unp
theorem vS_par {i j : Nat} {e1 e2 : M D} : vS (sPar i j e1 e2) η F = vM e1 η (fun d1 η1 => vM e2 η1 (fun d2 η2 => vO (stS false i d1 η2) fun η3 => vO (stS false j d2 η3) fun η4 => F (.nx η4)) (fun c fs η1 => F (.exc c fs η1))) (fun c fs η1 => F (.exc c fs η1)) := wS_par
theorem vS_setI {p : RP} {x : RX} {e : M D} : vS (sSetI p x e) η F = vM e η (fun d η1 => vO (setI p x d η1) fun η2 => F (.nx η2)) (fun c fs η1 => F (.exc c fs η1)) := wS_setI
theorem vS_setA {c : Cs} {p : RP} {f : Str} {e : M D} : vS (sSetA c p f e) η F = vM e η (fun d η1 => vO (setA c p f d η1) fun η2 => F (.nx η2)) (fun c fs η1 => F (.exc c fs η1)) := wS_setA
theorem vS_for {bind : BM} {items : M (List D)} {body : SM} : vS (sFor bind items body) η F = vM items η (fun xs η1 => vO (forL bind body xs η1) F) (fun c fs η1 => F (.exc c fs η1)) := wS_for
theorem vS_wh {t : M Bool} {body : SM} {wf : Nat} : vS (sWh t body wf) η F = vO (whileL t body wf η) F := wS_wh
theorem vS_rs {m : M (Str × List (Str × D))} : vS (sRs m) η F = vM m η (fun q η1 => F (.exc q.1 q.2 η1)) (fun c fs η1 => F (.exc c fs η1)) := wS_rs
theorem vS_try {body : SM} {h : Str → List (Str × D) → SM} : vS (sTry body h) η F = vS body η (fun f => match f with
    | .exc x fs η1 => vS (h x fs) η1 F
    | f => F f) := wS_try
theorem vO_some {α : Type} {a : α} {Q : α → Prop} : vO (some a) Q = Q a := wO_some
theorem vO_map {α β : Type} {o : Option α} {f : α → β} {Q : β → Prop} : vO (o.map f) Q = vO o fun a => Q (f a) := wO_map
theorem vO_for0 {bind : BM} {body : SM} : vO (forL bind body [] η) F = F (.nx η) := wO_for0
theorem vO_for1 {bind : BM} {body : SM} {d : D} {r : List D} : vO (forL bind body (d :: r) η) F = vO (bind d η) fun η1 => vS body η1 fun f => match f with
    | .nx η2 => vO (forL bind body r η2) F
    | .cnt η2 => vO (forL bind body r η2) F
    | .brk η2 => F (.nx η2)
    | f => F f := wO_for1
theorem vM_eS {i : Nat} : vM (eS i) η QD X = vO η[i]? fun d => wA (d.bound = true) (QD d.frz (η.set i d.frz)) := wM_eS
theorem vM_eTup {ms : List (M D)} : vM (eTup ms) η QD X = vM (seqC ms) η (fun ds η1 => wA (ds.length ≤ sizeLine) (QD (.node .tup true ds) η1)) X := wM_eTup
theorem vM_eLst {ms : List (M D)} : vM (eLst ms) η QD X = vM (seqC ms) η (fun ds η1 => wA (ds.length ≤ sizeLine) (QD (.node .lst true ds) η1)) X := wM_eLst
theorem vM_eAnd {a r : M D} : vM (eAnd a r) η QD X = vM a η (fun x η1 => vO (truthD x) fun b => wB b (vM r η1 QD X) (QD x η1)) X := wM_eAnd
theorem vM_eOr {a r : M D} : vM (eOr a r) η QD X = vM a η (fun x η1 => vO (truthD x) fun b => wB b (QD x η1) (vM r η1 QD X)) X := wM_eOr
theorem vM_eIf {t : M Bool} {a b : M D} : vM (eIf t a b) η QD X = vM t η (fun k η1 => wB k (vM a η1 QD X) (vM b η1 QD X)) X := wM_eIf
theorem vM_eCmp2 {op op2 : CmpOp} {a b b2 : M D} : vM (eCmp2 op op2 a b b2) η QD X = vM a η (fun x η1 => vM b η1 (fun y η2 => vO (cmpD op x.frz y.frz) fun k => wB k (vM b2 η2 (fun z η3 => vO (cmpD op2 y.frz z) fun r => QD (.bl r) η3) X) (QD (.bl false) η2)) X) X := wM_eCmp2
theorem vM_eSub {p : RP} {a b : M D} : vM (eSub p a b) η QD X = wPO (p η) (fun q => vPt q η QD) (vM a η (fun x η1 => vM b η1 (fun y η2 => vO (idxD x y) fun z => QD z η2) X) X) := by
  refine wM_eSub.trans ?_; unfold wPO; cases p η <;> rfl
theorem vM_aS {i : Nat} {Q : Arg → List D → Prop} : vM (aS i) η Q X = vO η[i]? fun d => wA (d.bound = true) (Q (.slot i) η) := wM_aS
theorem vM_rR {p : RP} {e : M D} : vM (rR p e) η QD X = wPO (p η) (fun q => QD q.2.2 η) (vM e η QD X) := by
  refine wM_rR.trans ?_; unfold wPO; cases p η <;> rfl
theorem vM_rO {p : RP} {e : M D} : vM (rO p e) η QD X = wPO (p η) (fun q => wB (kidsStill q.2.2) (QD q.2.2 η) (QD q.2.2.frz (setFrzP q.1 q.2.1 q.2.2 η))) (vM e η (fun d η1 => QD d.frz η1) X) := by
  refine wM_rO.trans ?_; unfold wPO; cases p η <;> rfl
theorem vM_iEn {a : M D} : vM (iEn a) η QL X = vM a η (fun x η1 => match x.frz with
    | .node k _ xs => wA (k = .lst ∨ k = .rol ∨ k = .tup) (QL (enumD 0 xs) η1)
    | _ => False) X := by
  exact wM_iEn.trans (by unfold vM wA; congr 1)
theorem vM_iZp {a b : M D} : vM (iZp a b) η QL X = vM a η (fun x η1 => vM b η1 (fun y η2 => match x.frz, y.frz with
    | .node k _ xs, .node k2 _ ys => wA (((k = .lst ∨ k = .rol) ∧ (k2 = .lst ∨ k2 = .rol)) ∨ (k = .tup ∧ k2 = .tup)) (QL (zipD xs ys) η2)
    | _, _ => False) X) X := by
  exact wM_iZp.trans (by unfold vM wA; congr 1)
theorem vM_iR3 {a b s : M D} : vM (iR3 a b s) η QL X = vM a η (fun x η1 => vM b η1 (fun y η2 => vM s η2 (fun z η3 => match x.frz, y.frz, z.frz with
    | .int i, .int j, .int k => wA (k = -1) (vO (rangeD i j k) fun xs => QL xs η3)
    | _, _, _ => False) X) X) X := by
  refine wM_iR3.trans ?_; unfold vM wA; congr 1; funext x η1; congr 1; funext y η2; congr 1; funext z η3
  cases x.frz <;> cases y.frz <;> cases z.frz <;> try rfl
  simp only [and_ite]; rfl
theorem vM_tAnd {a r : M Bool} : vM (tAnd a r) η QB X = vM a η (fun b η1 => wB b (vM r η1 QB X) (QB false η1)) X := wM_tAnd
theorem vM_tOr {a r : M Bool} : vM (tOr a r) η QB X = vM a η (fun b η1 => wB b (QB true η1) (vM r η1 QB X)) X := wM_tOr
theorem vS_retS {i : Nat} : vS (sRetS i) η F = vO η[i]? fun d => wA (d.bound = true) (F (.ret d (η.set i .unb))) := wS_retS
theorem vS_if {t : M Bool} {a b : SM} : vS (sIf t a b) η F = vM t η (fun k η1 => wB k (vS a η1 F) (vS b η1 F)) (fun c fs η1 => F (.exc c fs η1)) := wS_if
theorem vPth {i : Nat} {p : List Nat} {d : D} {Q : D → List D → Prop} : vPt (i, p, d) η Q = wB d.still (Q d η) (Q d.frz (setFrzP i p d η)) := rfl
end
/-- between two statements: what is needed of the slots -/
theorem vS_cut {s : SM} {r : List SM} {η : List D} {F : Fl → Prop} (P : List D → Prop) (h1 : vS s η (fun f => match f with
    | .nx η1 => P η1
    | f => F f)) (h2 : ∀ η1, P η1 → vS (qS r) η1 F) : vS (qS (s :: r)) η F := by
  rw [vS_q1]
  refine wS_mono h1 fun f hf => ?_
  cases f <;> first | exact h2 _ hf | exact hf
theorem vF_runC {nN np : Nat} {keep : Nat → Bool} {s : SM} {ds : List D} {Q : FRes → Prop} (h : ds.length = np) (g : vS s (ds ++ List.replicate (nN - np) .unb) (fun f => match f with
    | .nx η => Q (.ret .non (outD np keep η))
    | .ret d η => Q (.ret d (outD np keep η))
    | .exc x fs η => Q (.exc x fs (outD np keep η))
    | _ => False)) : vF (runC nN np keep s) ds Q := Eq.mpr (wF_runC h) g
theorem bd_int {i : Int} : (D.int i).bound = true := rfl
theorem bd_str {i : Str} : (D.str i).bound = true := rfl
theorem bd_bl {i : Bool} : (D.bl i).bound = true := rfl
theorem bd_non : D.non.bound = true := rfl
theorem bd_unb : D.unb.bound = false := rfl
theorem fr_unb : D.unb.frz = .unb := rfl
theorem bd_node {k : Kd} {o : Bool} {xs : List D} : (D.node k o xs).bound = true := rfl
theorem fr_int {i : Int} : (D.int i).frz = .int i := by unfold D.frz; rfl
theorem fr_str {i : Str} : (D.str i).frz = .str i := by unfold D.frz; rfl
theorem fr_bl {i : Bool} : (D.bl i).frz = .bl i := by unfold D.frz; rfl
theorem fr_non : D.non.frz = .non := by unfold D.frz; rfl
theorem fr_node {k : Kd} {o : Bool} {xs : List D} : (D.node k o xs).frz = .node k false (xs.map D.frz) := by unfold D.frz; rw [frzL_map]
theorem sl_int {i : Int} : (D.int i).still = true := by unfold D.still; rfl
theorem sl_str {i : Str} : (D.str i).still = true := by unfold D.still; rfl
theorem sl_bl {i : Bool} : (D.bl i).still = true := by unfold D.still; rfl
theorem sl_non : D.non.still = true := by unfold D.still; rfl
theorem sl_own {k : Kd} {xs : List D} : (D.node k true xs).still = false := by unfold D.still; rfl
theorem sl_shd {k : Kd} {xs : List D} : (D.node k false xs).still = xs.all D.still := by unfold D.still; rw [stillL_all]; rfl
theorem pick1 {a : Arg} : pickAll [a] (plainShape 1).arr = some [a] := rfl
theorem pick2 {a b : Arg} : pickAll [a, b] (plainShape 2).arr = some [a, b] := rfl
theorem pick3 {a b c : Arg} : pickAll [a, b, c] (plainShape 3).arr = some [a, b, c] := rfl
theorem pick4 {a b c d : Arg} : pickAll [a, b, c, d] (plainShape 4).arr = some [a, b, c, d] := rfl
theorem tk0 {keep : Nat → Bool} {k : Nat} {η : List D} : takeArgs keep k [] η = some ([], η, []) := rfl
theorem tkT {keep : Nat → Bool} {k : Nat} {d : D} {r : List Arg} {η : List D} {ds η' : List D} {wb : List (Option Nat)} (h : takeArgs keep (k + 1) r η = some (ds, η', wb)) : takeArgs keep k (.tmp d :: r) η = some (d :: ds, η', none :: wb) := by
  show (match takeArgs keep (k + 1) r η with
    | some (ds, η', wb) => some (d :: ds, η', none :: wb)
    | none => none) = _
  rw [h]
theorem wTk {keep : Nat → Bool} {k : Nat} {d : D} {r : List Arg} {η : List D} {Q : List D × List D × List (Option Nat) → Prop} : vO (takeArgs keep k (.tmp d :: r) η) Q = vO (takeArgs keep (k + 1) r η) fun q => Q (d :: q.1, q.2.1, none :: q.2.2) := by
  refine Eq.trans (b := wO (match takeArgs keep (k + 1) r η with
    | some (ds, η', wb) => some (d :: ds, η', none :: wb)
    | none => none) Q) rfl ?_
  cases takeArgs keep (k + 1) r η <;> rfl
theorem wTk0 {keep : Nat → Bool} {k : Nat} {η : List D} {Q : List D × List D × List (Option Nat) → Prop} : vO (takeArgs keep k [] η) Q = Q ([], η, []) := rfl
theorem wTs0 {keep : Nat → Bool} {k i : Nat} {r : List Arg} {η : List D} {Q : List D × List D × List (Option Nat) → Prop} : wO (takeArgs keep k (.slot i :: r) η) Q = wO η[i]? fun d => d.bound = true ∧ if d.still = true then wO (takeArgs keep (k + 1) r η) fun q => Q (d :: q.1, q.2.1, none :: q.2.2)
    else if keep k = true then wO (takeArgs keep (k + 1) r (η.set i .unb)) fun q => Q (d :: q.1, q.2.1, some i :: q.2.2)
    else wO (takeArgs keep (k + 1) r (η.set i d.frz)) fun q => Q (d.frz :: q.1, q.2.1, none :: q.2.2) := by
  refine Eq.trans (b := wO (match η[i]? with
    | none => none
    | some d => if d.bound = true then
        if d.still = true then (match takeArgs keep (k + 1) r η with
          | some (ds, η', wb) => some (d :: ds, η', none :: wb)
          | none => none)
        else if keep k = true then (match takeArgs keep (k + 1) r (η.set i .unb) with
          | some (ds, η', wb) => some (d :: ds, η', some i :: wb)
          | none => none)
        else (match takeArgs keep (k + 1) r (η.set i d.frz) with
          | some (ds, η', wb) => some (d.frz :: ds, η', none :: wb)
          | none => none)
      else none) Q) rfl ?_
  cases η[i]? with
  | none => rfl
  | some d =>
    simp only [wO_some, wO_ite, wO_none, and_ite]
    congr 1
    split
    · cases takeArgs keep (k + 1) r η <;> rfl
    · split
      · cases takeArgs keep (k + 1) r (η.set i .unb) <;> rfl
      · cases takeArgs keep (k + 1) r (η.set i d.frz) <;> rfl
theorem wTs {keep : Nat → Bool} {k i : Nat} {r : List Arg} {η : List D} {Q : List D × List D × List (Option Nat) → Prop} : vO (takeArgs keep k (.slot i :: r) η) Q = vO η[i]? fun d => wA (d.bound = true) (wB d.still (vO (takeArgs keep (k + 1) r η) fun q => Q (d :: q.1, q.2.1, none :: q.2.2))
    (wB (keep k) (vO (takeArgs keep (k + 1) r (η.set i .unb)) fun q => Q (d :: q.1, q.2.1, some i :: q.2.2))
    (vO (takeArgs keep (k + 1) r (η.set i d.frz)) fun q => Q (d.frz :: q.1, q.2.1, none :: q.2.2)))) := wTs0
theorem gb0 {ds η : List D} : giveBack [] ds η = η := by unfold giveBack; rfl
theorem gb1 {i : Nat} {wb : List (Option Nat)} {d : D} {ds η : List D} : giveBack (some i :: wb) (d :: ds) η = giveBack wb ds (η.set i d) := by
  conv => lhs; unfold giveBack
theorem gb2 {wb : List (Option Nat)} {d : D} {ds η : List D} : giveBack (none :: wb) (d :: ds) η = giveBack wb ds η := by
  conv => lhs; unfold giveBack
theorem wPth_still {q : Nat × List Nat × D} {η : List D} {Q : D → List D → Prop} (h : q.2.2.still = true) : wPth q η Q = Q q.2.2 η := if_pos h
theorem wPth_pr {i : Nat} {p : List Nat} {d : D} {η : List D} {Q : D → List D → Prop} : wPth (i, p, d) η Q = if d.still = true then Q d η else Q d.frz (setFrzP i p d η) := rfl
theorem wayS_eq {i : Nat} {η : List D} : wayS i η = match η[i]? with
  | some d => if d.bound then some (i, [], d) else none
  | none => none := rfl
theorem xK_eq {d : D} {η : List D} : xK d η = some d := rfl
theorem xNo_eq {η : List D} : xNo η = none := rfl
theorem wayN_eq {η : List D} : wayN η = none := rfl
theorem xS_eq {i : Nat} {η : List D} : xS i η = match η[i]? with
  | some d => if d.bound && d.still then some d else none
  | none => none := rfl
theorem wayI_none {a : RP} {b : RX} {η : List D} (h : b η = none) : wayI a b η = none := by
  unfold wayI
  rw [h]
  split <;> simp_all
/-- one step down to a list's or a tuple's item -/
theorem wayI_eq {a : RP} {b : RX} {η : List D} {i : Nat} {p : List Nat} {k : Kd} {o : Bool} {xs : List D} {m : Int} {j : Nat} {x : D} (ha : a η = some (i, p, .node k o xs)) (hb : b η = some (.int m)) (hk : k = .lst ∨ k = .rol ∨ k = .tup) (hj : ixN xs.length m = some j) (hx : xs[j]? = some x) :
    wayI a b η = some (i, p ++ [j], x) := by
  unfold wayI
  rw [ha, hb]
  rcases hk with rfl | rfl | rfl <;> simp only [hj, hx]
def wWay (q : Option (Nat × List Nat × D)) (b : Option D) : Option (Nat × List Nat × D) := match q, b with
  | some (i, p, .node k _ xs), some (.int m) => (match k with
    | .obj _ _ => none
    | _ => match ixN xs.length m with
      | some j => match xs[j]? with
        | some x => some (i, p ++ [j], x)
        | none => none
      | none => none)
  | _, _ => none
theorem wayI_w {a : RP} {b : RX} {η : List D} : wayI a b η = wWay (a η) (b η) := rfl
theorem wWay_n {q : Option (Nat × List Nat × D)} : wWay q none = none := by
  unfold wWay
  split <;> simp_all
theorem wWay_n0 {b : Option D} : wWay none b = none := rfl
section
variable {i : Nat} {p : List Nat} {o : Bool} {xs : List D} {m : Int}
def wIx (i : Nat) (p : List Nat) (xs : List D) (m : Int) : Option (Nat × List Nat × D) := match ixN xs.length m with
  | some j => match xs[j]? with
    | some x => some (i, p ++ [j], x)
    | none => none
  | none => none
theorem wWay_l : wWay (some (i, p, .node .lst o xs)) (some (.int m)) = wIx i p xs m := rfl
theorem wWay_r : wWay (some (i, p, .node .rol o xs)) (some (.int m)) = wIx i p xs m := rfl
theorem wWay_t : wWay (some (i, p, .node .tup o xs)) (some (.int m)) = wIx i p xs m := rfl
theorem wWay_int {b : Option D} : wWay (some (i, p, .int m)) b = none := by unfold wWay; split <;> simp_all
theorem wWay_str {b : Option D} {s : Str} : wWay (some (i, p, .str s)) b = none := by unfold wWay; split <;> simp_all
theorem wIx_eq {m : Int} {j : Nat} {x : D} (hm : m = j) (hj : xs[j]? = some x) : wIx i p xs m = some (i, p ++ [j], x) := by
  have hl := (List.getElem?_eq_some_iff.mp hj).1
  subst hm
  unfold wIx ixN
  rw [if_pos (by omega), if_pos (by omega)]
  simp only [Int.toNat_natCast, hj]
end
theorem wIx_lit {i : Nat} {p : List Nat} {xs : List D} {n : Nat} : wIx i p xs (no_index (OfNat.ofNat n)) = match xs[n]? with
    | some x => some (i, p ++ [n], x)
    | none => none := by
  cases h : xs[n]? with
  | some x => exact wIx_eq (m := OfNat.ofNat n) rfl h
  | none =>
    have hl := List.getElem?_eq_none_iff.mp h
    show wIx i p xs (n : Int) = none
    unfold wIx ixN
    rw [if_pos (by omega), if_neg (by omega)]
theorem setI_nil {d : D} {η : List D} {p : RP} {x : RX} {j : Nat} {xs : List D} {m : Int} (hp : p η = some (j, [], .node .lst true xs)) (hx : x η = some (.int m)) (hk : 0 ≤ m) (hk2 : m < xs.length) (hd : j < η.length) : setI p x d η = some (η.set j (.node .lst true (xs.set m.toNat d))) := by
  rw [setI_eq (d0 := η[j]) (k := m.toNat) hp hx (by unfold ixN; rw [if_pos hk, if_pos hk2]) (List.getElem?_eq_getElem hd)]
  unfold D.putAt
  rfl
def wSet (q : Option (Nat × List Nat × D)) (b : Option D) (d : D) (η1 : List D) : Option (List D) := match q, b with
  | some (j, p, .node .lst true xs), some (.int m) => (match ixN xs.length m, η1[j]? with
    | some k, some d0 => some (η1.set j (d0.putAt p (.node .lst true (xs.set k d))))
    | _, _ => none)
  | _, _ => none
theorem setI_w {p : RP} {x : RX} {d : D} {η : List D} : setI p x d η = wSet (p η) (x η) d η := rfl
theorem wSet_lit {j : Nat} {xs : List D} {n : Nat} {d : D} {η : List D} (hk : n < xs.length) (hd : j < η.length) : wSet (some (j, [], .node .lst true xs)) (some (.int (no_index (OfNat.ofNat n)))) d η = some (η.set j (.node .lst true (xs.set n d))) :=
  setI_nil (p := fun _ => some (j, [], .node .lst true xs)) (x := fun _ => some (.int (n : Int))) rfl rfl (by omega) (by omega) hd
theorem wSet_int {j : Nat} {xs : List D} {m : Int} {d : D} {η : List D} (hk : 0 ≤ m) (hk2 : m < xs.length) (hd : j < η.length) : wSet (some (j, [], .node .lst true xs)) (some (.int m)) d η = some (η.set j (.node .lst true (xs.set m.toNat d))) :=
  setI_nil (p := fun _ => some (j, [], .node .lst true xs)) (x := fun _ => some (.int m)) rfl rfl hk hk2 hd
def wXP (q : Option (Nat × List Nat × D)) : Option D := match q with
  | some (_, _, d) => if d.still then some d else none
  | none => none
theorem xP_w {p : RP} {η : List D} : xP p η = wXP (p η) := rfl
theorem wXP_int {i : Nat} {p : List Nat} {m : Int} : wXP (some (i, p, .int m)) = some (.int m) := rfl
theorem xB_add {a b : RX} {η : List D} {i j : Int} (h1 : a η = some (.int i)) (h2 : b η = some (.int j)) : xB .Add a b η = some (.int (i + j)) := by
  unfold xB; rw [h1, h2]
theorem xB_sub {a b : RX} {η : List D} {i j : Int} (h1 : a η = some (.int i)) (h2 : b η = some (.int j)) : xB .Sub a b η = some (.int (i - j)) := by
  unfold xB; rw [h1, h2]
theorem idx_ok {k : Kd} {o : Bool} {xs : List D} {m : Int} {j : Nat} {x : D} (hk : k = .lst ∨ k = .rol ∨ k = .tup) (hm : m = j) (hj : xs[j]? = some x) : idxD (.node k o xs) (.int m) = some x := by
  have hl := (List.getElem?_eq_some_iff.mp hj).1
  have e : atI xs m = some x := by
    unfold atI ixN
    rw [if_pos (by omega), if_pos (by omega), hm]
    simp only [Int.toNat_natCast, Option.bind_some, hj]
  rcases hk with rfl | rfl | rfl <;> exact e
theorem fr_fr : ∀ d : D, d.frz.frz = d.frz
  | .unb => rfl
  | .non => by simp only [fr_non]
  | .bl b => by simp only [fr_bl]
  | .int i => by simp only [fr_int]
  | .str s => by simp only [fr_str]
  | .ty n => rfl
  | .node k o xs => by
    simp only [fr_node, List.map_map]
    congr 1
    exact List.map_congr_left fun d hd => fr_fr d
theorem fr_map {xs : List D} : (xs.map D.frz).map D.frz = xs.map D.frz := by
  rw [List.map_map]
  exact List.map_congr_left fun d _ => fr_fr d
theorem fr_still : ∀ {d : D}, d.still = true → d.frz = d
  | .unb, _ => rfl
  | .non, _ => by simp only [fr_non]
  | .bl b, _ => by simp only [fr_bl]
  | .int i, _ => by simp only [fr_int]
  | .str s, _ => by simp only [fr_str]
  | .ty n, _ => rfl
  | .node k true xs, h => by rw [sl_own] at h; cases h
  | .node k false xs, h => by
    rw [sl_shd, List.all_eq_true] at h
    rw [fr_node]
    congr 1
    exact (List.map_congr_left fun d hd => fr_still (h d hd)).trans (List.map_id'' (fun _ => rfl) xs)
theorem sl_fr : ∀ d : D, d.frz.still = true
  | .unb => rfl
  | .non => by simp only [fr_non]; rfl
  | .bl b => by simp only [fr_bl]; rfl
  | .int i => by simp only [fr_int]; rfl
  | .str s => by simp only [fr_str]; rfl
  | .ty n => rfl
  | .node k o xs => by
    rw [fr_node, sl_shd, List.all_eq_true]
    intro d hd
    obtain ⟨e, he, rfl⟩ := List.mem_map.mp hd
    exact sl_fr e
theorem bd_fr {d : D} : d.frz.bound = d.bound := by cases d <;> rfl
theorem all_still {xs : List D} : (xs.map D.frz).all D.still = true := by
  rw [List.all_eq_true]
  intro d hd
  obtain ⟨e, he, rfl⟩ := List.mem_map.mp hd
  exact sl_fr e
theorem pt_int {i : Int} : partD (.int i) = some (some i) := rfl
theorem cut_lst {o : Bool} {xs : List D} {l h : Option Int} : cutD (.node .lst o xs) l h = some (.node .lst true (cutL xs l h)) := rfl
theorem cut_rol {o : Bool} {xs : List D} {l h : Option Int} : cutD (.node .rol o xs) l h = some (.node .lst true (cutL xs l h)) := rfl
theorem six_pos {n d : Nat} {m : Int} (h : 0 ≤ m) : HT.sIx n d (some m) = min m.toNat n := by
  show (if m < 0 then (m + (n : Int)).toNat else min m.toNat n) = _
  rw [if_neg (by omega)]
theorem cut_take {xs : List D} {n : Nat} : cutL xs none (some (no_index (OfNat.ofNat n))) = xs.take n := by
  show cutL xs none (some (n : Int)) = _
  unfold cutL
  rw [six_pos (by omega), HT.sIx_none, List.drop_zero, Nat.sub_zero, Int.toNat_natCast]
  by_cases h : n ≤ xs.length
  · rw [Nat.min_eq_left h]
  · rw [Nat.min_eq_right (by omega), List.take_length, List.take_of_length_le (by omega)]
theorem cut_drop {xs : List D} {n : Nat} : cutL xs (some (no_index (OfNat.ofNat n))) none = xs.drop n := by
  show cutL xs (some (n : Int)) none = _
  unfold cutL
  rw [six_pos (by omega), HT.sIx_none, Int.toNat_natCast]
  by_cases h : n ≤ xs.length
  · rw [Nat.min_eq_left h]
    exact List.take_of_length_le (by rw [List.length_drop]; omega)
  · rw [Nat.min_eq_right (by omega), List.drop_of_length_le (by omega), List.drop_of_length_le (by omega), List.take_nil]
theorem cut5_1 {o : Bool} {a b c d e : D} : cutD (.node .tup o [a, b, c, d, e]) (some 1) none = some (.node .tup true [b, c, d, e]) := rfl
theorem cut5_4 {o : Bool} {a b c d e : D} : cutD (.node .tup o [a, b, c, d, e]) none (some 4) = some (.node .tup true [a, b, c, d]) := rfl
theorem it_lst {o : Bool} {xs : List D} : itemsD (.node .lst o xs) = some xs := rfl
theorem it_rol {o : Bool} {xs : List D} : itemsD (.node .rol o xs) = some xs := rfl
theorem it_tup {o : Bool} {xs : List D} : itemsD (.node .tup o xs) = some xs := rfl
theorem fr_ints {l : List Int} : (l.map D.int).map D.frz = l.map D.int := by
  rw [List.map_map]
  exact List.map_congr_left fun i _ => fr_int
theorem bS_eq {i : Nat} {d : D} {η : List D} : bS i d η = stS false i d η := rfl
theorem bT2 {i j : Nat} {o : Bool} {a b : D} {η : List D} {Q : List D → Prop} : vO (bT [i, j] (.node .tup o [a, b]) η) Q = vO (stS false i a η) fun η1 => vO (stS false j b η1) Q := by
  show wO (match stS false i a η with
    | some η' => (match stS false j b η' with
      | some η' => some η'
      | none => none)
    | none => none) Q = wO (stS false i a η) fun η1 => wO (stS false j b η1) Q
  cases stS false i a η with
  | none => rfl
  | some η1 =>
    simp only [wO_some]
    cases stS false j b η1 <;> rfl
theorem vO_for_inv {bind : BM} {body : SM} {F : Fl → Prop} (I : Nat → List D → Prop) {items : List D} {η : List D} (h0 : I 0 η)
    (hs : ∀ j d η, items[j]? = some d → I j η → vO (bind d η) fun η1 => vS body η1 fun f => match f with
      | .nx η2 => I (j + 1) η2
      | .cnt η2 => I (j + 1) η2
      | .brk η2 => F (.nx η2)
      | f => F f) (hz : ∀ η, I items.length η → F (.nx η)) : vO (forL bind body items η) F :=
  wO_for_inv I items 0 η h0 (fun j d η hj hi => by
    rw [Nat.zero_add] at hi ⊢
    exact hs j d η hj hi) (fun η hi => hz η (by rw [Nat.zero_add] at hi; exact hi))
/-- what a comprehension's turns do -/
theorem vO_lc {bind : BM} {test : M Bool} {elt : M D} {Q : List D × List D → Prop} (I : Nat → List D → List D → Prop) {items η : List D} (h0 : I 0 [] η) (hl : items.length ≤ sizeLine)
    (hs : ∀ j d acc η, items[j]? = some d → I j acc η → vO (bind d η) fun η1 => vM test η1 (fun b η2 => wB b (vM elt η2 (fun x η3 => I (j + 1) (acc ++ [x]) η3) (fun _ _ _ => False)) (I (j + 1) acc η2)) (fun _ _ _ => False))
    (hz : ∀ acc η, I items.length acc η → Q (acc, η)) : vO (lcL bind test elt items [] η) Q :=
  lc_inv I items 0 [] η h0 (by rw [List.length_nil, Nat.zero_add]; exact hl) (fun j d acc η hj hi => by
    rw [Nat.zero_add] at hi ⊢
    exact hs j d acc η hj hi) (fun acc η hi => hz acc η (by rw [Nat.zero_add] at hi; exact hi))
theorem frzAt0 {η : List D} : frzAt [] η = η := rfl
theorem frzAt1 {i : Nat} {r : List Nat} {η : List D} : frzAt (i :: r) η = frzAt r (setFrz i η) := rfl
theorem wipeD0 {η : List D} : wipeD [] η = η := rfl
theorem wipeD1 {i : Nat} {r : List Nat} {η : List D} : wipeD (i :: r) η = (wipeD r η).set i .unb := rfl
theorem setFrz_w {i : Nat} {η : List D} : setFrz i η = match η[i]? with
  | some d => η.set i d.frz
  | none => η := rfl
theorem backD0 {ζ η : List D} : backD [] ζ η = η := rfl
theorem backD1 {i : Nat} {r : List Nat} {ζ η : List D} : backD (i :: r) ζ η = backD r ζ (match ζ[i]? with
  | some d => η.set i d
  | none => η) := rfl
section
variable {o : Bool} {xs : List D}
theorem co_ll : callO "list" (.node .lst o xs) = some (.node .lst true xs) := by kernel_rfl
theorem co_lr : callO "list" (.node .rol o xs) = some (.node .lst true xs) := by kernel_rfl
theorem co_lt : callO "list" (.node .tup o xs) = some (.node .lst true xs) := by kernel_rfl
theorem co_tl : callO "tuple" (.node .lst o xs) = some (.node .tup true xs) := by kernel_rfl
theorem co_tr : callO "tuple" (.node .rol o xs) = some (.node .tup true xs) := by kernel_rfl
theorem co_al : callO "all" (.node .lst o xs) = (blsD xs).map fun bs => .bl (bs.all id) := by kernel_rfl
theorem co_an : callO "any" (.node .lst o xs) = (blsD xs).map fun bs => .bl (bs.any id) := by kernel_rfl
end
theorem sl_le {n : Nat} : (n ≤ sizeLine) = (n ≤ 16777216) := by unfold sizeLine; rfl
/-! ### methods -/
def ownL : Option D → Option (List D)
  | some (.node .lst true xs) => some xs
  | _ => none
theorem ownL_eq {xs : List D} : ownL (some (.node .lst true xs)) = some xs := rfl
def wMe (q : Option (Nat × List Nat × D)) (L : Nat → List Nat → List D → Prop) (O : Nat → List Nat → Str → List Str → Bool → List D → Prop) (N : Prop) (u : Mk_ (L, O, N) := mk_) : Prop := match q with
  | some (i, p, .node .lst true xs) => L i p xs
  | some (i, p, .node (.obj x fs) ow xs) => O i p x fs ow xs
  | some _ => False
  | none => N
theorem wMe_l {i : Nat} {p : List Nat} {xs : List D} {L : Nat → List Nat → List D → Prop} {O : Nat → List Nat → Str → List Str → Bool → List D → Prop} {N : Prop} : wMe (some (i, p, .node .lst true xs)) L O N = L i p xs := rfl
theorem wMe_o {i : Nat} {p : List Nat} {x : Str} {fs : List Str} {ow : Bool} {xs : List D} {L : Nat → List Nat → List D → Prop} {O : Nat → List Nat → Str → List Str → Bool → List D → Prop} {N : Prop} : wMe (some (i, p, .node (.obj x fs) ow xs)) L O N = O i p x fs ow xs := rfl
theorem wMe_n {L : Nat → List Nat → List D → Prop} {O : Nat → List Nat → Str → List Str → Bool → List D → Prop} {N : Prop} : wMe none L O N = N := rfl
def isNilB : List Nat → Bool
  | [] => true
  | _ => false
section
variable {c : Cs} {m : Str} {n : Nat} {ks : List Str} {p : RP} {eo : M D} {kwE : Bool} {args : List (M D)} {axs : List RX} {as zs : List (M Arg)} {η : List D} {Q : D → List D → Prop} {X : Str → List (Str × D) → List D → Prop}
theorem vM_eMethE : vM (eMethE c m n ks eo as zs) η Q X = vM eo η (fun x η1 => match x with
    | .node (.obj y fs) ow xs => vO (c.methOf y m fs) fun fn => vO (findShape n ks fn.shapes) fun sh => vM (seqC as) η1 (fun as η2 => vM (seqC zs) η2 (fun zs η3 => vM (callF fn sh (.tmp (.node (.obj y fs) ow xs) :: (as ++ zs))) η3 Q X) X) X
    | _ => False) X := by
  refine (wM_bind).trans ?_
  show wM eo η _ X = wM eo η _ X
  congr 1
  funext x η1
  cases x <;> try rfl
  rename_i k o xs
  cases k <;> try rfl
  rename_i y fs
  show wM (match c.methOf y m fs with
    | some fn => (match findShape n ks fn.shapes with
      | some sh => mBind (seqC as) fun as => mBind (seqC zs) fun zs => callF fn sh (.tmp (.node (.obj y fs) o xs) :: (as ++ zs))
      | none => fun _ => none)
    | none => fun _ => none) η1 Q X = wO (c.methOf y m fs) _
  cases c.methOf y m fs with
  | none => rfl
  | some fn =>
    simp only [wO_some]
    show _ = wO (findShape n ks fn.shapes) _
    cases findShape n ks fn.shapes with
    | none => rfl
    | some sh =>
      simp only [wO_some, wM_bind]
      rfl
theorem vM_eMeth : vM (eMeth c m n ks p eo kwE args axs as zs) η Q X = wMe (p η)
    (fun i p xs0 => wA (kwE = true) (wA (isML m = true) (wB (isNilB p) (vM (seqC args) η (fun vs η1 => vO (ownL η1[i]?) fun xs => vO (methL m xs vs) fun q => Q q.1 (η1.set i (.node .lst true q.2))) X)
      (vO (axs.mapM (fun a => a η)) fun vs => vO η[i]? fun d0 => vO (methL m xs0 vs) fun q => Q q.1 (η.set i (d0.putAt p (.node .lst true q.2)))))))
    (fun i p x fs ow xs => vO (c.methOf x m fs) fun fn => vO (findShape n ks fn.shapes) fun sh => wB (isNilB p) (vM (seqC as) η (fun as η1 => vM (seqC zs) η1 (fun zs η2 => vM (callF fn sh (.slot i :: (as ++ zs))) η2 Q X) X) X)
      (wA ((D.node (.obj x fs) ow xs).still = true) (vM (seqC as) η (fun as η1 => vM (seqC zs) η1 (fun zs η2 => vM (callF fn sh (.tmp (.node (.obj x fs) ow xs) :: (as ++ zs))) η2 Q X) X) X)))
    (vM (eMethE c m n ks eo as zs) η Q X) := by
  unfold vM
  rcases hp : p η with _ | ⟨i, q, d⟩
  · show wM (eMeth c m n ks p eo kwE args axs as zs) η Q X = wM (eMethE c m n ks eo as zs) η Q X
    unfold wM eMeth
    simp only [hp]
  · have bad : ∀ {d}, (∀ xs, d ≠ .node .lst true xs) → (∀ x fs ow xs, d ≠ .node (.obj x fs) ow xs) → p η = some (i, q, d) → wM (eMeth c m n ks p eo kwE args axs as zs) η Q X = False := by
      intro d h1 h2 hp
      unfold wM eMeth
      simp only [hp]
      rcases d with _ | _ | _ | _ | _ | _ | ⟨k, o, xs⟩ <;> try rfl
      cases k with
      | lst => cases o with
        | false => rfl
        | true => exact absurd rfl (h1 xs)
      | rol => rfl
      | tup => rfl
      | obj x fs => exact absurd rfl (h2 x fs o xs)
    rcases d with _ | _ | _ | _ | _ | _ | ⟨k, o, xs⟩
    iterate 6 exact (bad (fun _ z => by cases z) (fun _ _ _ _ z => by cases z) hp).trans rfl
    cases k with
    | rol => exact (bad (fun _ z => by cases z) (fun _ _ _ _ z => by cases z) hp).trans rfl
    | tup => exact (bad (fun _ z => by cases z) (fun _ _ _ _ z => by cases z) hp).trans rfl
    | lst => cases o with
      | false => exact (bad (fun _ z => by cases z) (fun _ _ _ _ z => by cases z) hp).trans rfl
      | true =>
        show _ = (kwE = true ∧ isML m = true ∧ wB (isNilB q) _ _)
        cases kwE with
        | false => unfold wM eMeth; simp [hp]
        | true =>
          cases hm : isML m with
          | false => unfold wM eMeth; simp [hp, hm]
          | true =>
            simp only [true_and]
            cases q with
            | nil =>
              show _ = wM (seqC args) η _ X
              unfold wM eMeth
              simp only [hp, hm, Bool.not_true, Bool.or_false, if_false, if_true, Bool.false_eq_true]
              cases seqC args η with
              | none => rfl
              | some r => cases r with
                | exc x fs η1 => rfl
                | ok vs η1 =>
                  simp only
                  show _ = wO (ownL η1[i]?) _
                  cases h1 : η1[i]? with
                  | none => rfl
                  | some d =>
                    rcases d with _ | _ | _ | _ | _ | _ | ⟨k, o, ys⟩ <;> try rfl
                    cases k <;> try rfl
                    cases o <;> try rfl
                    simp only [ownL, wO_some]
                    show _ = wO (methL m ys vs) _
                    cases methL m ys vs with
                    | none => rfl
                    | some r => obtain ⟨d, zs⟩ := r; rfl
            | cons j r =>
              show _ = wO (axs.mapM (fun a => a η)) _
              unfold wM eMeth
              simp only [hp, hm, Bool.not_true, Bool.or_false, if_false, Bool.false_eq_true, reduceCtorEq]
              cases axs.mapM (fun a => a η) with
              | none => rfl
              | some vs =>
                simp only [wO_some]
                show _ = wO η[i]? _
                cases η[i]? with
                | none => rfl
                | some d0 =>
                  simp only [wO_some]
                  show _ = wO (methL m xs vs) _
                  cases methL m xs vs with
                  | none => rfl
                  | some r => obtain ⟨d, zs⟩ := r; rfl
    | obj x fs =>
      show _ = wO (c.methOf x m fs) _
      unfold wM eMeth
      simp only [hp]
      cases c.methOf x m fs with
      | none => rfl
      | some fn =>
        simp only [wO_some]
        show _ = wO (findShape n ks fn.shapes) _
        cases findShape n ks fn.shapes with
        | none => rfl
        | some sh =>
          simp only [wO_some]
          cases q with
          | nil =>
            show _ = wM (seqC as) η (fun as η1 => wM (seqC zs) η1 (fun zs η2 => wM (callF fn sh (.slot i :: (as ++ zs))) η2 Q X) X) X
            simp only [← wM_bind, if_true]
            rfl
          | cons j r =>
            show _ = ((D.node (.obj x fs) o xs).still = true ∧ wM (seqC as) η (fun as η1 => wM (seqC zs) η1 (fun zs η2 => wM (callF fn sh (.tmp (.node (.obj x fs) o xs) :: (as ++ zs))) η2 Q X) X) X)
            simp only [← wM_bind, reduceCtorEq, if_false]
            by_cases h : (D.node (.obj x fs) o xs).still = true
            · simp only [h, if_true, true_and]; rfl
            · rw [if_neg h]; simp only [h, false_and]; simp
end
theorem ml_a : isML "append" = true := by kernel_rfl
theorem ml_p : isML "pop" = true := by kernel_rfl
theorem ml_i : isML "insert" = true := by kernel_rfl
theorem nilB0 : isNilB [] = true := rfl
theorem nilB1 {j : Nat} {r : List Nat} : isNilB (j :: r) = false := rfl
theorem mth_app {xs : List D} {v : D} (h : xs.length < sizeLine) : methL "append" xs [v] = some (.non, xs ++ [v]) := by
  have e : methL "append" xs [v] = if xs.length < sizeLine then some (.non, xs ++ [v]) else none := by kernel_rfl
  rw [e, if_pos h]
theorem mth_pop {xs : List D} : methL "pop" xs [] = match xs.getLast? with
  | some x => some (x, xs.dropLast)
  | none => none := by kernel_rfl
theorem mth_ins {xs : List D} {i : Int} {v : D} (h : xs.length < sizeLine) (h0 : 0 ≤ i) (h1 : i < 2 ^ 63) : methL "insert" xs [.int i, v] = some (.non, xs.take i.toNat ++ [v] ++ xs.drop i.toNat) := by
  have e : methL "insert" xs [.int i, v] = if xs.length < sizeLine ∧ 0 ≤ i ∧ i < 2 ^ 63 then some (.non, xs.take i.toNat ++ [v] ++ xs.drop i.toNat) else none := by kernel_rfl
  rw [e, if_pos ⟨h, h0, h1⟩]
theorem rg_1 {j : Int} (h0 : 0 ≤ j) (h : j < 2 ^ 62) : rangeD 0 j 1 = some ((List.range j.toNat).map fun k => .int (k : Nat)) := by
  unfold rangeD
  rw [if_pos (by omega), if_pos rfl, Int.sub_zero]
  congr 1
  exact List.map_congr_left fun k _ => by rw [Int.zero_add]
theorem rgC_list {j : Int} (h0 : 0 ≤ j) (h : j ≤ 2 ^ 24) : rangeC "list" 0 j = some (.node .lst true ((List.range j.toNat).map fun k => .int (k : Nat))) := by
  have e : rangeC "list" 0 j = if -(2 ^ 62) ≤ (0 : Int) ∧ (0 : Int) < 2 ^ 62 ∧ -(2 ^ 62) ≤ j ∧ j < 2 ^ 62 ∧ (j - 0).toNat ≤ 2 ^ 24 then some (.node .lst true ((List.range (j - 0).toNat).map fun k => .int (0 + (k : Nat)))) else none := by kernel_rfl
  rw [e, if_pos (by omega), Int.sub_zero]
  congr 2
  exact List.map_congr_left fun k _ => by rw [Int.zero_add]
theorem setFrzP_w {i : Nat} {p : List Nat} {d : D} {η : List D} : setFrzP i p d η = match η[i]? with
  | some d0 => η.set i (d0.putAt p d.frz)
  | none => η := rfl
theorem putAt_nil {d x : D} : d.putAt [] x = x := by unfold D.putAt; rfl
theorem sl_lt {n : Nat} : (n < sizeLine) = (n < 16777216) := by unfold sizeLine; rfl
theorem bin_app {o p : Bool} {xs ys : List D} (h : xs.length + ys.length ≤ 16777216) : binD .Add (.node .lst o xs) (.node .lst p ys) = some (.node .lst true (xs ++ ys)) := if_pos (by rw [sl_le]; exact h)
theorem bin_tap {o p : Bool} {xs ys : List D} (h : xs.length + ys.length ≤ 16777216) : binD .Add (.node .tup o xs) (.node .tup p ys) = some (.node .tup (!xs.isEmpty && !ys.isEmpty) (xs ++ ys)) := if_pos (by rw [sl_le]; exact h)
theorem cd_in_ints {i : Int} {o : Bool} {l : List Int} : ∃ r, cmpD .In (.int i) (.node .lst o (l.map D.int)) = some r := by
  refine ⟨_, if_pos ?_⟩
  rw [show flatD (.int i) = true from rfl, Bool.true_and, List.all_eq_true]
  intro d hd
  obtain ⟨j, _, rfl⟩ := List.mem_map.mp hd
  rfl
theorem ints_still {l : List Int} : (l.map D.int).all D.still = true := by
  rw [List.all_eq_true]
  intro d hd
  obtain ⟨i, _, rfl⟩ := List.mem_map.mp hd
  rfl
section
variable {o : Bool} {a b c d e : D}
theorem cut5h1 : cutD (.node .tup o [a, b, c, d, e]) none (some 1) = some (.node .tup true [a]) := rfl
theorem cut5h2 : cutD (.node .tup o [a, b, c, d, e]) none (some 2) = some (.node .tup true [a, b]) := rfl
theorem cut5h3 : cutD (.node .tup o [a, b, c, d, e]) none (some 3) = some (.node .tup true [a, b, c]) := rfl
theorem cut5l2 : cutD (.node .tup o [a, b, c, d, e]) (some 2) none = some (.node .tup true [c, d, e]) := rfl
theorem cut5l3 : cutD (.node .tup o [a, b, c, d, e]) (some 3) none = some (.node .tup true [d, e]) := rfl
theorem cut5l4 : cutD (.node .tup o [a, b, c, d, e]) (some 4) none = some (.node .tup true [e]) := rfl
theorem cut5l5 : cutD (.node .tup o [a, b, c, d, e]) (some 5) none = some (.node .tup true []) := rfl
end
theorem bls_map {α : Type} {f : α → Bool} : ∀ {l : List α}, blsD (l.map fun d => .bl (f d)) = some (l.map f)
  | [] => rfl
  | d :: r => by
    show (blsD (r.map fun d => .bl (f d))).map (f d :: ·) = _
    rw [bls_map]; rfl
theorem fr_bls {α : Type} {f : α → Bool} {l : List α} : (l.map fun d => D.bl (f d)).map D.frz = l.map fun d => .bl (f d) := by
  rw [List.map_map]
  exact List.map_congr_left fun d _ => fr_bl
theorem all_bls {α : Type} {f : α → Bool} {o : Bool} {l : List α} : callO "all" (.node .lst o (l.map fun d => .bl (f d))) = some (.bl (l.all f)) := by
  rw [co_al, bls_map]
  simp only [Option.map_some, List.all_map]
  rfl
theorem cd_nil {o p : Bool} {xs : List D} : cmpD .Eq (.node .lst o xs) (.node .lst p []) = some xs.isEmpty := by
  show eqD (.node .lst o xs) (.node .lst p []) = _
  cases xs with
  | nil => rfl
  | cons x r =>
    show (match eqP (.node .lst o (x :: r)) (.node .lst p []) with
      | some r => some r
      | none => some false) = some false
    have : eqP (.node .lst o (x :: r)) (.node .lst p []) = none ∨ eqP (.node .lst o (x :: r)) (.node .lst p []) = some false := by
      unfold eqP
      rw [show (D.node .lst p []).py = some (.list []) from rfl]
      cases h : (D.node .lst o (x :: r)).py with
      | none => exact .inl rfl
      | some q =>
        simp only
        split
        · right
          have : ∃ y ys, q = .list (y :: ys) := by
            unfold D.py D.pyL at h
            cases hx : x.py with
            | none => rw [hx] at h; cases h
            | some y =>
              rw [hx] at h
              cases hr : D.pyL r with
              | none => rw [hr] at h; cases h
              | some ys => rw [hr] at h; cases h; exact ⟨y, ys, rfl⟩
          obtain ⟨y, ys, rfl⟩ := this
          rfl
        · exact .inl rfl
    rcases this with e | e <;> rw [e]
theorem sl_shd_iff {k : Kd} {o : Bool} {xs : List D} : (D.node k o xs).still = true ↔ o = false ∧ xs.all D.still = true := by
  cases o with
  | true => rw [sl_own]; simp
  | false => rw [sl_shd]; simp
theorem ncast {n : Nat} : ((no_index (OfNat.ofNat n) : Nat) : Int) = (OfNat.ofNat n : Int) := rfl
theorem putAt1 {k : Kd} {o : Bool} {xs : List D} {j : Nat} {x : D} : (D.node k o xs).putAt [j] x = .node k o (xs.set j x) := by
  unfold D.putAt
  rw [putAt_nil]
theorem mapM1 {x : RX} {η : List D} {Q : List D → Prop} : vO ([x].mapM fun a => a η) Q = vO (x η) fun d => Q [d] := by
  cases h : x η <;> simp [vO, wO, h]
theorem mapM0 {η : List D} {Q : List D → Prop} : vO (([] : List RX).mapM fun a => a η) Q = Q [] := rfl
theorem tr_lst {o : Bool} {xs : List D} : truthD (.node .lst o xs) = some (!xs.isEmpty) := rfl
theorem wIx_nat {i : Nat} {p : List Nat} {xs : List D} {m : Int} {x : D} (h0 : 0 ≤ m) (hx : xs[m.toNat]? = some x) : wIx i p xs m = some (i, p ++ [m.toNat], x) := wIx_eq (by omega) hx
theorem while_v {t : M Bool} {body : SM} {F : Fl → Prop} (I : List D → Prop) (μ : List D → Nat) {n : Nat} {η : List D} (h0 : I η) (hn : μ η < n)
    (hs : ∀ η, I η → vM t η (fun b η1 => wB b (vS body η1 fun f => match f with
        | .nx η2 => I η2 ∧ μ η2 < μ η
        | .cnt η2 => I η2 ∧ μ η2 < μ η
        | .brk η2 => F (.nx η2)
        | f => F f) (F (.nx η1))) (fun c fs η1 => F (.exc c fs η1))) : vO (whileL t body n η) F := wO_while I μ n η h0 hn hs
theorem ixN_pos {n : Nat} {m : Int} (h : 0 ≤ m) (h2 : m < n) : ixN n m = some m.toNat := by
  unfold ixN; rw [if_pos h, if_pos h2]
theorem iteT {α : Sort _} {a b : α} : (if true = true then a else b) = a := rfl
theorem iteF {α : Sort _} {a b : α} : (if false = true then a else b) = b := rfl
section
variable {c : Cs} {op : CmpOp} {y : D} {i j : Int} {a b : Bool} {s t : Str}
theorem cx_int : c.cmpX op (.int i) y = cmpD op (.int i) y := by unfold Cs.cmpX Cs.ownEq; cases op <;> rfl
theorem cx_str : c.cmpX op (.str s) y = cmpD op (.str s) y := by unfold Cs.cmpX Cs.ownEq; cases op <;> rfl
theorem cx_bl : c.cmpX op (.bl a) y = cmpD op (.bl a) y := by unfold Cs.cmpX Cs.ownEq; cases op <;> rfl
theorem cx_non : c.cmpX op .non y = cmpD op .non y := by unfold Cs.cmpX Cs.ownEq; cases op <;> rfl
theorem cx_lst {o : Bool} {xs : List D} : c.cmpX op (.node .lst o xs) y = cmpD op (.node .lst o xs) y := by unfold Cs.cmpX Cs.ownEq; cases op <;> rfl
theorem cx_rol {o : Bool} {xs : List D} : c.cmpX op (.node .rol o xs) y = cmpD op (.node .rol o xs) y := by unfold Cs.cmpX Cs.ownEq; cases op <;> rfl
theorem cx_tup {o : Bool} {xs : List D} : c.cmpX op (.node .tup o xs) y = cmpD op (.node .tup o xs) y := by unfold Cs.cmpX Cs.ownEq; cases op <;> rfl
theorem cd_eq_int : cmpD .Eq (.int i) (.int j) = some (decide (i = j)) := rfl
theorem cd_ne_int : cmpD .NotEq (.int i) (.int j) = some (!decide (i = j)) := rfl
theorem cd_lt_int : cmpD .Lt (.int i) (.int j) = some (decide (i < j)) := rfl
theorem cd_le_int : cmpD .LtE (.int i) (.int j) = some (decide (i ≤ j)) := rfl
theorem cd_gt_int : cmpD .Gt (.int i) (.int j) = some (decide (j < i)) := rfl
theorem cd_ge_int : cmpD .GtE (.int i) (.int j) = some (decide (j ≤ i)) := rfl
theorem cd_eq_str : cmpD .Eq (.str s) (.str t) = some (decide (s = t)) := rfl
theorem cd_ne_str : cmpD .NotEq (.str s) (.str t) = some (!decide (s = t)) := rfl
theorem cd_eq_bl : cmpD .Eq (.bl a) (.bl b) = some (decide (a = b)) := rfl
theorem cd_ne_bl : cmpD .NotEq (.bl a) (.bl b) = some (!decide (a = b)) := rfl
theorem cd_is {d : D} (h : d.bound = true) : cmpD .Is d .non = some (match d with
  | .non => true
  | _ => false) := by cases d <;> first | rfl | cases h
theorem cd_isn {d : D} (h : d.bound = true) : cmpD .IsNot d .non = some (match d with
  | .non => false
  | _ => true) := by cases d <;> first | rfl | cases h
theorem cx_is {d : D} : c.cmpX .Is d y = cmpD .Is d y := rfl
theorem cx_isn {d : D} : c.cmpX .IsNot d y = cmpD .IsNot d y := rfl
theorem cx_in {d : D} : c.cmpX .In d y = cmpD .In d y := rfl
theorem cx_nin {d : D} : c.cmpX .NotIn d y = cmpD .NotIn d y := rfl
theorem cx_ne {d : D} : c.cmpX .NotEq d y = cmpD .NotEq d y := rfl
theorem is_non : cmpD .Is .non .non = some true := rfl
theorem is_int : cmpD .Is (.int i) .non = some false := rfl
theorem is_bl : cmpD .Is (.bl a) .non = some false := rfl
theorem is_str : cmpD .Is (.str s) .non = some false := rfl
theorem is_node {k : Kd} {o : Bool} {xs : List D} : cmpD .Is (.node k o xs) .non = some false := rfl
theorem isn_non : cmpD .IsNot .non .non = some false := rfl
theorem isn_int : cmpD .IsNot (.int i) .non = some true := rfl
theorem isn_bl : cmpD .IsNot (.bl a) .non = some true := rfl
theorem isn_str : cmpD .IsNot (.str s) .non = some true := rfl
theorem isn_node {k : Kd} {o : Bool} {xs : List D} : cmpD .IsNot (.node k o xs) .non = some true := rfl
theorem bin_add : binD .Add (.int i) (.int j) = some (.int (i + j)) := rfl
theorem bin_sub : binD .Sub (.int i) (.int j) = some (.int (i - j)) := rfl
theorem bin_mul (h : -(2 ^ 64) < j ∧ j < 2 ^ 64) : binD .Mult (.int i) (.int j) = some (.int (i * j)) := if_pos (.inr h)
theorem bin_mod (h : j ≠ 0) : binD .Mod (.int i) (.int j) = some (.int (i.fmod j)) := if_pos h
theorem bin_div (h : j ≠ 0) (h2 : j.natAbs < 1073741824) : binD .FloorDiv (.int i) (.int j) = some (.int (i.fdiv j)) := if_pos ⟨h, h2⟩
theorem bin_pow (h : 0 ≤ j ∧ j ≤ 1000000) (h2 : i.natAbs < 2 ^ 64) : binD .Pow (.int i) (.int j) = some (.int (i ^ j.toNat)) := if_pos ⟨h.1, h.2, h2⟩
theorem bin_mul_l {n : Nat} (h : n < 2 ^ 64) : binD .Mult (.int i) (.int (no_index (OfNat.ofNat n))) = some (.int (i * (OfNat.ofNat n : Int))) := bin_mul (show -(2 ^ 64) < (n : Int) ∧ (n : Int) < 2 ^ 64 by omega)
theorem bin_mod_l {n : Nat} (h : 0 < n) : binD .Mod (.int i) (.int (no_index (OfNat.ofNat n))) = some (.int (i.fmod (OfNat.ofNat n : Int))) := bin_mod (show (n : Int) ≠ 0 by omega)
theorem bin_div_l {n : Nat} (h : 0 < n) (h2 : n < 1073741824) : binD .FloorDiv (.int i) (.int (no_index (OfNat.ofNat n))) = some (.int (i.fdiv (OfNat.ofNat n : Int))) := bin_div (show (n : Int) ≠ 0 by omega) (show (n : Int).natAbs < 1073741824 by omega)
theorem bin_10_18 : binD .Pow (.int 10) (.int 18) = some (.int 1000000000000000000) := by kernel_rfl
theorem bin_10_30 : binD .Pow (.int 10) (.int 30) = some (.int 1000000000000000000000000000000) := by kernel_rfl
theorem ln_lst {o : Bool} {xs : List D} : lenD (.node .lst o xs) = some xs.length := rfl
theorem ln_rol {o : Bool} {xs : List D} : lenD (.node .rol o xs) = some xs.length := rfl
theorem ln_tup {o : Bool} {xs : List D} : lenD (.node .tup o xs) = some xs.length := rfl
theorem ks_lst {k : Kd} {o : Bool} {xs : List D} : kidsStill (.node k o xs) = xs.all D.still := by show D.stillL xs = _; exact stillL_all xs
theorem tr_bl : truthD (.bl a) = some a := rfl
theorem tr_int : truthD (.int i) = some (i != 0) := rfl
theorem cb_int : callB "int" [.int i] = some (.int i) := rfl
theorem cb_abs : callB "abs" [.int i] = some (.int (if i < 0 then -i else i)) := by kernel_rfl
theorem cb_min : callB "min" [.int i, .int j] = some (.int (if j < i then j else i)) := by kernel_rfl
end
/-- the runner's rules, as rewriting rules -/
local macro_rules | `(tactic| walk_at "z") => `(tactic| simp only [vM_bind, vM_pure, vM_opt, vM_frz, vM_sq0, vM_sq1, vM_eK, vM_eS, vM_eTup, vM_eLst, vM_eBin, vM_eNeg, vM_eNot, vM_eAnd, vM_eOr, vM_eIf, vM_eCmp, vM_eCmp2, vM_ptN, vM_ptE, vM_eCut, vM_eSub, vM_ePth, vM_aS, vM_aE, vM_callF, vM_eCall, vM_eLen, vM_eIsa, vM_eO, vM_eBf, vM_rR, vM_rO, vM_iE, vM_iR1, vM_iR3, vM_iEn, vM_iZp, vM_tAnd, vM_tOr, vM_tNot, vM_tE, vM_tY, vM_xcE, vS_q0, vS_q1, vS_pass, vS_ret0, vS_ret, vS_retS, vS_exp, vS_asg, vS_unp, vS_par, vS_setI, vS_setA, vS_if, vS_for, vS_wh, vS_rs, vS_try, vO_some, vO_map, List.getElem?_cons_zero, List.getElem?_cons_succ, List.set_cons_zero, List.set_cons_succ, bd_int, bd_str, bd_bl, bd_non, bd_node, fr_int, fr_str, fr_bl, fr_non, fr_node, fr_unb, fr_fr, fr_map, sl_fr, bd_fr, all_still, sl_int, sl_str, sl_bl, sl_non, sl_own, sl_shd, wTk, wTk0, wTs, gb0, gb1, gb2, vPth, wayS_eq, wayI_w, wWay_n, wWay_n0, wWay_l, wWay_r, wWay_t, wWay_int, wWay_str, wIx_lit, pt_int, cut_lst, cut_rol, cut_take, cut_drop, cut5_1, cut5_4, true_or, or_true, false_or, or_false, and_self, true_and, and_true, reduceCtorEq, putAt1, mapM1, mapM0, tr_lst, fr_bls, bls_map, ncast, Int.reduceEq, Int.reduceLT, Int.reduceLE, eq_self, decide_true, decide_false, cx_is, cx_isn, cx_in, cx_nin, cx_ne, is_non, is_int, is_bl, is_str, is_node, isn_non, isn_int, isn_bl, isn_str, isn_node, Bool.not_true, Bool.not_false, cd_nil, cut5h1, cut5h2, cut5h3, cut5l2, cut5l3, cut5l4, cut5l5, Int.reduceAdd, co_lt, vM_eMeth, vM_eMethE, ownL_eq, wMe_l, wMe_o, wMe_n, ml_a, ml_p, ml_i, nilB0, nilB1, vM_eRg1, co_ll, co_lr, co_lt, co_tl, co_tr, co_al, co_an, ints_still, setFrzP_w, putAt_nil, sl_lt, sl_le, Nat.reduceLeDiff, it_lst, it_rol, it_tup, fr_ints, bS_eq, bT2, vM_lc, frzAt0, frzAt1, wipeD0, wipeD1, setFrz_w, backD0, backD1, xP_w, wXP_int, setI_w, wSet_lit, xK_eq, xNo_eq, wayN_eq, xS_eq, cx_int, cx_str, cx_bl, cx_non, cx_lst, cx_tup, cx_rol, cd_eq_int, cd_ne_int, cd_lt_int, cd_le_int, cd_gt_int, cd_ge_int, cd_eq_str, cd_ne_str, cd_eq_bl, cd_ne_bl, bin_add, bin_sub, bin_mul_l, bin_mod_l, bin_div_l, bin_10_18, bin_10_30, ln_lst, ln_rol, ln_tup, ks_lst, Nat.reducePow, List.length_map, tr_bl, tr_int, cb_int, cb_abs, cb_min, wA_T, wA_r, wB_T, wB_F, wPO_s, wPO_n, st_ok, wRes, List.cons_append, List.nil_append, List.append_nil, List.all_cons, List.all_nil, Bool.true_and, Bool.and_true, List.map_cons, List.map_nil, List.length_cons, List.length_nil, Nat.reduceAdd, Nat.reduceSub, Nat.reduceLT, Nat.lt_add_left_iff_pos, List.replicate, if_true, Bool.and_self, Option.map, pick1, pick2, pick3, pick4])
end Z

set_option Elab.async false
set_option linter.all false
set_option maxRecDepth 100000
set_option maxHeartbeats 4000000
namespace Z
open PySem PySem.Spec PyProof.Rows L2
local macro_rules | `(tactic| walk_at "z") => `(tactic| simp only [vM_bind, vM_pure, vM_opt, vM_frz, vM_sq0, vM_sq1, vM_eK, vM_eS, vM_eTup, vM_eLst, vM_eBin, vM_eNeg, vM_eNot, vM_eAnd, vM_eOr, vM_eIf, vM_eCmp, vM_eCmp2, vM_ptN, vM_ptE, vM_eCut, vM_eSub, vM_ePth, vM_aS, vM_aE, vM_callF, vM_eCall, vM_eLen, vM_eIsa, vM_eO, vM_eBf, vM_rR, vM_rO, vM_iE, vM_iR1, vM_iR3, vM_iEn, vM_iZp, vM_tAnd, vM_tOr, vM_tNot, vM_tE, vM_tY, vM_xcE, vS_q0, vS_q1, vS_pass, vS_ret0, vS_ret, vS_retS, vS_exp, vS_asg, vS_unp, vS_par, vS_setI, vS_setA, vS_if, vS_for, vS_wh, vS_rs, vS_try, vO_some, vO_map, List.getElem?_cons_zero, List.getElem?_cons_succ, List.set_cons_zero, List.set_cons_succ, bd_int, bd_str, bd_bl, bd_non, bd_node, fr_int, fr_str, fr_bl, fr_non, fr_node, fr_unb, fr_fr, fr_map, sl_fr, bd_fr, all_still, sl_int, sl_str, sl_bl, sl_non, sl_own, sl_shd, wTk, wTk0, wTs, gb0, gb1, gb2, vPth, wayS_eq, wayI_w, wWay_n, wWay_n0, wWay_l, wWay_r, wWay_t, wWay_int, wWay_str, wIx_lit, pt_int, cut_lst, cut_rol, cut_take, cut_drop, cut5_1, cut5_4, true_or, or_true, false_or, or_false, and_self, true_and, and_true, reduceCtorEq, putAt1, mapM1, mapM0, tr_lst, fr_bls, bls_map, ncast, Int.reduceEq, Int.reduceLT, Int.reduceLE, eq_self, decide_true, decide_false, cx_is, cx_isn, cx_in, cx_nin, cx_ne, is_non, is_int, is_bl, is_str, is_node, isn_non, isn_int, isn_bl, isn_str, isn_node, Bool.not_true, Bool.not_false, cd_nil, cut5h1, cut5h2, cut5h3, cut5l2, cut5l3, cut5l4, cut5l5, Int.reduceAdd, co_lt, vM_eMeth, vM_eMethE, ownL_eq, wMe_l, wMe_o, wMe_n, ml_a, ml_p, ml_i, nilB0, nilB1, vM_eRg1, co_ll, co_lr, co_lt, co_tl, co_tr, co_al, co_an, ints_still, setFrzP_w, putAt_nil, sl_lt, sl_le, Nat.reduceLeDiff, it_lst, it_rol, it_tup, fr_ints, bS_eq, bT2, vM_lc, frzAt0, frzAt1, wipeD0, wipeD1, setFrz_w, backD0, backD1, xP_w, wXP_int, setI_w, wSet_lit, xK_eq, xNo_eq, wayN_eq, xS_eq, cx_int, cx_str, cx_bl, cx_non, cx_lst, cx_tup, cx_rol, cd_eq_int, cd_ne_int, cd_lt_int, cd_le_int, cd_gt_int, cd_ge_int, cd_eq_str, cd_ne_str, cd_eq_bl, cd_ne_bl, bin_add, bin_sub, bin_mul_l, bin_mod_l, bin_div_l, bin_10_18, bin_10_30, ln_lst, ln_rol, ln_tup, ks_lst, Nat.reducePow, List.length_map, tr_bl, tr_int, cb_int, cb_abs, cb_min, wA_T, wA_r, wB_T, wB_F, wPO_s, wPO_n, st_ok, wRes, List.cons_append, List.nil_append, List.append_nil, List.all_cons, List.all_nil, Bool.true_and, Bool.and_true, List.map_cons, List.map_nil, List.length_cons, List.length_nil, Nat.reduceAdd, Nat.reduceSub, Nat.reduceLT, Nat.lt_add_left_iff_pos, List.replicate, if_true, Bool.and_self, Option.map, pick1, pick2, pick3, pick4, kp_is_color_0, kp__is_child_0, kp__is_child_1, kp__is_node_0, kp__is_node_1, kp__parents_0, kp_worded_0, kp_Book___init___0, kp_Book___init___1, kp_Book_nodes_0, kp_Book___eq___0, kp_Book___eq___1, kp__law_bag_0, kp__law_draw_0, kp__law_draw_1, kp__law_of_0, kp__law_of_1, kp__law_same_0, kq__law_same_0, kp__law_same_1, kq__law_same_1, kp__law_placed_0, kp__law_placed_1, kp__law_free_0, kp__law_free_1, kp__law_grown_0, kp__law_grown_1, kp__law_shape_0, kp__law_shape_1, kp__law_net_0, kp__law_any_0, kp__law_any_1, kp__law_made_0, kp__law_made_1, kp__law_is_node_0, kp__law_is_node_1, kp__law_due_0, kp__law_bent_0, kp__law_bent_1, kp__law_bent_2, kp__law_bent_3, kp_law_0, isa_is_color_0_non, isa_is_color_0_bl, isa_is_color_0_int, isa_is_color_0_str, isa_is_color_0_lst, isa_is_color_0_rol, isa_is_color_0_tup, isa_is_color_0_oBook, isa__is_child_0_non, isa__is_child_0_bl, isa__is_child_0_int, isa__is_child_0_str, isa__is_child_0_lst, isa__is_child_0_rol, isa__is_child_0_tup, isa__is_child_0_oBook, isa__is_child_1_non, isa__is_child_1_bl, isa__is_child_1_int, isa__is_child_1_str, isa__is_child_1_lst, isa__is_child_1_rol, isa__is_child_1_tup, isa__is_child_1_oBook, isa__is_node_0_non, isa__is_node_0_bl, isa__is_node_0_int, isa__is_node_0_str, isa__is_node_0_lst, isa__is_node_0_rol, isa__is_node_0_tup, isa__is_node_0_oBook, isa__is_node_1_non, isa__is_node_1_bl, isa__is_node_1_int, isa__is_node_1_str, isa__is_node_1_lst, isa__is_node_1_rol, isa__is_node_1_tup, isa__is_node_1_oBook, isa_Book___init___0_non, isa_Book___init___0_bl, isa_Book___init___0_int, isa_Book___init___0_str, isa_Book___init___0_lst, isa_Book___init___0_rol, isa_Book___init___0_tup, isa_Book___init___0_oBook, isa_Book___eq___0_non, isa_Book___eq___0_bl, isa_Book___eq___0_int, isa_Book___eq___0_str, isa_Book___eq___0_lst, isa_Book___eq___0_rol, isa_Book___eq___0_tup, isa_Book___eq___0_oBook, isa__law_same_0_non, isa__law_same_0_bl, isa__law_same_0_int, isa__law_same_0_str, isa__law_same_0_lst, isa__law_same_0_rol, isa__law_same_0_tup, isa__law_same_0_oBook, isa__law_same_1_non, isa__law_same_1_bl, isa__law_same_1_int, isa__law_same_1_str, isa__law_same_1_lst, isa__law_same_1_rol, isa__law_same_1_tup, isa__law_same_1_oBook, isa__law_same_2_non, isa__law_same_2_bl, isa__law_same_2_int, isa__law_same_2_str, isa__law_same_2_lst, isa__law_same_2_rol, isa__law_same_2_tup, isa__law_same_2_oBook, isa__law_same_3_non, isa__law_same_3_bl, isa__law_same_3_int, isa__law_same_3_str, isa__law_same_3_lst, isa__law_same_3_rol, isa__law_same_3_tup, isa__law_same_3_oBook, isa__law_same_4_non, isa__law_same_4_bl, isa__law_same_4_int, isa__law_same_4_str, isa__law_same_4_lst, isa__law_same_4_rol, isa__law_same_4_tup, isa__law_same_4_oBook, isa__law_same_5_non, isa__law_same_5_bl, isa__law_same_5_int, isa__law_same_5_str, isa__law_same_5_lst, isa__law_same_5_rol, isa__law_same_5_tup, isa__law_same_5_oBook, isa__law_is_node_0_non, isa__law_is_node_0_bl, isa__law_is_node_0_int, isa__law_is_node_0_str, isa__law_is_node_0_lst, isa__law_is_node_0_rol, isa__law_is_node_0_tup, isa__law_is_node_0_oBook, isa__law_is_node_1_non, isa__law_is_node_1_bl, isa__law_is_node_1_int, isa__law_is_node_1_str, isa__law_is_node_1_lst, isa__law_is_node_1_rol, isa__law_is_node_1_tup, isa__law_is_node_1_oBook, isa__law_is_node_2_non, isa__law_is_node_2_bl, isa__law_is_node_2_int, isa__law_is_node_2_str, isa__law_is_node_2_lst, isa__law_is_node_2_rol, isa__law_is_node_2_tup, isa__law_is_node_2_oBook, isa__law_is_node_3_non, isa__law_is_node_3_bl, isa__law_is_node_3_int, isa__law_is_node_3_str, isa__law_is_node_3_lst, isa__law_is_node_3_rol, isa__law_is_node_3_tup, isa__law_is_node_3_oBook, isa__law_due_0_non, isa__law_due_0_bl, isa__law_due_0_int, isa__law_due_0_str, isa__law_due_0_lst, isa__law_due_0_rol, isa__law_due_0_tup, isa__law_due_0_oBook])
local macro_rules | `(tactic| walk_at "zs") => `(tactic| simp only [vM_bind, vM_pure, vM_opt, vM_frz, vM_sq0, vM_sq1, vM_eK, vM_eS, vM_eTup, vM_eLst, vM_eBin, vM_eNeg, vM_eNot, vM_eAnd, vM_eOr, vM_eIf, vM_eCmp, vM_eCmp2, vM_ptN, vM_ptE, vM_eCut, vM_eSub, vM_ePth, vM_aS, vM_aE, vM_callF, vM_eCall, vM_eLen, vM_eIsa, vM_eO, vM_eBf, vM_rR, vM_rO, vM_iE, vM_iR1, vM_iR3, vM_iEn, vM_iZp, vM_tAnd, vM_tOr, vM_tNot, vM_tE, vM_tY, vM_xcE, vS_q0, vS_q1, vS_pass, vS_ret0, vS_ret, vS_retS, vS_exp, vS_asg, vS_unp, vS_par, vS_setI, vS_setA, vS_if, vS_for, vS_wh, vS_rs, vS_try, vO_some, vO_map, List.getElem?_cons_zero, List.getElem?_cons_succ, List.set_cons_zero, List.set_cons_succ, bd_int, bd_str, bd_bl, bd_non, bd_node, fr_int, fr_str, fr_bl, fr_non, fr_node, fr_unb, fr_fr, fr_map, sl_fr, bd_fr, all_still, sl_int, sl_str, sl_bl, sl_non, sl_own, sl_shd, wTk, wTk0, wTs, gb0, gb1, gb2, vPth, wayS_eq, wayI_w, wWay_n, wWay_n0, wWay_l, wWay_r, wWay_t, wWay_int, wWay_str, wIx_lit, pt_int, cut_lst, cut_rol, cut_take, cut_drop, cut5_1, cut5_4, true_or, or_true, false_or, or_false, and_self, true_and, and_true, reduceCtorEq, putAt1, mapM1, mapM0, tr_lst, fr_bls, bls_map, ncast, Int.reduceEq, Int.reduceLT, Int.reduceLE, eq_self, decide_true, decide_false, cx_is, cx_isn, cx_in, cx_nin, cx_ne, is_non, is_int, is_bl, is_str, is_node, isn_non, isn_int, isn_bl, isn_str, isn_node, Bool.not_true, Bool.not_false, cd_nil, cut5h1, cut5h2, cut5h3, cut5l2, cut5l3, cut5l4, cut5l5, Int.reduceAdd, co_lt, vM_eMeth, vM_eMethE, ownL_eq, wMe_l, wMe_o, wMe_n, ml_a, ml_p, ml_i, nilB0, nilB1, vM_eRg1, co_ll, co_lr, co_lt, co_tl, co_tr, co_al, co_an, ints_still, setFrzP_w, putAt_nil, sl_lt, sl_le, Nat.reduceLeDiff, it_lst, it_rol, it_tup, fr_ints, bS_eq, bT2, vM_lc, frzAt0, frzAt1, wipeD0, wipeD1, setFrz_w, backD0, backD1, xP_w, wXP_int, setI_w, wSet_lit, xK_eq, xNo_eq, wayN_eq, xS_eq, cx_int, cx_str, cx_bl, cx_non, cx_lst, cx_tup, cx_rol, cd_eq_int, cd_ne_int, cd_lt_int, cd_le_int, cd_gt_int, cd_ge_int, cd_eq_str, cd_ne_str, cd_eq_bl, cd_ne_bl, bin_add, bin_sub, bin_mul_l, bin_mod_l, bin_div_l, bin_10_18, bin_10_30, ln_lst, ln_rol, ln_tup, ks_lst, Nat.reducePow, List.length_map, tr_bl, tr_int, cb_int, cb_abs, cb_min, wA_T, wA_r, wB_T, wB_F, wPO_s, wPO_n, st_ok, wRes, List.cons_append, List.nil_append, List.append_nil, List.all_cons, List.all_nil, Bool.true_and, Bool.and_true, List.map_cons, List.map_nil, List.length_cons, List.length_nil, Nat.reduceAdd, Nat.reduceSub, Nat.reduceLT, Nat.lt_add_left_iff_pos, List.replicate, if_true, Bool.and_self, Option.map, pick1, pick2, pick3, pick4, kp_is_color_0, kp__is_child_0, kp__is_child_1, kp__is_node_0, kp__is_node_1, kp__parents_0, kp_worded_0, kp_Book___init___0, kp_Book___init___1, kp_Book_nodes_0, kp_Book___eq___0, kp_Book___eq___1, kp__law_bag_0, kp__law_draw_0, kp__law_draw_1, kp__law_of_0, kp__law_of_1, kp__law_same_0, kq__law_same_0, kp__law_same_1, kq__law_same_1, kp__law_placed_0, kp__law_placed_1, kp__law_free_0, kp__law_free_1, kp__law_grown_0, kp__law_grown_1, kp__law_shape_0, kp__law_shape_1, kp__law_net_0, kp__law_any_0, kp__law_any_1, kp__law_made_0, kp__law_made_1, kp__law_is_node_0, kp__law_is_node_1, kp__law_due_0, kp__law_bent_0, kp__law_bent_1, kp__law_bent_2, kp__law_bent_3, kp_law_0, isa_is_color_0_non, isa_is_color_0_bl, isa_is_color_0_int, isa_is_color_0_str, isa_is_color_0_lst, isa_is_color_0_rol, isa_is_color_0_tup, isa_is_color_0_oBook, isa__is_child_0_non, isa__is_child_0_bl, isa__is_child_0_int, isa__is_child_0_str, isa__is_child_0_lst, isa__is_child_0_rol, isa__is_child_0_tup, isa__is_child_0_oBook, isa__is_child_1_non, isa__is_child_1_bl, isa__is_child_1_int, isa__is_child_1_str, isa__is_child_1_lst, isa__is_child_1_rol, isa__is_child_1_tup, isa__is_child_1_oBook, isa__is_node_0_non, isa__is_node_0_bl, isa__is_node_0_int, isa__is_node_0_str, isa__is_node_0_lst, isa__is_node_0_rol, isa__is_node_0_tup, isa__is_node_0_oBook, isa__is_node_1_non, isa__is_node_1_bl, isa__is_node_1_int, isa__is_node_1_str, isa__is_node_1_lst, isa__is_node_1_rol, isa__is_node_1_tup, isa__is_node_1_oBook, isa_Book___init___0_non, isa_Book___init___0_bl, isa_Book___init___0_int, isa_Book___init___0_str, isa_Book___init___0_lst, isa_Book___init___0_rol, isa_Book___init___0_tup, isa_Book___init___0_oBook, isa_Book___eq___0_non, isa_Book___eq___0_bl, isa_Book___eq___0_int, isa_Book___eq___0_str, isa_Book___eq___0_lst, isa_Book___eq___0_rol, isa_Book___eq___0_tup, isa_Book___eq___0_oBook, isa__law_same_0_non, isa__law_same_0_bl, isa__law_same_0_int, isa__law_same_0_str, isa__law_same_0_lst, isa__law_same_0_rol, isa__law_same_0_tup, isa__law_same_0_oBook, isa__law_same_1_non, isa__law_same_1_bl, isa__law_same_1_int, isa__law_same_1_str, isa__law_same_1_lst, isa__law_same_1_rol, isa__law_same_1_tup, isa__law_same_1_oBook, isa__law_same_2_non, isa__law_same_2_bl, isa__law_same_2_int, isa__law_same_2_str, isa__law_same_2_lst, isa__law_same_2_rol, isa__law_same_2_tup, isa__law_same_2_oBook, isa__law_same_3_non, isa__law_same_3_bl, isa__law_same_3_int, isa__law_same_3_str, isa__law_same_3_lst, isa__law_same_3_rol, isa__law_same_3_tup, isa__law_same_3_oBook, isa__law_same_4_non, isa__law_same_4_bl, isa__law_same_4_int, isa__law_same_4_str, isa__law_same_4_lst, isa__law_same_4_rol, isa__law_same_4_tup, isa__law_same_4_oBook, isa__law_same_5_non, isa__law_same_5_bl, isa__law_same_5_int, isa__law_same_5_str, isa__law_same_5_lst, isa__law_same_5_rol, isa__law_same_5_tup, isa__law_same_5_oBook, isa__law_is_node_0_non, isa__law_is_node_0_bl, isa__law_is_node_0_int, isa__law_is_node_0_str, isa__law_is_node_0_lst, isa__law_is_node_0_rol, isa__law_is_node_0_tup, isa__law_is_node_0_oBook, isa__law_is_node_1_non, isa__law_is_node_1_bl, isa__law_is_node_1_int, isa__law_is_node_1_str, isa__law_is_node_1_lst, isa__law_is_node_1_rol, isa__law_is_node_1_tup, isa__law_is_node_1_oBook, isa__law_is_node_2_non, isa__law_is_node_2_bl, isa__law_is_node_2_int, isa__law_is_node_2_str, isa__law_is_node_2_lst, isa__law_is_node_2_rol, isa__law_is_node_2_tup, isa__law_is_node_2_oBook, isa__law_is_node_3_non, isa__law_is_node_3_bl, isa__law_is_node_3_int, isa__law_is_node_3_str, isa__law_is_node_3_lst, isa__law_is_node_3_rol, isa__law_is_node_3_tup, isa__law_is_node_3_oBook, isa__law_due_0_non, isa__law_due_0_bl, isa__law_due_0_int, isa__law_due_0_str, isa__law_due_0_lst, isa__law_due_0_rol, isa__law_due_0_tup, isa__law_due_0_oBook, *])
def BagOk (b : D) : Prop := ∃ (o : Bool) (cs : List Int) (p r m n : Int), b = .node .lst true [.node .lst o (cs.map .int), .int p, .int r, .int m, .int n] ∧ 0 ≤ p ∧ 0 ≤ r ∧ 0 ≤ m ∧ m < 2 ^ 40 ∧ 0 ≤ n ∧ cs.length ≤ 2 ^ 20
theorem draw_ok {b : D} {j : Int} {Q : FRes → Prop} (hb : BagOk b) (h1 : 0 < j) (h2 : j < 1073741824) (h : ∀ (k : Int) (b' : D), BagOk b' → 0 ≤ k → k < j → Q (.ret (.int k) [b', .int j])) : vF F__law_draw.run [b, .int j] Q := by
  refine vF_runC rfl ?_
  unfold S__law_draw
  have fin : ∀ (k : Int) (b' : D) (r : List D), BagOk b' → 0 ≤ k → k < j → Q (.ret (.int k) (outD 2 P__law_draw (b' :: .int j :: r))) := fun k b' r hb h1 h2 => h k b' hb h1 h2
  have hj : j ≠ 0 := by omega
  have hj2 : j.natAbs < 1073741824 := by omega
  refine vS_cut (fun η => ∃ b', BagOk b' ∧ η = [b', .int j, .unb, .unb, .unb]) ?_ ?_
  · obtain ⟨o, cs, p, r, m, n, rfl, hp, hr, hm, hm2, hn, hc⟩ := hb
    walk_at "z"
    exact ⟨_, ⟨o, cs, p, r, m, n + 1, rfl, hp, hr, hm, hm2, by omega, hc⟩, rfl⟩
  rintro _ ⟨b', hb', rfl⟩
  refine vS_cut (fun η => ∃ b' x, BagOk b' ∧ η = [b', .int j, x, .unb, .unb]) ?_ ?_
  · obtain ⟨o, cs, p, r, m, n, rfl, hp, hr, hm, hm2, hn, hc⟩ := hb'
    walk_at "z"
    refine wB_i (fun e => ?_) (fun e => ?_)
    · walk_at "z"
      refine wB_i (fun e2 => ?_) (fun e2 => ?_)
      · simp only [decide_eq_true_eq, List.length_map] at e2
        have hpl : p.toNat < cs.length := by omega
        have hx : wIx 0 [0] (List.map D.int cs) p = some (0, [0] ++ [p.toNat], .int cs[p.toNat]) := wIx_eq (by omega) (by rw [List.getElem?_map, List.getElem?_eq_getElem hpl]; rfl)
        walk_at "z"
        rw [hx]
        walk_at "z"
        refine wB_i (fun e3 => ?_) (fun e3 => ?_)
        · walk_at "z"
          exact ⟨_, _, ⟨o, cs, p + 1, _, m, n, rfl, by omega, by split <;> omega, hm, hm2, hn, hc⟩, rfl⟩
        · walk_at "z"
          have h9 : ∀ q : Int, 0 ≤ q.fmod 2147483587 ∧ q.fmod 2147483587 < 2147483587 := fun q => ⟨Int.fmod_nonneg_of_pos _ (by decide), Int.fmod_lt_of_pos _ (by decide)⟩
          exact ⟨_, _, ⟨o, cs, p + 1, _, _, n, rfl, by omega, hr, (h9 _).1, Int.lt_trans (h9 _).2 (by decide), hn, hc⟩, rfl⟩
      · walk_at "z"
        exact ⟨_, _, ⟨o, cs, p, r, m, n, rfl, hp, hr, hm, hm2, hn, hc⟩, rfl⟩
    · walk_at "z"
      exact ⟨_, _, ⟨o, cs, p, r, m, n, rfl, hp, hr, hm, hm2, hn, hc⟩, rfl⟩
  rintro _ ⟨b', x, hb', rfl⟩
  obtain ⟨o, cs, p, r, m, n, rfl, hp, hr, hm, hm2, hn, hc⟩ := hb'
  walk_at "z"
  refine wB_i (fun e => ?_) (fun e => ?_)
  · simp only [decide_eq_true_eq] at e
    walk_at "z"
    rw [bin_mod hj]
    walk_at "z"
    rw [bin_div hj hj2]
    walk_at "z"
    exact fin _ _ _ ⟨o, cs, p, _, m, n, rfl, hp, by exact Int.fdiv_nonneg hr (by omega), hm, hm2, hn, hc⟩ (Int.fmod_nonneg hr (by omega)) (Int.fmod_lt_of_pos _ h1)
  · walk_at "z"
    rw [bin_pow (by decide) (by omega)]
    walk_at "z"
    rw [bin_mod hj]
    walk_at "z"
    have hq : 0 ≤ m ^ Int.toNat 3 + m * 47111 + n * 110323 + 60089 := by
      have : 0 ≤ m ^ Int.toNat 3 := Int.pow_nonneg hm
      omega
    generalize m ^ Int.toNat 3 + m * 47111 + n * 110323 + 60089 = z at hq ⊢
    have hy : 0 ≤ z.fmod 2147483549 := Int.fmod_nonneg hq (by decide)
    have h3 : 0 ≤ (z.fmod 2147483549).fdiv 71 := Int.fdiv_nonneg hy (by decide)
    have h4 : 0 ≤ (z.fmod 2147483549).fmod 8017 := Int.fmod_nonneg hy (by decide)
    have h5 : z.fmod 2147483549 < 2147483549 := Int.fmod_lt_of_pos _ (by decide)
    exact fin _ _ _ ⟨o, cs, p, r, _, n, rfl, hp, hr, hy, by omega, hn, hc⟩ (Int.fmod_nonneg (by omega) (by omega)) (Int.fmod_lt_of_pos _ h1)

theorem BagOk.bd {b : D} (h : BagOk b) : b.bound = true := by obtain ⟨_, _, _, _, _, _, rfl, _⟩ := h; rfl
theorem BagOk.sl {b : D} (h : BagOk b) : b.still = false := by obtain ⟨_, _, _, _, _, _, rfl, _⟩ := h; exact sl_own
def IsSeq (k : Kd) : Prop := k = .lst ∨ k = .rol ∨ k = .tup
theorem of_ok {b : D} {kd : Kd} {o : Bool} {xs : List D} {Q : FRes → Prop} (hb : BagOk b) (hk : IsSeq kd) (h1 : 0 < xs.length) (h2 : xs.length < 1073741824) (h : ∀ x ∈ xs, ∀ b', BagOk b' → Q (.ret x.frz [b', .node kd false (xs.map D.frz)])) : vF F__law_of.run [b, .node kd o xs] Q := by
  refine vF_runC rfl ?_
  unfold S__law_of
  have hbd := hb.bd
  have hsl := hb.sl
  have hk2 := hk
  rcases hk with rfl | rfl | rfl
  all_goals
    walk_at "zs"
    refine draw_ok hb (by omega) (by omega) fun k b' hb' hk0 hk1 => ?_
    have hx : k.toNat < xs.length := by omega
    walk_at "z"
    rw [idx_ok (j := k.toNat) (x := (xs[k.toNat]).frz) hk2 (by omega) (by rw [List.getElem?_map, List.getElem?_eq_getElem hx]; rfl)]
    walk_at "z"
    exact h _ (List.getElem_mem hx) b' hb'
def chars (s : Str) : List Str := s.cps.toList.map fun c => ⟨#[c]⟩
theorem of_str_ok {b : D} {s : Str} {Q : FRes → Prop} (hb : BagOk b) (h1 : 0 < s.length) (h2 : s.length < 1000000) (h : ∀ x ∈ chars s, ∀ b', BagOk b' → Q (.ret (.str x) [b', .str s])) : vF F__law_of.run [b, .str s] Q := by
  refine vF_runC rfl ?_
  unfold S__law_of
  have hbd := hb.bd
  have hsl := hb.sl
  have hle : s.length ≤ sizeLine := by unfold sizeLine; omega
  have hl : lenD (.str s) = some s.length := if_pos hle
  walk_at "zs"
  refine draw_ok hb (by omega) (by omega) fun k b' hb' hk0 hk1 => ?_
  have hx : k.toNat < s.cps.toList.length := by rw [Array.length_toList]; have : s.length = s.cps.size := rfl; omega
  walk_at "z"
  have e : idxD (.str s) (.int k) = some (.str ⟨#[s.cps.toList[k.toNat]]⟩) := by
    refine (if_pos hle).trans ?_
    have : atI s.cps.toList k = some s.cps.toList[k.toNat] := by
      unfold atI
      rw [ixN_pos hk0 (by omega)]
      simp only [Option.bind_some, List.getElem?_eq_getElem hx]
    rw [this]; rfl
  rw [e]
  walk_at "z"
  exact h _ (List.mem_map.mpr ⟨_, List.getElem_mem hx, rfl⟩) b' hb'
/-- a script's bag -/
theorem bag_ok {ns : List Int} {Q : FRes → Prop} (hn : ns.length ≤ 63) (h : ∀ b, BagOk b → Q (.ret b [scriptD ns])) : vF F__law_bag.run [scriptD ns] Q := by
  refine vF_runC rfl ?_
  unfold S__law_bag scriptD
  have ht : (ns.map D.int).take 63 = ns.map D.int := List.take_of_length_le (by rw [List.length_map]; exact hn)
  have h9 : ∀ q : Int, 0 ≤ q.fmod 2147483579 ∧ q.fmod 2147483579 < 2147483579 := fun q => ⟨Int.fmod_nonneg_of_pos _ (by decide), Int.fmod_lt_of_pos _ (by decide)⟩
  walk_at "zs"
  refine vO_for_inv (fun _ η => ∃ m x, η = [.node .rol false (ns.map D.int), .int m, x] ∧ 0 ≤ m ∧ m < 2 ^ 40) ⟨_, _, rfl, by decide, by decide⟩ ?_ ?_
  · rintro j d _ hd ⟨m, x, rfl, hm, hm2⟩
    rw [List.getElem?_map, Option.map_eq_some_iff] at hd
    obtain ⟨i, _, rfl⟩ := hd
    walk_at "z"
    exact ⟨_, _, rfl, (h9 _).1, Int.lt_trans (h9 _).2 (by decide)⟩
  · rintro _ ⟨m, x, rfl, hm, hm2⟩
    walk_at "zs"
    exact h _ ⟨true, ns, 0, 0, m, 0, rfl, by decide, by decide, hm, hm2, by decide, by omega⟩
theorem of_okP {b : D} {kd : Kd} {o : Bool} {xs : List D} {Q : FRes → Prop} (P : D → Prop) (hb : BagOk b) (hk : IsSeq kd) (h1 : 0 < xs.length) (h2 : xs.length < 1073741824) (hP : ∀ x ∈ xs, P x.frz) (h : ∀ d, P d → ∀ b', BagOk b' → Q (.ret d [b', .node kd false (xs.map D.frz)])) : vF F__law_of.run [b, .node kd o xs] Q :=
  of_ok hb hk h1 h2 fun x hx b' hb' => h _ (hP x hx) b' hb'
theorem of_okB {b : D} {kd : Kd} {o : Bool} {xs : List D} {Q : FRes → Prop} (p : D → Bool) (hb : BagOk b) (hk : IsSeq kd) (h1 : 0 < xs.length) (h2 : xs.length < 1073741824) (hP : xs.all (fun x => p x.frz) = true) (h : ∀ d, p d = true → ∀ b', BagOk b' → Q (.ret d [b', .node kd false (xs.map D.frz)])) : vF F__law_of.run [b, .node kd o xs] Q :=
  of_ok hb hk h1 h2 fun x hx b' hb' => h _ (by rw [List.all_eq_true] at hP; exact hP x hx) b' hb'
def isI : D → Bool
  | .int _ => true
  | _ => false
def isInts : D → Bool
  | .node .lst false xs => xs.all isI
  | _ => false
theorem isInts_get {d : D} (h : isInts d = true) : ∃ l : List Int, d = .node .lst false (l.map .int) := by
  unfold isInts at h
  split at h
  · rename_i xs
    suffices ∃ l : List Int, xs = l.map .int by
      obtain ⟨l, rfl⟩ := this
      exact ⟨l, rfl⟩
    rw [List.all_eq_true] at h
    induction xs with
    | nil => exact ⟨[], rfl⟩
    | cons x r ih =>
      obtain ⟨l, rfl⟩ := ih fun y hy => h y (List.mem_cons_of_mem _ hy)
      have hx := h x List.mem_cons_self
      cases x <;> try cases hx
      rename_i i
      exact ⟨i :: l, rfl⟩
  · cases h
end Z

set_option Elab.async false
set_option linter.all false
set_option maxRecDepth 100000
set_option maxHeartbeats 4000000
namespace Z
open PySem PySem.Spec PyProof.Rows L2
local macro_rules | `(tactic| walk_at "z") => `(tactic| simp only [vM_bind, vM_pure, vM_opt, vM_frz, vM_sq0, vM_sq1, vM_eK, vM_eS, vM_eTup, vM_eLst, vM_eBin, vM_eNeg, vM_eNot, vM_eAnd, vM_eOr, vM_eIf, vM_eCmp, vM_eCmp2, vM_ptN, vM_ptE, vM_eCut, vM_eSub, vM_ePth, vM_aS, vM_aE, vM_callF, vM_eCall, vM_eLen, vM_eIsa, vM_eO, vM_eBf, vM_rR, vM_rO, vM_iE, vM_iR1, vM_iR3, vM_iEn, vM_iZp, vM_tAnd, vM_tOr, vM_tNot, vM_tE, vM_tY, vM_xcE, vS_q0, vS_q1, vS_pass, vS_ret0, vS_ret, vS_retS, vS_exp, vS_asg, vS_unp, vS_par, vS_setI, vS_setA, vS_if, vS_for, vS_wh, vS_rs, vS_try, vO_some, vO_map, List.getElem?_cons_zero, List.getElem?_cons_succ, List.set_cons_zero, List.set_cons_succ, bd_int, bd_str, bd_bl, bd_non, bd_node, fr_int, fr_str, fr_bl, fr_non, fr_node, fr_unb, fr_fr, fr_map, sl_fr, bd_fr, all_still, sl_int, sl_str, sl_bl, sl_non, sl_own, sl_shd, wTk, wTk0, wTs, gb0, gb1, gb2, vPth, wayS_eq, wayI_w, wWay_n, wWay_n0, wWay_l, wWay_r, wWay_t, wWay_int, wWay_str, wIx_lit, pt_int, cut_lst, cut_rol, cut_take, cut_drop, cut5_1, cut5_4, true_or, or_true, false_or, or_false, and_self, true_and, and_true, reduceCtorEq, putAt1, mapM1, mapM0, tr_lst, fr_bls, bls_map, ncast, Int.reduceEq, Int.reduceLT, Int.reduceLE, eq_self, decide_true, decide_false, cx_is, cx_isn, cx_in, cx_nin, cx_ne, is_non, is_int, is_bl, is_str, is_node, isn_non, isn_int, isn_bl, isn_str, isn_node, Bool.not_true, Bool.not_false, cd_nil, cut5h1, cut5h2, cut5h3, cut5l2, cut5l3, cut5l4, cut5l5, Int.reduceAdd, co_lt, vM_eMeth, vM_eMethE, ownL_eq, wMe_l, wMe_o, wMe_n, ml_a, ml_p, ml_i, nilB0, nilB1, vM_eRg1, co_ll, co_lr, co_lt, co_tl, co_tr, co_al, co_an, ints_still, setFrzP_w, putAt_nil, sl_lt, sl_le, Nat.reduceLeDiff, it_lst, it_rol, it_tup, fr_ints, bS_eq, bT2, vM_lc, frzAt0, frzAt1, wipeD0, wipeD1, setFrz_w, backD0, backD1, xP_w, wXP_int, setI_w, wSet_lit, xK_eq, xNo_eq, wayN_eq, xS_eq, cx_int, cx_str, cx_bl, cx_non, cx_lst, cx_tup, cx_rol, cd_eq_int, cd_ne_int, cd_lt_int, cd_le_int, cd_gt_int, cd_ge_int, cd_eq_str, cd_ne_str, cd_eq_bl, cd_ne_bl, bin_add, bin_sub, bin_mul_l, bin_mod_l, bin_div_l, bin_10_18, bin_10_30, ln_lst, ln_rol, ln_tup, ks_lst, Nat.reducePow, List.length_map, tr_bl, tr_int, cb_int, cb_abs, cb_min, wA_T, wA_r, wB_T, wB_F, wPO_s, wPO_n, st_ok, wRes, List.cons_append, List.nil_append, List.append_nil, List.all_cons, List.all_nil, Bool.true_and, Bool.and_true, List.map_cons, List.map_nil, List.length_cons, List.length_nil, Nat.reduceAdd, Nat.reduceSub, Nat.reduceLT, Nat.lt_add_left_iff_pos, List.replicate, if_true, Bool.and_self, Option.map, pick1, pick2, pick3, pick4, kp_is_color_0, kp__is_child_0, kp__is_child_1, kp__is_node_0, kp__is_node_1, kp__parents_0, kp_worded_0, kp_Book___init___0, kp_Book___init___1, kp_Book_nodes_0, kp_Book___eq___0, kp_Book___eq___1, kp__law_bag_0, kp__law_draw_0, kp__law_draw_1, kp__law_of_0, kp__law_of_1, kp__law_same_0, kq__law_same_0, kp__law_same_1, kq__law_same_1, kp__law_placed_0, kp__law_placed_1, kp__law_free_0, kp__law_free_1, kp__law_grown_0, kp__law_grown_1, kp__law_shape_0, kp__law_shape_1, kp__law_net_0, kp__law_any_0, kp__law_any_1, kp__law_made_0, kp__law_made_1, kp__law_is_node_0, kp__law_is_node_1, kp__law_due_0, kp__law_bent_0, kp__law_bent_1, kp__law_bent_2, kp__law_bent_3, kp_law_0, isa_is_color_0_non, isa_is_color_0_bl, isa_is_color_0_int, isa_is_color_0_str, isa_is_color_0_lst, isa_is_color_0_rol, isa_is_color_0_tup, isa_is_color_0_oBook, isa__is_child_0_non, isa__is_child_0_bl, isa__is_child_0_int, isa__is_child_0_str, isa__is_child_0_lst, isa__is_child_0_rol, isa__is_child_0_tup, isa__is_child_0_oBook, isa__is_child_1_non, isa__is_child_1_bl, isa__is_child_1_int, isa__is_child_1_str, isa__is_child_1_lst, isa__is_child_1_rol, isa__is_child_1_tup, isa__is_child_1_oBook, isa__is_node_0_non, isa__is_node_0_bl, isa__is_node_0_int, isa__is_node_0_str, isa__is_node_0_lst, isa__is_node_0_rol, isa__is_node_0_tup, isa__is_node_0_oBook, isa__is_node_1_non, isa__is_node_1_bl, isa__is_node_1_int, isa__is_node_1_str, isa__is_node_1_lst, isa__is_node_1_rol, isa__is_node_1_tup, isa__is_node_1_oBook, isa_Book___init___0_non, isa_Book___init___0_bl, isa_Book___init___0_int, isa_Book___init___0_str, isa_Book___init___0_lst, isa_Book___init___0_rol, isa_Book___init___0_tup, isa_Book___init___0_oBook, isa_Book___eq___0_non, isa_Book___eq___0_bl, isa_Book___eq___0_int, isa_Book___eq___0_str, isa_Book___eq___0_lst, isa_Book___eq___0_rol, isa_Book___eq___0_tup, isa_Book___eq___0_oBook, isa__law_same_0_non, isa__law_same_0_bl, isa__law_same_0_int, isa__law_same_0_str, isa__law_same_0_lst, isa__law_same_0_rol, isa__law_same_0_tup, isa__law_same_0_oBook, isa__law_same_1_non, isa__law_same_1_bl, isa__law_same_1_int, isa__law_same_1_str, isa__law_same_1_lst, isa__law_same_1_rol, isa__law_same_1_tup, isa__law_same_1_oBook, isa__law_same_2_non, isa__law_same_2_bl, isa__law_same_2_int, isa__law_same_2_str, isa__law_same_2_lst, isa__law_same_2_rol, isa__law_same_2_tup, isa__law_same_2_oBook, isa__law_same_3_non, isa__law_same_3_bl, isa__law_same_3_int, isa__law_same_3_str, isa__law_same_3_lst, isa__law_same_3_rol, isa__law_same_3_tup, isa__law_same_3_oBook, isa__law_same_4_non, isa__law_same_4_bl, isa__law_same_4_int, isa__law_same_4_str, isa__law_same_4_lst, isa__law_same_4_rol, isa__law_same_4_tup, isa__law_same_4_oBook, isa__law_same_5_non, isa__law_same_5_bl, isa__law_same_5_int, isa__law_same_5_str, isa__law_same_5_lst, isa__law_same_5_rol, isa__law_same_5_tup, isa__law_same_5_oBook, isa__law_is_node_0_non, isa__law_is_node_0_bl, isa__law_is_node_0_int, isa__law_is_node_0_str, isa__law_is_node_0_lst, isa__law_is_node_0_rol, isa__law_is_node_0_tup, isa__law_is_node_0_oBook, isa__law_is_node_1_non, isa__law_is_node_1_bl, isa__law_is_node_1_int, isa__law_is_node_1_str, isa__law_is_node_1_lst, isa__law_is_node_1_rol, isa__law_is_node_1_tup, isa__law_is_node_1_oBook, isa__law_is_node_2_non, isa__law_is_node_2_bl, isa__law_is_node_2_int, isa__law_is_node_2_str, isa__law_is_node_2_lst, isa__law_is_node_2_rol, isa__law_is_node_2_tup, isa__law_is_node_2_oBook, isa__law_is_node_3_non, isa__law_is_node_3_bl, isa__law_is_node_3_int, isa__law_is_node_3_str, isa__law_is_node_3_lst, isa__law_is_node_3_rol, isa__law_is_node_3_tup, isa__law_is_node_3_oBook, isa__law_due_0_non, isa__law_due_0_bl, isa__law_due_0_int, isa__law_due_0_str, isa__law_due_0_lst, isa__law_due_0_rol, isa__law_due_0_tup, isa__law_due_0_oBook])
local macro_rules | `(tactic| walk_at "zs") => `(tactic| simp only [vM_bind, vM_pure, vM_opt, vM_frz, vM_sq0, vM_sq1, vM_eK, vM_eS, vM_eTup, vM_eLst, vM_eBin, vM_eNeg, vM_eNot, vM_eAnd, vM_eOr, vM_eIf, vM_eCmp, vM_eCmp2, vM_ptN, vM_ptE, vM_eCut, vM_eSub, vM_ePth, vM_aS, vM_aE, vM_callF, vM_eCall, vM_eLen, vM_eIsa, vM_eO, vM_eBf, vM_rR, vM_rO, vM_iE, vM_iR1, vM_iR3, vM_iEn, vM_iZp, vM_tAnd, vM_tOr, vM_tNot, vM_tE, vM_tY, vM_xcE, vS_q0, vS_q1, vS_pass, vS_ret0, vS_ret, vS_retS, vS_exp, vS_asg, vS_unp, vS_par, vS_setI, vS_setA, vS_if, vS_for, vS_wh, vS_rs, vS_try, vO_some, vO_map, List.getElem?_cons_zero, List.getElem?_cons_succ, List.set_cons_zero, List.set_cons_succ, bd_int, bd_str, bd_bl, bd_non, bd_node, fr_int, fr_str, fr_bl, fr_non, fr_node, fr_unb, fr_fr, fr_map, sl_fr, bd_fr, all_still, sl_int, sl_str, sl_bl, sl_non, sl_own, sl_shd, wTk, wTk0, wTs, gb0, gb1, gb2, vPth, wayS_eq, wayI_w, wWay_n, wWay_n0, wWay_l, wWay_r, wWay_t, wWay_int, wWay_str, wIx_lit, pt_int, cut_lst, cut_rol, cut_take, cut_drop, cut5_1, cut5_4, true_or, or_true, false_or, or_false, and_self, true_and, and_true, reduceCtorEq, putAt1, mapM1, mapM0, tr_lst, fr_bls, bls_map, ncast, Int.reduceEq, Int.reduceLT, Int.reduceLE, eq_self, decide_true, decide_false, cx_is, cx_isn, cx_in, cx_nin, cx_ne, is_non, is_int, is_bl, is_str, is_node, isn_non, isn_int, isn_bl, isn_str, isn_node, Bool.not_true, Bool.not_false, cd_nil, cut5h1, cut5h2, cut5h3, cut5l2, cut5l3, cut5l4, cut5l5, Int.reduceAdd, co_lt, vM_eMeth, vM_eMethE, ownL_eq, wMe_l, wMe_o, wMe_n, ml_a, ml_p, ml_i, nilB0, nilB1, vM_eRg1, co_ll, co_lr, co_lt, co_tl, co_tr, co_al, co_an, ints_still, setFrzP_w, putAt_nil, sl_lt, sl_le, Nat.reduceLeDiff, it_lst, it_rol, it_tup, fr_ints, bS_eq, bT2, vM_lc, frzAt0, frzAt1, wipeD0, wipeD1, setFrz_w, backD0, backD1, xP_w, wXP_int, setI_w, wSet_lit, xK_eq, xNo_eq, wayN_eq, xS_eq, cx_int, cx_str, cx_bl, cx_non, cx_lst, cx_tup, cx_rol, cd_eq_int, cd_ne_int, cd_lt_int, cd_le_int, cd_gt_int, cd_ge_int, cd_eq_str, cd_ne_str, cd_eq_bl, cd_ne_bl, bin_add, bin_sub, bin_mul_l, bin_mod_l, bin_div_l, bin_10_18, bin_10_30, ln_lst, ln_rol, ln_tup, ks_lst, Nat.reducePow, List.length_map, tr_bl, tr_int, cb_int, cb_abs, cb_min, wA_T, wA_r, wB_T, wB_F, wPO_s, wPO_n, st_ok, wRes, List.cons_append, List.nil_append, List.append_nil, List.all_cons, List.all_nil, Bool.true_and, Bool.and_true, List.map_cons, List.map_nil, List.length_cons, List.length_nil, Nat.reduceAdd, Nat.reduceSub, Nat.reduceLT, Nat.lt_add_left_iff_pos, List.replicate, if_true, Bool.and_self, Option.map, pick1, pick2, pick3, pick4, kp_is_color_0, kp__is_child_0, kp__is_child_1, kp__is_node_0, kp__is_node_1, kp__parents_0, kp_worded_0, kp_Book___init___0, kp_Book___init___1, kp_Book_nodes_0, kp_Book___eq___0, kp_Book___eq___1, kp__law_bag_0, kp__law_draw_0, kp__law_draw_1, kp__law_of_0, kp__law_of_1, kp__law_same_0, kq__law_same_0, kp__law_same_1, kq__law_same_1, kp__law_placed_0, kp__law_placed_1, kp__law_free_0, kp__law_free_1, kp__law_grown_0, kp__law_grown_1, kp__law_shape_0, kp__law_shape_1, kp__law_net_0, kp__law_any_0, kp__law_any_1, kp__law_made_0, kp__law_made_1, kp__law_is_node_0, kp__law_is_node_1, kp__law_due_0, kp__law_bent_0, kp__law_bent_1, kp__law_bent_2, kp__law_bent_3, kp_law_0, isa_is_color_0_non, isa_is_color_0_bl, isa_is_color_0_int, isa_is_color_0_str, isa_is_color_0_lst, isa_is_color_0_rol, isa_is_color_0_tup, isa_is_color_0_oBook, isa__is_child_0_non, isa__is_child_0_bl, isa__is_child_0_int, isa__is_child_0_str, isa__is_child_0_lst, isa__is_child_0_rol, isa__is_child_0_tup, isa__is_child_0_oBook, isa__is_child_1_non, isa__is_child_1_bl, isa__is_child_1_int, isa__is_child_1_str, isa__is_child_1_lst, isa__is_child_1_rol, isa__is_child_1_tup, isa__is_child_1_oBook, isa__is_node_0_non, isa__is_node_0_bl, isa__is_node_0_int, isa__is_node_0_str, isa__is_node_0_lst, isa__is_node_0_rol, isa__is_node_0_tup, isa__is_node_0_oBook, isa__is_node_1_non, isa__is_node_1_bl, isa__is_node_1_int, isa__is_node_1_str, isa__is_node_1_lst, isa__is_node_1_rol, isa__is_node_1_tup, isa__is_node_1_oBook, isa_Book___init___0_non, isa_Book___init___0_bl, isa_Book___init___0_int, isa_Book___init___0_str, isa_Book___init___0_lst, isa_Book___init___0_rol, isa_Book___init___0_tup, isa_Book___init___0_oBook, isa_Book___eq___0_non, isa_Book___eq___0_bl, isa_Book___eq___0_int, isa_Book___eq___0_str, isa_Book___eq___0_lst, isa_Book___eq___0_rol, isa_Book___eq___0_tup, isa_Book___eq___0_oBook, isa__law_same_0_non, isa__law_same_0_bl, isa__law_same_0_int, isa__law_same_0_str, isa__law_same_0_lst, isa__law_same_0_rol, isa__law_same_0_tup, isa__law_same_0_oBook, isa__law_same_1_non, isa__law_same_1_bl, isa__law_same_1_int, isa__law_same_1_str, isa__law_same_1_lst, isa__law_same_1_rol, isa__law_same_1_tup, isa__law_same_1_oBook, isa__law_same_2_non, isa__law_same_2_bl, isa__law_same_2_int, isa__law_same_2_str, isa__law_same_2_lst, isa__law_same_2_rol, isa__law_same_2_tup, isa__law_same_2_oBook, isa__law_same_3_non, isa__law_same_3_bl, isa__law_same_3_int, isa__law_same_3_str, isa__law_same_3_lst, isa__law_same_3_rol, isa__law_same_3_tup, isa__law_same_3_oBook, isa__law_same_4_non, isa__law_same_4_bl, isa__law_same_4_int, isa__law_same_4_str, isa__law_same_4_lst, isa__law_same_4_rol, isa__law_same_4_tup, isa__law_same_4_oBook, isa__law_same_5_non, isa__law_same_5_bl, isa__law_same_5_int, isa__law_same_5_str, isa__law_same_5_lst, isa__law_same_5_rol, isa__law_same_5_tup, isa__law_same_5_oBook, isa__law_is_node_0_non, isa__law_is_node_0_bl, isa__law_is_node_0_int, isa__law_is_node_0_str, isa__law_is_node_0_lst, isa__law_is_node_0_rol, isa__law_is_node_0_tup, isa__law_is_node_0_oBook, isa__law_is_node_1_non, isa__law_is_node_1_bl, isa__law_is_node_1_int, isa__law_is_node_1_str, isa__law_is_node_1_lst, isa__law_is_node_1_rol, isa__law_is_node_1_tup, isa__law_is_node_1_oBook, isa__law_is_node_2_non, isa__law_is_node_2_bl, isa__law_is_node_2_int, isa__law_is_node_2_str, isa__law_is_node_2_lst, isa__law_is_node_2_rol, isa__law_is_node_2_tup, isa__law_is_node_2_oBook, isa__law_is_node_3_non, isa__law_is_node_3_bl, isa__law_is_node_3_int, isa__law_is_node_3_str, isa__law_is_node_3_lst, isa__law_is_node_3_rol, isa__law_is_node_3_tup, isa__law_is_node_3_oBook, isa__law_due_0_non, isa__law_due_0_bl, isa__law_due_0_int, isa__law_due_0_str, isa__law_due_0_lst, isa__law_due_0_rol, isa__law_due_0_tup, isa__law_due_0_oBook, *])
/-! ## values that the law makes -/
def STRS : List Str := ["", "x", "y", "z", "a", "-", "ab", "e", "X", "a\n", " ", "w", "xy", "x\n", "0", "node", "made", "many"]
def PBn : D := .node .lst false [.node .tup false [.str "x", .int 0, .non, .non, .non]]
def PB : D := .node (.obj "Book" ["_nodes", "_worded"]) false [PBn, .node .lst false [.bl true]]
/-- plain values, nested n deep at most -/
inductive Pl : Nat → D → Prop
  | non {n} : Pl n .non
  | bl {n b} : Pl n (.bl b)
  | int {n i} : Pl n (.int i)
  | str {n s} (h : s ∈ STRS) : Pl n (.str s)
  | lst {n o xs} (hl : xs.length ≤ 1000) (h : ∀ x ∈ xs, Pl n x) : Pl (n + 1) (.node .lst o xs)
  | tup {n o xs} (hl : xs.length ≤ 1000) (h : ∀ x ∈ xs, Pl n x) : Pl (n + 1) (.node .tup o xs)
  | pb {n d} (h : d.frz = PB) (hb : d.bound = true) : Pl (n + 1) d
theorem PB_fr : PB.frz = PB := by unfold PB PBn; simp only [fr_node, List.map_cons, List.map_nil, fr_str, fr_int, fr_non, fr_bl]
theorem Pl.frz {n : Nat} {d : D} (h : Pl n d) : Pl n d.frz := by
  induction h with
  | non => rw [fr_non]; exact .non
  | bl => rw [fr_bl]; exact .bl
  | int => rw [fr_int]; exact .int
  | str h => rw [fr_str]; exact .str h
  | lst hl h ih =>
    rw [fr_node]
    refine .lst (by rw [List.length_map]; exact hl) fun x hx => ?_
    obtain ⟨y, hy, rfl⟩ := List.mem_map.mp hx
    exact ih y hy
  | tup hl h ih =>
    rw [fr_node]
    refine .tup (by rw [List.length_map]; exact hl) fun x hx => ?_
    obtain ⟨y, hy, rfl⟩ := List.mem_map.mp hx
    exact ih y hy
  | pb h hb => rw [h]; exact .pb PB_fr rfl
theorem Pl.bd {n : Nat} {d : D} (h : Pl n d) : d.bound = true := by
  cases h with
  | pb h hb => exact hb
  | _ => rfl
theorem Pl.up {n m : Nat} {d : D} (h : Pl n d) (hm : n ≤ m) : Pl m d := by
  induction h generalizing m with
  | non => exact .non
  | bl => exact .bl
  | int => exact .int
  | str h => exact .str h
  | lst hl h ih => cases m with
    | zero => omega
    | succ m => exact .lst hl fun x hx => ih x hx (by omega)
  | tup hl h ih => cases m with
    | zero => omega
    | succ m => exact .tup hl fun x hx => ih x hx (by omega)
  | pb h hb => cases m with
    | zero => omega
    | succ m => exact .pb h hb
theorem Pl.sl0 {d : D} (h : Pl 0 d) : d.still = true := by
  cases h <;> rfl
/-- a node of a net: a colour's text and four plain ones -/
def NodeS (d : D) : Prop := ∃ o t a b c e, d = .node .tup o [t, a, b, c, e] ∧ Pl 0 t ∧ Pl 0 a ∧ Pl 0 b ∧ Pl 0 c ∧ Pl 0 e
theorem NodeS.frz {d : D} (h : NodeS d) : NodeS d.frz := by
  obtain ⟨o, t, a, b, c, e, rfl, h1, h2, h3, h4, h5⟩ := h
  exact ⟨false, _, _, _, _, _, by rw [fr_node]; rfl, h1.frz, h2.frz, h3.frz, h4.frz, h5.frz⟩
theorem NodeS.pl {d : D} (h : NodeS d) : Pl 1 d := by
  obtain ⟨o, t, a, b, c, e, rfl, h1, h2, h3, h4, h5⟩ := h
  refine .tup (by simp) fun x hx => ?_
  simp only [List.mem_cons, List.not_mem_nil, or_false] at hx
  rcases hx with rfl | rfl | rfl | rfl | rfl <;> assumption
def NetS (d : D) : Prop := ∃ o xs, d = .node .lst o xs ∧ 0 < xs.length ∧ xs.length ≤ 1000 ∧ ∀ x ∈ xs, NodeS x
theorem NetS.bd {d : D} (h : NetS d) : d.bound = true := by obtain ⟨_, _, rfl, _⟩ := h; rfl
theorem NetS.frz {d : D} (h : NetS d) : NetS d.frz := by
  obtain ⟨o, xs, rfl, h1, h2, h3⟩ := h
  refine ⟨false, xs.map D.frz, fr_node, by rw [List.length_map]; exact h1, by rw [List.length_map]; exact h2, fun x hx => ?_⟩
  obtain ⟨y, hy, rfl⟩ := List.mem_map.mp hx
  exact (h3 y hy).frz
/-- colours to draw from -/
def HUES : List Str := ["x", "xy", "y", "xyz", "zx"]
theorem hue_ok : ∀ s ∈ HUES, 0 < s.length ∧ s.length < 1000000 ∧ ∀ t ∈ chars s, t ∈ STRS := by decide +kernel
theorem hue_ok2 : ∀ s ∈ HUES, ∀ t ∈ chars s, t ∈ ([("x" : Str), "y", "z"] : List Str) := by decide +kernel
def isInts4 : D → Bool
  | .node .lst false xs => xs.all isI && Nat.ble xs.length 4
  | _ => false
theorem isInts4_get {d : D} (h : isInts4 d = true) : ∃ l : List Int, d = .node .lst false (l.map .int) ∧ l.length ≤ 4 := by
  unfold isInts4 at h
  split at h
  · rename_i xs
    rw [Bool.and_eq_true] at h
    obtain ⟨l, hl⟩ := isInts_get (d := .node .lst false xs) h.1
    refine ⟨l, hl, ?_⟩
    cases hl
    have := Nat.le_of_ble_eq_true h.2
    rwa [List.length_map] at this
  · cases h
theorem ints_pl {l : List Int} : ∀ x ∈ l.map D.int, Pl 0 x := fun x hx => by
  obtain ⟨i, _, rfl⟩ := List.mem_map.mp hx
  exact .int
def Pall (n : Nat) (l : List D) : Prop := ∀ x ∈ l, Pl n x
theorem Pall.map {n : Nat} {l : List D} (h : Pall n l) : Pall n (l.map D.frz) := fun x hx => by
  obtain ⟨y, hy, rfl⟩ := List.mem_map.mp hx
  exact (h y hy).frz
theorem Pall.app {n : Nat} {l m : List D} (h : Pall n l) (h2 : Pall n m) : Pall n (l ++ m) := fun x hx => (List.mem_append.mp hx).elim (h x) (h2 x)
theorem Pall.cons {n : Nat} {d : D} {l : List D} (h : Pl n d) (h2 : Pall n l) : Pall n (d :: l) := fun x hx => (List.mem_cons.mp hx).elim (fun e => e ▸ h) (h2 x)
theorem Pall.nil {n : Nat} : Pall n [] := fun x hx => by cases hx
theorem node_of {o : Bool} {l : List D} (hl : l.length = 5) (h : Pall 0 l) : NodeS (.node .tup o l) := by
  match l, hl with
  | [t, a, b, c, e], _ => exact ⟨_, _, _, _, _, _, rfl, h _ (by simp), h _ (by simp), h _ (by simp), h _ (by simp), h _ (by simp)⟩
def Nall (l : List D) : Prop := ∀ x ∈ l, NodeS x
theorem Nall.map {l : List D} (h : Nall l) : Nall (l.map D.frz) := fun x hx => by
  obtain ⟨y, hy, rfl⟩ := List.mem_map.mp hx
  exact (h y hy).frz
theorem Nall.app {l m : List D} (h : Nall l) (h2 : Nall m) : Nall (l ++ m) := fun x hx => (List.mem_append.mp hx).elim (h x) (h2 x)
theorem Nall.cons {d : D} {l : List D} (h : NodeS d) (h2 : Nall l) : Nall (d :: l) := fun x hx => (List.mem_cons.mp hx).elim (fun e => e ▸ h) (h2 x)
theorem Nall.nil : Nall [] := fun x hx => by cases hx
local macro_rules | `(tactic| walk_at "pl") => `(tactic| repeat' (first | assumption | exact Pl.non | exact Pl.int | exact Pl.bl | exact Pl.str (by assumption) | exact Pl.str (by decide +kernel) | apply Pl.frz | apply NodeS.frz | (refine node_of (by simp only [List.length_map, List.length_append, List.length_cons, List.length_nil]; omega) ?_) | exact Pall.nil | exact Nall.nil | exact ints_pl | apply Pall.map | apply Pall.app | apply Pall.cons | apply Nall.map | apply Nall.app | apply Nall.cons))
theorem placed_ok {b : D} {o : Bool} {xs : List D} {Q : FRes → Prop} (hb : BagOk b) (hl : xs.length ≤ 4) (hx : Pall 0 xs)
    (h : ∀ ys, ys.length = 4 → Pall 0 ys → ∀ b', BagOk b' → ∀ ds, Q (.ret (.node .lst true ys) [b', ds])) : vF F__law_placed.run [b, .node .lst o xs] Q := by
  refine vF_runC rfl ?_
  unfold S__law_placed
  have hbd := hb.bd
  have hsl := hb.sl
  have fz : ∀ {xs : List D}, (∀ x ∈ xs, Pl 0 x) → ∀ x ∈ xs.map D.frz, Pl 0 x := fun h x hx => by
    obtain ⟨y, hy, rfl⟩ := List.mem_map.mp hx
    exact (h y hy).frz
  refine vS_cut (fun η => ∃ o1 xs1 ys, η = [b, .node .lst o1 xs1, .node .lst true ys, .unb] ∧ xs1.length = xs.length ∧ ys.length = xs.length ∧ Pall 0 ys) ?_ ?_
  · walk_at "z"
    refine wB_i (fun e => ?_) (fun e => ?_)
    · walk_at "z"
      exact ⟨_, _, _, rfl, rfl, rfl, hx⟩
    · walk_at "z"
      exact ⟨_, _, _, rfl, List.length_map _, List.length_map _, fz hx⟩
  rintro _ ⟨o1, xs1, ys, rfl, hx1, hy1, hy⟩
  walk_at "z"
  rw [hx1, rg_1 (by omega) (by omega)]
  walk_at "z"
  refine vO_for_inv (fun k η => ∃ b' d k' ys, η = [b', d, .node .lst true ys, k'] ∧ BagOk b' ∧ ys.length = xs.length + k ∧ ys.length ≤ 4 ∧ Pall 0 ys) ⟨_, _, _, _, rfl, hb, hy1, by omega, hy⟩ ?_ ?_
  · rintro j d _ hd ⟨b1, d1, k1, zs, rfl, hb1, hz1, hz4, hz⟩
    have hj : j < 4 - xs.length := by
      have := (List.getElem?_eq_some_iff.mp hd).1
      rw [List.length_map, List.length_range] at this
      omega
    have hbd1 := hb1.bd
    have hsl1 := hb1.sl
    walk_at "zs"
    refine draw_ok hb1 (by omega) (by omega) fun k b2 hb2 hk0 hk1 => ?_
    walk_at "z"
    rw [mth_ins (by rw [sl_lt]; omega) hk0 (by omega)]
    walk_at "z"
    refine ⟨_, _, _, _, rfl, hb2, ?_, ?_, ?_⟩
    · simp only [List.length_append, List.length_take, List.length_drop, List.length_cons, List.length_nil]; omega
    · simp only [List.length_append, List.length_take, List.length_drop, List.length_cons, List.length_nil]; omega
    · intro y hy
      simp only [List.mem_append, List.mem_cons, List.not_mem_nil, or_false] at hy
      rcases hy with (hy | rfl) | hy
      · exact hz y (List.mem_of_mem_take hy)
      · exact .non
      · exact hz y (List.mem_of_mem_drop hy)
  · rintro _ ⟨b1, d1, k1, zs, rfl, hb1, hz1, hz4, hz⟩
    rw [List.length_map, List.length_range] at hz1
    walk_at "z"
    exact h zs (by omega) hz b1 hb1 _
theorem free_ok {b : D} {s : Str} {Q : FRes → Prop} (hb : BagOk b) (hs : s ∈ HUES) (h : ∀ d, NetS d → ∀ b', BagOk b' → Q (.ret d [b', .str s])) : vF F__law_free.run [b, .str s] Q := by
  refine vF_runC rfl ?_
  unfold S__law_free
  obtain ⟨hs1, hs2, hs3⟩ := hue_ok s hs
  have hbd := hb.bd
  have hsl := hb.sl
  walk_at "zs"
  refine draw_ok hb (by omega) (by omega) fun m b1 hb1 hm0 hm1 => ?_
  have hbd1 := hb1.bd
  have hsl1 := hb1.sl
  walk_at "zs"
  refine of_okB isInts hb1 (.inl rfl) (by simp) (by simp) rfl fun d hd b2 hb2 => ?_
  obtain ⟨l, rfl⟩ := isInts_get hd
  walk_at "z"
  rw [rg_1 (by omega) (by omega)]
  walk_at "z"
  refine vO_for_inv (fun k η => ∃ b' zs x5 x6 x7 x8, η = [b', .str s, .int (1 + m), .node .lst false (l.map .int), .node .lst true zs, x5, x6, x7, x8] ∧ BagOk b' ∧ zs.length = k ∧ Nall zs) ⟨_, _, _, _, _, _, rfl, hb2, rfl, Nall.nil⟩ ?_ ?_
  · rintro j d _ hd ⟨b3, zs, x5, x6, x7, x8, rfl, hb3, hz1, hz2⟩
    have hj := (List.getElem?_eq_some_iff.mp hd).1
    rw [List.length_map, List.length_range] at hj
    have hbd3 := hb3.bd
    have hsl3 := hb3.sl
    rw [List.getElem?_map, List.getElem?_range hj] at hd
    cases hd
    rw [bS_eq, st_ok (by simp)]
    simp only [vO_some, List.set_cons_zero, List.set_cons_succ]
    refine vS_cut (fun η => ∃ b' t x5, η = [b', .str s, .int (1 + m), .node .lst false (l.map .int), .node .lst true zs, x5, t, x7, x8] ∧ BagOk b' ∧ Pl 0 t) ?_ ?_
    · walk_at "zs"
      refine draw_ok hb3 (by omega) (by omega) fun q b4 hb4 hq0 hq1 => ?_
      have hbd4 := hb4.bd
      have hsl4 := hb4.sl
      walk_at "zs"
      refine wB_i (fun e => ?_) (fun e => ?_)
      · walk_at "zs"
        refine of_str_ok hb4 hs1 hs2 fun t ht b5 hb5 => ?_
        walk_at "z"
        exact ⟨_, _, _, rfl, hb5, .str (hs3 t ht)⟩
      · walk_at "zs"
        exact ⟨_, _, _, rfl, hb4, .str (by decide +kernel)⟩
    rintro _ ⟨b4, t, x5, rfl, hb4, ht⟩
    refine vS_cut (fun η => ∃ b' ks x5 x8, η = [b', .str s, .int (1 + m), .node .lst false (l.map .int), .node .lst true zs, x5, t, .node .lst true ks, x8] ∧ BagOk b' ∧ ks.length = 4 ∧ Pall 0 ks) ?_ ?_
    · walk_at "z"
      rw [rg_1 (by omega) (by omega)]
      walk_at "z"
      refine vO_lc (fun k acc η => ∃ b' x8, η = [b', .str s, .int (1 + m), .node .lst false (l.map .int), .node .lst true zs, x5, t, x7, x8] ∧ BagOk b' ∧ acc.length = k ∧ Pall 0 acc) ⟨_, _, rfl, hb4, rfl, Pall.nil⟩ (by simp [sl_le]) ?_ ?_
      · rintro q dq acc _ hq ⟨b5, x8, rfl, hb5, ha1, ha2⟩
        have hq2 := (List.getElem?_eq_some_iff.mp hq).1
        rw [List.length_map, List.length_range] at hq2
        rw [List.getElem?_map, List.getElem?_range hq2] at hq
        cases hq
        obtain ⟨r, hr⟩ := cd_in_ints (i := (q : Int)) (o := false) (l := l)
        have hbd5 := hb5.bd
        have hsl5 := hb5.sl
        walk_at "zs"
        refine wB_i (fun e => ?_) (fun e => ?_)
        · walk_at "zs"
          rw [rgC_list (by omega) (by omega)]
          walk_at "z"
          rw [bin_app (by simp; omega)]
          walk_at "zs"
          refine of_okP (Pl 0) hb5 (.inl rfl) (by simp) (by simp; omega) ?_ fun d hd b6 hb6 => ?_
          · intro x hx
            simp only [List.mem_append, List.mem_map, List.mem_cons, List.not_mem_nil, or_false] at hx
            rcases hx with hx | ⟨_, rfl, rfl⟩
            · obtain ⟨y, ⟨z, ⟨_, rfl⟩⟩, rfl⟩ := hx
              simp only [fr_int]
              exact .int
            · simp only [fr_non]; exact .non
          · walk_at "z"
            refine ⟨_, _, rfl, hb6, by simp [ha1], fun y hy => ?_⟩
            rcases List.mem_append.mp hy with hy | hy
            · exact ha2 y hy
            · rw [List.mem_singleton.mp hy]; exact hd
        · walk_at "z"
          refine ⟨_, _, rfl, hb5, by simp [ha1], fun y hy => ?_⟩
          rcases List.mem_append.mp hy with hy | hy
          · exact ha2 y hy
          · rw [List.mem_singleton.mp hy]; exact .non
      · rintro acc _ ⟨b5, x8, rfl, hb5, ha1, ha2⟩
        walk_at "z"
        exact ⟨_, _, _, _, rfl, hb5, by simpa using ha1, ha2⟩
    rintro _ ⟨b5, ks, x5, x8, rfl, hb5, hk1, hk2⟩
    have hbd5 := ht.bd
    walk_at "zs"
    rw [bin_app (by simp; omega)]
    walk_at "zs"
    rw [mth_app (by rw [sl_lt]; omega)]
    walk_at "z"
    refine ⟨_, _, _, _, _, _, rfl, hb5, by simp [hz1], ?_⟩
    walk_at "pl"
  · rintro _ ⟨b3, zs, x5, x6, x7, x8, rfl, hb3, hz1, hz2⟩
    rw [List.length_map, List.length_range] at hz1
    walk_at "z"
    exact h _ ⟨_, _, rfl, by omega, by omega, hz2⟩ b3 hb3
theorem rg_dn {i : Int} (h0 : -1 ≤ i) (h : i < 2 ^ 62) : rangeD i (-1) (-1) = some ((List.range (i + 1).toNat).map fun k => .int (i + (k : Nat) * (-1))) := by
  unfold rangeD
  rw [if_pos (by omega), if_neg (by decide), if_pos rfl, Int.sub_neg]
theorem grown_ok {b : D} {s : Str} {Q : FRes → Prop} (hb : BagOk b) (hs : s ∈ HUES) (h : ∀ d, NetS d → ∀ b', BagOk b' → Q (.ret d [b', .str s])) : vF F__law_grown.run [b, .str s] Q := by
  refine vF_runC rfl ?_
  unfold S__law_grown
  obtain ⟨hs1, hs2, hs3⟩ := hue_ok s hs
  have hbd := hb.bd
  have hsl := hb.sl
  walk_at "zs"
  refine draw_ok hb (by omega) (by omega) fun m b1 hb1 hm0 hm1 => ?_
  have hbd1 := hb1.bd
  have hsl1 := hb1.sl
  walk_at "zs"
  refine of_str_ok hb1 hs1 hs2 fun t ht b2 hb2 => ?_
  walk_at "z"
  rw [rg_dn (by omega) (by omega)]
  walk_at "z"
  refine vO_for_inv (fun k η => ∃ b' o zs x4 x5 x6 x7 x8, η = [b', .str s, .int (2 + m), .node .lst o zs, x4, x5, x6, x7, x8] ∧ BagOk b' ∧ zs.length = k + 1 ∧ Nall zs) ⟨_, _, _, _, _, _, _, _, rfl, hb2, rfl, ?_⟩ ?_ ?_
  · intro z hz
    rw [List.mem_singleton.mp hz]
    exact ⟨_, _, _, _, _, _, rfl, .str (hs3 t ht), .non, .non, .non, .non⟩
  · rintro j d _ hd ⟨b3, o3, zs, x4, x5, x6, x7, x8, rfl, hb3, hz1, hz2⟩
    have hj := (List.getElem?_eq_some_iff.mp hd).1
    rw [List.length_map, List.length_range] at hj
    rw [List.getElem?_map, List.getElem?_range hj] at hd
    cases hd
    have hbd3 := hb3.bd
    have hsl3 := hb3.sl
    walk_at "zs"
    refine draw_ok hb3 (by omega) (by omega) fun p b4 hb4 hp0 hp1 => ?_
    have hbd4 := hb4.bd
    have hsl4 := hb4.sl
    walk_at "zs"
    refine draw_ok hb4 (by omega) (by omega) fun q b5 hb5 hq0 hq1 => ?_
    have hbd5 := hb5.bd
    have hsl5 := hb5.sl
    walk_at "zs"
    refine of_okB isInts4 hb5 (.inl rfl) (by simp) (by simp) rfl fun d hd b6 hb6 => ?_
    obtain ⟨l, rfl, hl⟩ := isInts4_get hd
    have hbd6 := hb6.bd
    have hsl6 := hb6.sl
    walk_at "zs"
    refine of_str_ok hb6 hs1 hs2 fun t ht b7 hb7 => ?_
    have hbd7 := hb7.bd
    have hsl7 := hb7.sl
    walk_at "zs"
    refine of_okP (Pl 0) hb7 (.inl rfl) (by simp) (by simp) ?_ fun d hd b8 hb8 => ?_
    · intro x hx
      simp only [List.mem_cons, List.not_mem_nil, or_false] at hx
      rcases hx with rfl | rfl | rfl | rfl <;> rw [fr_str]
      · exact .str (by decide +kernel)
      · exact .str (by decide +kernel)
      · exact .str (by decide +kernel)
      · exact .str (hs3 t ht)
    have hbd8 := hb8.bd
    have hsl8 := hb8.sl
    have hbdd := hd.bd
    walk_at "zs"
    refine placed_ok hb8 (by rw [List.length_map]; exact hl) ints_pl fun ys hy1 hy2 b9 hb9 ds => ?_
    walk_at "zs"
    rw [bin_app (by simp; omega)]
    walk_at "zs"
    rw [bin_app (by simp; omega)]
    walk_at "zs"
    refine ⟨_, _, _, _, _, _, _, _, rfl, hb9, by simp [hz1], ?_⟩
    show Nall _
    walk_at "pl"
  · rintro _ ⟨b3, o3, zs, x4, x5, x6, x7, x8, rfl, hb3, hz1, hz2⟩
    rw [List.length_map, List.length_range] at hz1
    walk_at "z"
    exact h _ ⟨_, _, rfl, by omega, by omega, hz2⟩ b3 hb3
end Z

set_option Elab.async false
set_option linter.all false
set_option maxRecDepth 100000
set_option maxHeartbeats 4000000
namespace Z
open PySem PySem.Spec PyProof.Rows L2
local macro_rules | `(tactic| walk_at "z") => `(tactic| simp only [vM_bind, vM_pure, vM_opt, vM_frz, vM_sq0, vM_sq1, vM_eK, vM_eS, vM_eTup, vM_eLst, vM_eBin, vM_eNeg, vM_eNot, vM_eAnd, vM_eOr, vM_eIf, vM_eCmp, vM_eCmp2, vM_ptN, vM_ptE, vM_eCut, vM_eSub, vM_ePth, vM_aS, vM_aE, vM_callF, vM_eCall, vM_eLen, vM_eIsa, vM_eO, vM_eBf, vM_rR, vM_rO, vM_iE, vM_iR1, vM_iR3, vM_iEn, vM_iZp, vM_tAnd, vM_tOr, vM_tNot, vM_tE, vM_tY, vM_xcE, vS_q0, vS_q1, vS_pass, vS_ret0, vS_ret, vS_retS, vS_exp, vS_asg, vS_unp, vS_par, vS_setI, vS_setA, vS_if, vS_for, vS_wh, vS_rs, vS_try, vO_some, vO_map, List.getElem?_cons_zero, List.getElem?_cons_succ, List.set_cons_zero, List.set_cons_succ, bd_int, bd_str, bd_bl, bd_non, bd_node, fr_int, fr_str, fr_bl, fr_non, fr_node, fr_unb, fr_fr, fr_map, sl_fr, bd_fr, all_still, sl_int, sl_str, sl_bl, sl_non, sl_own, sl_shd, wTk, wTk0, wTs, gb0, gb1, gb2, vPth, wayS_eq, wayI_w, wWay_n, wWay_n0, wWay_l, wWay_r, wWay_t, wWay_int, wWay_str, wIx_lit, pt_int, cut_lst, cut_rol, cut_take, cut_drop, cut5_1, cut5_4, true_or, or_true, false_or, or_false, and_self, true_and, and_true, reduceCtorEq, putAt1, mapM1, mapM0, tr_lst, fr_bls, bls_map, ncast, Int.reduceEq, Int.reduceLT, Int.reduceLE, eq_self, decide_true, decide_false, cx_is, cx_isn, cx_in, cx_nin, cx_ne, is_non, is_int, is_bl, is_str, is_node, isn_non, isn_int, isn_bl, isn_str, isn_node, Bool.not_true, Bool.not_false, cd_nil, cut5h1, cut5h2, cut5h3, cut5l2, cut5l3, cut5l4, cut5l5, Int.reduceAdd, co_lt, vM_eMeth, vM_eMethE, ownL_eq, wMe_l, wMe_o, wMe_n, ml_a, ml_p, ml_i, nilB0, nilB1, vM_eRg1, co_ll, co_lr, co_lt, co_tl, co_tr, co_al, co_an, ints_still, setFrzP_w, putAt_nil, sl_lt, sl_le, Nat.reduceLeDiff, it_lst, it_rol, it_tup, fr_ints, bS_eq, bT2, vM_lc, frzAt0, frzAt1, wipeD0, wipeD1, setFrz_w, backD0, backD1, xP_w, wXP_int, setI_w, wSet_lit, xK_eq, xNo_eq, wayN_eq, xS_eq, cx_int, cx_str, cx_bl, cx_non, cx_lst, cx_tup, cx_rol, cd_eq_int, cd_ne_int, cd_lt_int, cd_le_int, cd_gt_int, cd_ge_int, cd_eq_str, cd_ne_str, cd_eq_bl, cd_ne_bl, bin_add, bin_sub, bin_mul_l, bin_mod_l, bin_div_l, bin_10_18, bin_10_30, ln_lst, ln_rol, ln_tup, ks_lst, Nat.reducePow, List.length_map, tr_bl, tr_int, cb_int, cb_abs, cb_min, wA_T, wA_r, wB_T, wB_F, wPO_s, wPO_n, st_ok, wRes, List.cons_append, List.nil_append, List.append_nil, List.all_cons, List.all_nil, Bool.true_and, Bool.and_true, List.map_cons, List.map_nil, List.length_cons, List.length_nil, Nat.reduceAdd, Nat.reduceSub, Nat.reduceLT, Nat.lt_add_left_iff_pos, List.replicate, if_true, Bool.and_self, Option.map, pick1, pick2, pick3, pick4, kp_is_color_0, kp__is_child_0, kp__is_child_1, kp__is_node_0, kp__is_node_1, kp__parents_0, kp_worded_0, kp_Book___init___0, kp_Book___init___1, kp_Book_nodes_0, kp_Book___eq___0, kp_Book___eq___1, kp__law_bag_0, kp__law_draw_0, kp__law_draw_1, kp__law_of_0, kp__law_of_1, kp__law_same_0, kq__law_same_0, kp__law_same_1, kq__law_same_1, kp__law_placed_0, kp__law_placed_1, kp__law_free_0, kp__law_free_1, kp__law_grown_0, kp__law_grown_1, kp__law_shape_0, kp__law_shape_1, kp__law_net_0, kp__law_any_0, kp__law_any_1, kp__law_made_0, kp__law_made_1, kp__law_is_node_0, kp__law_is_node_1, kp__law_due_0, kp__law_bent_0, kp__law_bent_1, kp__law_bent_2, kp__law_bent_3, kp_law_0, isa_is_color_0_non, isa_is_color_0_bl, isa_is_color_0_int, isa_is_color_0_str, isa_is_color_0_lst, isa_is_color_0_rol, isa_is_color_0_tup, isa_is_color_0_oBook, isa__is_child_0_non, isa__is_child_0_bl, isa__is_child_0_int, isa__is_child_0_str, isa__is_child_0_lst, isa__is_child_0_rol, isa__is_child_0_tup, isa__is_child_0_oBook, isa__is_child_1_non, isa__is_child_1_bl, isa__is_child_1_int, isa__is_child_1_str, isa__is_child_1_lst, isa__is_child_1_rol, isa__is_child_1_tup, isa__is_child_1_oBook, isa__is_node_0_non, isa__is_node_0_bl, isa__is_node_0_int, isa__is_node_0_str, isa__is_node_0_lst, isa__is_node_0_rol, isa__is_node_0_tup, isa__is_node_0_oBook, isa__is_node_1_non, isa__is_node_1_bl, isa__is_node_1_int, isa__is_node_1_str, isa__is_node_1_lst, isa__is_node_1_rol, isa__is_node_1_tup, isa__is_node_1_oBook, isa_Book___init___0_non, isa_Book___init___0_bl, isa_Book___init___0_int, isa_Book___init___0_str, isa_Book___init___0_lst, isa_Book___init___0_rol, isa_Book___init___0_tup, isa_Book___init___0_oBook, isa_Book___eq___0_non, isa_Book___eq___0_bl, isa_Book___eq___0_int, isa_Book___eq___0_str, isa_Book___eq___0_lst, isa_Book___eq___0_rol, isa_Book___eq___0_tup, isa_Book___eq___0_oBook, isa__law_same_0_non, isa__law_same_0_bl, isa__law_same_0_int, isa__law_same_0_str, isa__law_same_0_lst, isa__law_same_0_rol, isa__law_same_0_tup, isa__law_same_0_oBook, isa__law_same_1_non, isa__law_same_1_bl, isa__law_same_1_int, isa__law_same_1_str, isa__law_same_1_lst, isa__law_same_1_rol, isa__law_same_1_tup, isa__law_same_1_oBook, isa__law_same_2_non, isa__law_same_2_bl, isa__law_same_2_int, isa__law_same_2_str, isa__law_same_2_lst, isa__law_same_2_rol, isa__law_same_2_tup, isa__law_same_2_oBook, isa__law_same_3_non, isa__law_same_3_bl, isa__law_same_3_int, isa__law_same_3_str, isa__law_same_3_lst, isa__law_same_3_rol, isa__law_same_3_tup, isa__law_same_3_oBook, isa__law_same_4_non, isa__law_same_4_bl, isa__law_same_4_int, isa__law_same_4_str, isa__law_same_4_lst, isa__law_same_4_rol, isa__law_same_4_tup, isa__law_same_4_oBook, isa__law_same_5_non, isa__law_same_5_bl, isa__law_same_5_int, isa__law_same_5_str, isa__law_same_5_lst, isa__law_same_5_rol, isa__law_same_5_tup, isa__law_same_5_oBook, isa__law_is_node_0_non, isa__law_is_node_0_bl, isa__law_is_node_0_int, isa__law_is_node_0_str, isa__law_is_node_0_lst, isa__law_is_node_0_rol, isa__law_is_node_0_tup, isa__law_is_node_0_oBook, isa__law_is_node_1_non, isa__law_is_node_1_bl, isa__law_is_node_1_int, isa__law_is_node_1_str, isa__law_is_node_1_lst, isa__law_is_node_1_rol, isa__law_is_node_1_tup, isa__law_is_node_1_oBook, isa__law_is_node_2_non, isa__law_is_node_2_bl, isa__law_is_node_2_int, isa__law_is_node_2_str, isa__law_is_node_2_lst, isa__law_is_node_2_rol, isa__law_is_node_2_tup, isa__law_is_node_2_oBook, isa__law_is_node_3_non, isa__law_is_node_3_bl, isa__law_is_node_3_int, isa__law_is_node_3_str, isa__law_is_node_3_lst, isa__law_is_node_3_rol, isa__law_is_node_3_tup, isa__law_is_node_3_oBook, isa__law_due_0_non, isa__law_due_0_bl, isa__law_due_0_int, isa__law_due_0_str, isa__law_due_0_lst, isa__law_due_0_rol, isa__law_due_0_tup, isa__law_due_0_oBook])
local macro_rules | `(tactic| walk_at "zs") => `(tactic| simp only [vM_bind, vM_pure, vM_opt, vM_frz, vM_sq0, vM_sq1, vM_eK, vM_eS, vM_eTup, vM_eLst, vM_eBin, vM_eNeg, vM_eNot, vM_eAnd, vM_eOr, vM_eIf, vM_eCmp, vM_eCmp2, vM_ptN, vM_ptE, vM_eCut, vM_eSub, vM_ePth, vM_aS, vM_aE, vM_callF, vM_eCall, vM_eLen, vM_eIsa, vM_eO, vM_eBf, vM_rR, vM_rO, vM_iE, vM_iR1, vM_iR3, vM_iEn, vM_iZp, vM_tAnd, vM_tOr, vM_tNot, vM_tE, vM_tY, vM_xcE, vS_q0, vS_q1, vS_pass, vS_ret0, vS_ret, vS_retS, vS_exp, vS_asg, vS_unp, vS_par, vS_setI, vS_setA, vS_if, vS_for, vS_wh, vS_rs, vS_try, vO_some, vO_map, List.getElem?_cons_zero, List.getElem?_cons_succ, List.set_cons_zero, List.set_cons_succ, bd_int, bd_str, bd_bl, bd_non, bd_node, fr_int, fr_str, fr_bl, fr_non, fr_node, fr_unb, fr_fr, fr_map, sl_fr, bd_fr, all_still, sl_int, sl_str, sl_bl, sl_non, sl_own, sl_shd, wTk, wTk0, wTs, gb0, gb1, gb2, vPth, wayS_eq, wayI_w, wWay_n, wWay_n0, wWay_l, wWay_r, wWay_t, wWay_int, wWay_str, wIx_lit, pt_int, cut_lst, cut_rol, cut_take, cut_drop, cut5_1, cut5_4, true_or, or_true, false_or, or_false, and_self, true_and, and_true, reduceCtorEq, putAt1, mapM1, mapM0, tr_lst, fr_bls, bls_map, ncast, Int.reduceEq, Int.reduceLT, Int.reduceLE, eq_self, decide_true, decide_false, cx_is, cx_isn, cx_in, cx_nin, cx_ne, is_non, is_int, is_bl, is_str, is_node, isn_non, isn_int, isn_bl, isn_str, isn_node, Bool.not_true, Bool.not_false, cd_nil, cut5h1, cut5h2, cut5h3, cut5l2, cut5l3, cut5l4, cut5l5, Int.reduceAdd, co_lt, vM_eMeth, vM_eMethE, ownL_eq, wMe_l, wMe_o, wMe_n, ml_a, ml_p, ml_i, nilB0, nilB1, vM_eRg1, co_ll, co_lr, co_lt, co_tl, co_tr, co_al, co_an, ints_still, setFrzP_w, putAt_nil, sl_lt, sl_le, Nat.reduceLeDiff, it_lst, it_rol, it_tup, fr_ints, bS_eq, bT2, vM_lc, frzAt0, frzAt1, wipeD0, wipeD1, setFrz_w, backD0, backD1, xP_w, wXP_int, setI_w, wSet_lit, xK_eq, xNo_eq, wayN_eq, xS_eq, cx_int, cx_str, cx_bl, cx_non, cx_lst, cx_tup, cx_rol, cd_eq_int, cd_ne_int, cd_lt_int, cd_le_int, cd_gt_int, cd_ge_int, cd_eq_str, cd_ne_str, cd_eq_bl, cd_ne_bl, bin_add, bin_sub, bin_mul_l, bin_mod_l, bin_div_l, bin_10_18, bin_10_30, ln_lst, ln_rol, ln_tup, ks_lst, Nat.reducePow, List.length_map, tr_bl, tr_int, cb_int, cb_abs, cb_min, wA_T, wA_r, wB_T, wB_F, wPO_s, wPO_n, st_ok, wRes, List.cons_append, List.nil_append, List.append_nil, List.all_cons, List.all_nil, Bool.true_and, Bool.and_true, List.map_cons, List.map_nil, List.length_cons, List.length_nil, Nat.reduceAdd, Nat.reduceSub, Nat.reduceLT, Nat.lt_add_left_iff_pos, List.replicate, if_true, Bool.and_self, Option.map, pick1, pick2, pick3, pick4, kp_is_color_0, kp__is_child_0, kp__is_child_1, kp__is_node_0, kp__is_node_1, kp__parents_0, kp_worded_0, kp_Book___init___0, kp_Book___init___1, kp_Book_nodes_0, kp_Book___eq___0, kp_Book___eq___1, kp__law_bag_0, kp__law_draw_0, kp__law_draw_1, kp__law_of_0, kp__law_of_1, kp__law_same_0, kq__law_same_0, kp__law_same_1, kq__law_same_1, kp__law_placed_0, kp__law_placed_1, kp__law_free_0, kp__law_free_1, kp__law_grown_0, kp__law_grown_1, kp__law_shape_0, kp__law_shape_1, kp__law_net_0, kp__law_any_0, kp__law_any_1, kp__law_made_0, kp__law_made_1, kp__law_is_node_0, kp__law_is_node_1, kp__law_due_0, kp__law_bent_0, kp__law_bent_1, kp__law_bent_2, kp__law_bent_3, kp_law_0, isa_is_color_0_non, isa_is_color_0_bl, isa_is_color_0_int, isa_is_color_0_str, isa_is_color_0_lst, isa_is_color_0_rol, isa_is_color_0_tup, isa_is_color_0_oBook, isa__is_child_0_non, isa__is_child_0_bl, isa__is_child_0_int, isa__is_child_0_str, isa__is_child_0_lst, isa__is_child_0_rol, isa__is_child_0_tup, isa__is_child_0_oBook, isa__is_child_1_non, isa__is_child_1_bl, isa__is_child_1_int, isa__is_child_1_str, isa__is_child_1_lst, isa__is_child_1_rol, isa__is_child_1_tup, isa__is_child_1_oBook, isa__is_node_0_non, isa__is_node_0_bl, isa__is_node_0_int, isa__is_node_0_str, isa__is_node_0_lst, isa__is_node_0_rol, isa__is_node_0_tup, isa__is_node_0_oBook, isa__is_node_1_non, isa__is_node_1_bl, isa__is_node_1_int, isa__is_node_1_str, isa__is_node_1_lst, isa__is_node_1_rol, isa__is_node_1_tup, isa__is_node_1_oBook, isa_Book___init___0_non, isa_Book___init___0_bl, isa_Book___init___0_int, isa_Book___init___0_str, isa_Book___init___0_lst, isa_Book___init___0_rol, isa_Book___init___0_tup, isa_Book___init___0_oBook, isa_Book___eq___0_non, isa_Book___eq___0_bl, isa_Book___eq___0_int, isa_Book___eq___0_str, isa_Book___eq___0_lst, isa_Book___eq___0_rol, isa_Book___eq___0_tup, isa_Book___eq___0_oBook, isa__law_same_0_non, isa__law_same_0_bl, isa__law_same_0_int, isa__law_same_0_str, isa__law_same_0_lst, isa__law_same_0_rol, isa__law_same_0_tup, isa__law_same_0_oBook, isa__law_same_1_non, isa__law_same_1_bl, isa__law_same_1_int, isa__law_same_1_str, isa__law_same_1_lst, isa__law_same_1_rol, isa__law_same_1_tup, isa__law_same_1_oBook, isa__law_same_2_non, isa__law_same_2_bl, isa__law_same_2_int, isa__law_same_2_str, isa__law_same_2_lst, isa__law_same_2_rol, isa__law_same_2_tup, isa__law_same_2_oBook, isa__law_same_3_non, isa__law_same_3_bl, isa__law_same_3_int, isa__law_same_3_str, isa__law_same_3_lst, isa__law_same_3_rol, isa__law_same_3_tup, isa__law_same_3_oBook, isa__law_same_4_non, isa__law_same_4_bl, isa__law_same_4_int, isa__law_same_4_str, isa__law_same_4_lst, isa__law_same_4_rol, isa__law_same_4_tup, isa__law_same_4_oBook, isa__law_same_5_non, isa__law_same_5_bl, isa__law_same_5_int, isa__law_same_5_str, isa__law_same_5_lst, isa__law_same_5_rol, isa__law_same_5_tup, isa__law_same_5_oBook, isa__law_is_node_0_non, isa__law_is_node_0_bl, isa__law_is_node_0_int, isa__law_is_node_0_str, isa__law_is_node_0_lst, isa__law_is_node_0_rol, isa__law_is_node_0_tup, isa__law_is_node_0_oBook, isa__law_is_node_1_non, isa__law_is_node_1_bl, isa__law_is_node_1_int, isa__law_is_node_1_str, isa__law_is_node_1_lst, isa__law_is_node_1_rol, isa__law_is_node_1_tup, isa__law_is_node_1_oBook, isa__law_is_node_2_non, isa__law_is_node_2_bl, isa__law_is_node_2_int, isa__law_is_node_2_str, isa__law_is_node_2_lst, isa__law_is_node_2_rol, isa__law_is_node_2_tup, isa__law_is_node_2_oBook, isa__law_is_node_3_non, isa__law_is_node_3_bl, isa__law_is_node_3_int, isa__law_is_node_3_str, isa__law_is_node_3_lst, isa__law_is_node_3_rol, isa__law_is_node_3_tup, isa__law_is_node_3_oBook, isa__law_due_0_non, isa__law_due_0_bl, isa__law_due_0_int, isa__law_due_0_str, isa__law_due_0_lst, isa__law_due_0_rol, isa__law_due_0_tup, isa__law_due_0_oBook, *])
local macro_rules | `(tactic| walk_at "pl") => `(tactic| repeat' (first | assumption | exact Pl.non | exact Pl.int | exact Pl.bl | exact Pl.str (by assumption) | exact Pl.str (by decide +kernel) | apply Pl.frz | apply NodeS.frz | (refine node_of (by simp only [List.length_map, List.length_append, List.length_cons, List.length_nil]; omega) ?_) | exact Pall.nil | exact Nall.nil | exact ints_pl | apply Pall.map | apply Pall.app | apply Pall.cons | apply Nall.map | apply Nall.app | apply Nall.cons))
def isRow : D → Bool
  | .node .tup false [.str u, k] => STRS.contains u && isInts4 k
  | _ => false
def isForm : D → Bool
  | .node .lst false xs => !xs.isEmpty && Nat.ble xs.length 10 && xs.all isRow
  | _ => false
theorem isRow_get {d : D} (h : isRow d = true) : ∃ (u : Str) (l : List Int), d = .node .tup false [.str u, .node .lst false (l.map .int)] ∧ u ∈ STRS ∧ l.length ≤ 4 := by
  unfold isRow at h
  split at h
  · rw [Bool.and_eq_true] at h
    obtain ⟨l, rfl, hl⟩ := isInts4_get h.2
    exact ⟨_, l, rfl, List.contains_iff_mem.mp h.1, hl⟩
  · cases h
theorem isForm_get {d : D} (h : isForm d = true) : ∃ xs, d = .node .lst false xs ∧ 0 < xs.length ∧ xs.length ≤ 10 ∧ ∀ x ∈ xs, isRow x = true := by
  unfold isForm at h
  split at h
  · rename_i xs
    simp only [Bool.and_eq_true, Bool.not_eq_true', List.isEmpty_eq_false_iff, List.all_eq_true] at h
    exact ⟨xs, rfl, List.length_pos_iff.mpr h.1.1, Nat.le_of_ble_eq_true h.1.2, h.2⟩
  · cases h
theorem shape_ok {b : D} {s : Str} {Q : FRes → Prop} (hb : BagOk b) (hs : s ∈ HUES) (h : ∀ d, NetS d → ∀ b', BagOk b' → Q (.ret d [b', .str s])) : vF F__law_shape.run [b, .str s] Q := by
  refine vF_runC rfl ?_
  unfold S__law_shape
  obtain ⟨hs1, hs2, hs3⟩ := hue_ok s hs
  have hs4 := hue_ok2 s hs
  have hbd := hb.bd
  have hsl := hb.sl
  walk_at "zs"
  refine of_str_ok hb hs1 hs2 fun t ht b1 hb1 => ?_
  have hbd1 := hb1.bd
  have hsl1 := hb1.sl
  walk_at "zs"
  refine of_str_ok hb1 hs1 hs2 fun u hu b2 hb2 => ?_
  have hbd2 := hb2.bd
  have hsl2 := hb2.sl
  walk_at "zs"
  rw [bin_app (by simp)]
  walk_at "zs"
  rw [bin_app (by simp)]
  walk_at "zs"
  rw [bin_app (by simp)]
  walk_at "zs"
  refine of_okB isForm hb2 (.inl rfl) (by simp) (by simp) ?_ fun d hd b3 hb3 => ?_
  · have h1 := hs4 t ht
    have h2 := hs4 u hu
    simp only [List.mem_cons, List.not_mem_nil, or_false] at h1 h2
    rcases h1 with rfl | rfl | rfl <;> rcases h2 with rfl | rfl | rfl <;> decide +kernel
  obtain ⟨xs, rfl, hx1, hx2, hx3⟩ := isForm_get hd
  walk_at "z"
  refine vO_lc (fun k acc η => ∃ b' x2 x3 x4 x5 x6, η = [b', .str s, x2, x3, x4, x5, x6] ∧ BagOk b' ∧ acc.length = k ∧ Nall acc) ⟨_, _, _, _, _, _, rfl, hb3, rfl, Nall.nil⟩ (by rw [sl_le]; simp; omega) ?_ ?_
  · rintro q dq acc _ hq ⟨b4, x2, x3, x4, x5, x6, rfl, hb4, ha1, ha2⟩
    rw [List.getElem?_map, Option.map_eq_some_iff] at hq
    obtain ⟨z, hz, rfl⟩ := hq
    obtain ⟨v, l, rfl, hv, hl⟩ := isRow_get (hx3 z (List.mem_of_getElem? hz))
    have hbd4 := hb4.bd
    have hsl4 := hb4.sl
    walk_at "zs"
    refine placed_ok hb4 (by rw [List.length_map]; exact hl) ints_pl fun ys hy1 hy2 b9 hb9 ds => ?_
    walk_at "zs"
    rw [bin_app (by simp; omega)]
    walk_at "zs"
    refine ⟨_, _, _, _, _, _, rfl, hb9, by simp [ha1], ?_⟩
    walk_at "pl"
  · rintro acc _ ⟨b4, x2, x3, x4, x5, x6, rfl, hb4, ha1, ha2⟩
    rw [List.length_map] at ha1
    walk_at "z"
    exact h _ ⟨_, _, rfl, by omega, by omega, ha2⟩ _ hb4
theorem net_ok {b : D} {Q : FRes → Prop} (hb : BagOk b) (h : ∀ d, NetS d → ∀ b', BagOk b' → Q (.ret d [b'])) : vF F__law_net.run [b] Q := by
  refine vF_runC rfl ?_
  unfold S__law_net
  have hbd := hb.bd
  have hsl := hb.sl
  walk_at "zs"
  refine of_okP (fun d => ∃ s, d = .str s ∧ s ∈ HUES) hb (.inl rfl) (by simp) (by simp) ?_ ?_
  · intro x hx
    simp only [List.mem_cons, List.not_mem_nil, or_false] at hx
    rcases hx with rfl | rfl | rfl | rfl | rfl <;> exact ⟨_, fr_str, by decide +kernel⟩
  rintro _ ⟨s, rfl, hs⟩ b1 hb1
  have hbd1 := hb1.bd
  have hsl1 := hb1.sl
  walk_at "zs"
  refine draw_ok hb1 (by omega) (by omega) fun m b2 hb2 hm0 hm1 => ?_
  have hbd2 := hb2.bd
  have hsl2 := hb2.sl
  walk_at "zs"
  refine wB_i (fun e => ?_) (fun e => ?_)
  · walk_at "zs"
    refine free_ok hb2 hs fun d hd b3 hb3 => ?_
    walk_at "z"
    exact h d hd b3 hb3
  · walk_at "zs"
    refine wB_i (fun e => ?_) (fun e => ?_)
    · walk_at "zs"
      refine grown_ok hb2 hs fun d hd b3 hb3 => ?_
      walk_at "z"
      exact h d hd b3 hb3
    · walk_at "zs"
      refine shape_ok hb2 hs fun d hd b3 hb3 => ?_
      walk_at "z"
      exact h d hd b3 hb3
end Z

set_option Elab.async false
set_option linter.all false
set_option maxRecDepth 100000
set_option maxHeartbeats 4000000
namespace Z
open PySem PySem.Spec PyProof.Rows L2
local macro_rules | `(tactic| walk_at "z") => `(tactic| simp only [vM_bind, vM_pure, vM_opt, vM_frz, vM_sq0, vM_sq1, vM_eK, vM_eS, vM_eTup, vM_eLst, vM_eBin, vM_eNeg, vM_eNot, vM_eAnd, vM_eOr, vM_eIf, vM_eCmp, vM_eCmp2, vM_ptN, vM_ptE, vM_eCut, vM_eSub, vM_ePth, vM_aS, vM_aE, vM_callF, vM_eCall, vM_eLen, vM_eIsa, vM_eO, vM_eBf, vM_rR, vM_rO, vM_iE, vM_iR1, vM_iR3, vM_iEn, vM_iZp, vM_tAnd, vM_tOr, vM_tNot, vM_tE, vM_tY, vM_xcE, vS_q0, vS_q1, vS_pass, vS_ret0, vS_ret, vS_retS, vS_exp, vS_asg, vS_unp, vS_par, vS_setI, vS_setA, vS_if, vS_for, vS_wh, vS_rs, vS_try, vO_some, vO_map, List.getElem?_cons_zero, List.getElem?_cons_succ, List.set_cons_zero, List.set_cons_succ, bd_int, bd_str, bd_bl, bd_non, bd_node, fr_int, fr_str, fr_bl, fr_non, fr_node, fr_unb, fr_fr, fr_map, sl_fr, bd_fr, all_still, sl_int, sl_str, sl_bl, sl_non, sl_own, sl_shd, wTk, wTk0, wTs, gb0, gb1, gb2, vPth, wayS_eq, wayI_w, wWay_n, wWay_n0, wWay_l, wWay_r, wWay_t, wWay_int, wWay_str, wIx_lit, pt_int, cut_lst, cut_rol, cut_take, cut_drop, cut5_1, cut5_4, true_or, or_true, false_or, or_false, and_self, true_and, and_true, reduceCtorEq, putAt1, mapM1, mapM0, tr_lst, fr_bls, bls_map, ncast, Int.reduceEq, Int.reduceLT, Int.reduceLE, eq_self, decide_true, decide_false, cx_is, cx_isn, cx_in, cx_nin, cx_ne, is_non, is_int, is_bl, is_str, is_node, isn_non, isn_int, isn_bl, isn_str, isn_node, Bool.not_true, Bool.not_false, cd_nil, cut5h1, cut5h2, cut5h3, cut5l2, cut5l3, cut5l4, cut5l5, Int.reduceAdd, co_lt, vM_eMeth, vM_eMethE, ownL_eq, wMe_l, wMe_o, wMe_n, ml_a, ml_p, ml_i, nilB0, nilB1, vM_eRg1, co_ll, co_lr, co_lt, co_tl, co_tr, co_al, co_an, ints_still, setFrzP_w, putAt_nil, sl_lt, sl_le, Nat.reduceLeDiff, it_lst, it_rol, it_tup, fr_ints, bS_eq, bT2, vM_lc, frzAt0, frzAt1, wipeD0, wipeD1, setFrz_w, backD0, backD1, xP_w, wXP_int, setI_w, wSet_lit, xK_eq, xNo_eq, wayN_eq, xS_eq, cx_int, cx_str, cx_bl, cx_non, cx_lst, cx_tup, cx_rol, cd_eq_int, cd_ne_int, cd_lt_int, cd_le_int, cd_gt_int, cd_ge_int, cd_eq_str, cd_ne_str, cd_eq_bl, cd_ne_bl, bin_add, bin_sub, bin_mul_l, bin_mod_l, bin_div_l, bin_10_18, bin_10_30, ln_lst, ln_rol, ln_tup, ks_lst, Nat.reducePow, List.length_map, tr_bl, tr_int, cb_int, cb_abs, cb_min, wA_T, wA_r, wB_T, wB_F, wPO_s, wPO_n, st_ok, wRes, List.cons_append, List.nil_append, List.append_nil, List.all_cons, List.all_nil, Bool.true_and, Bool.and_true, List.map_cons, List.map_nil, List.length_cons, List.length_nil, Nat.reduceAdd, Nat.reduceSub, Nat.reduceLT, Nat.lt_add_left_iff_pos, List.replicate, if_true, Bool.and_self, Option.map, pick1, pick2, pick3, pick4, kp_is_color_0, kp__is_child_0, kp__is_child_1, kp__is_node_0, kp__is_node_1, kp__parents_0, kp_worded_0, kp_Book___init___0, kp_Book___init___1, kp_Book_nodes_0, kp_Book___eq___0, kp_Book___eq___1, kp__law_bag_0, kp__law_draw_0, kp__law_draw_1, kp__law_of_0, kp__law_of_1, kp__law_same_0, kq__law_same_0, kp__law_same_1, kq__law_same_1, kp__law_placed_0, kp__law_placed_1, kp__law_free_0, kp__law_free_1, kp__law_grown_0, kp__law_grown_1, kp__law_shape_0, kp__law_shape_1, kp__law_net_0, kp__law_any_0, kp__law_any_1, kp__law_made_0, kp__law_made_1, kp__law_is_node_0, kp__law_is_node_1, kp__law_due_0, kp__law_bent_0, kp__law_bent_1, kp__law_bent_2, kp__law_bent_3, kp_law_0, isa_is_color_0_non, isa_is_color_0_bl, isa_is_color_0_int, isa_is_color_0_str, isa_is_color_0_lst, isa_is_color_0_rol, isa_is_color_0_tup, isa_is_color_0_oBook, isa__is_child_0_non, isa__is_child_0_bl, isa__is_child_0_int, isa__is_child_0_str, isa__is_child_0_lst, isa__is_child_0_rol, isa__is_child_0_tup, isa__is_child_0_oBook, isa__is_child_1_non, isa__is_child_1_bl, isa__is_child_1_int, isa__is_child_1_str, isa__is_child_1_lst, isa__is_child_1_rol, isa__is_child_1_tup, isa__is_child_1_oBook, isa__is_node_0_non, isa__is_node_0_bl, isa__is_node_0_int, isa__is_node_0_str, isa__is_node_0_lst, isa__is_node_0_rol, isa__is_node_0_tup, isa__is_node_0_oBook, isa__is_node_1_non, isa__is_node_1_bl, isa__is_node_1_int, isa__is_node_1_str, isa__is_node_1_lst, isa__is_node_1_rol, isa__is_node_1_tup, isa__is_node_1_oBook, isa_Book___init___0_non, isa_Book___init___0_bl, isa_Book___init___0_int, isa_Book___init___0_str, isa_Book___init___0_lst, isa_Book___init___0_rol, isa_Book___init___0_tup, isa_Book___init___0_oBook, isa_Book___eq___0_non, isa_Book___eq___0_bl, isa_Book___eq___0_int, isa_Book___eq___0_str, isa_Book___eq___0_lst, isa_Book___eq___0_rol, isa_Book___eq___0_tup, isa_Book___eq___0_oBook, isa__law_same_0_non, isa__law_same_0_bl, isa__law_same_0_int, isa__law_same_0_str, isa__law_same_0_lst, isa__law_same_0_rol, isa__law_same_0_tup, isa__law_same_0_oBook, isa__law_same_1_non, isa__law_same_1_bl, isa__law_same_1_int, isa__law_same_1_str, isa__law_same_1_lst, isa__law_same_1_rol, isa__law_same_1_tup, isa__law_same_1_oBook, isa__law_same_2_non, isa__law_same_2_bl, isa__law_same_2_int, isa__law_same_2_str, isa__law_same_2_lst, isa__law_same_2_rol, isa__law_same_2_tup, isa__law_same_2_oBook, isa__law_same_3_non, isa__law_same_3_bl, isa__law_same_3_int, isa__law_same_3_str, isa__law_same_3_lst, isa__law_same_3_rol, isa__law_same_3_tup, isa__law_same_3_oBook, isa__law_same_4_non, isa__law_same_4_bl, isa__law_same_4_int, isa__law_same_4_str, isa__law_same_4_lst, isa__law_same_4_rol, isa__law_same_4_tup, isa__law_same_4_oBook, isa__law_same_5_non, isa__law_same_5_bl, isa__law_same_5_int, isa__law_same_5_str, isa__law_same_5_lst, isa__law_same_5_rol, isa__law_same_5_tup, isa__law_same_5_oBook, isa__law_is_node_0_non, isa__law_is_node_0_bl, isa__law_is_node_0_int, isa__law_is_node_0_str, isa__law_is_node_0_lst, isa__law_is_node_0_rol, isa__law_is_node_0_tup, isa__law_is_node_0_oBook, isa__law_is_node_1_non, isa__law_is_node_1_bl, isa__law_is_node_1_int, isa__law_is_node_1_str, isa__law_is_node_1_lst, isa__law_is_node_1_rol, isa__law_is_node_1_tup, isa__law_is_node_1_oBook, isa__law_is_node_2_non, isa__law_is_node_2_bl, isa__law_is_node_2_int, isa__law_is_node_2_str, isa__law_is_node_2_lst, isa__law_is_node_2_rol, isa__law_is_node_2_tup, isa__law_is_node_2_oBook, isa__law_is_node_3_non, isa__law_is_node_3_bl, isa__law_is_node_3_int, isa__law_is_node_3_str, isa__law_is_node_3_lst, isa__law_is_node_3_rol, isa__law_is_node_3_tup, isa__law_is_node_3_oBook, isa__law_due_0_non, isa__law_due_0_bl, isa__law_due_0_int, isa__law_due_0_str, isa__law_due_0_lst, isa__law_due_0_rol, isa__law_due_0_tup, isa__law_due_0_oBook])
local macro_rules | `(tactic| walk_at "zs") => `(tactic| simp only [vM_bind, vM_pure, vM_opt, vM_frz, vM_sq0, vM_sq1, vM_eK, vM_eS, vM_eTup, vM_eLst, vM_eBin, vM_eNeg, vM_eNot, vM_eAnd, vM_eOr, vM_eIf, vM_eCmp, vM_eCmp2, vM_ptN, vM_ptE, vM_eCut, vM_eSub, vM_ePth, vM_aS, vM_aE, vM_callF, vM_eCall, vM_eLen, vM_eIsa, vM_eO, vM_eBf, vM_rR, vM_rO, vM_iE, vM_iR1, vM_iR3, vM_iEn, vM_iZp, vM_tAnd, vM_tOr, vM_tNot, vM_tE, vM_tY, vM_xcE, vS_q0, vS_q1, vS_pass, vS_ret0, vS_ret, vS_retS, vS_exp, vS_asg, vS_unp, vS_par, vS_setI, vS_setA, vS_if, vS_for, vS_wh, vS_rs, vS_try, vO_some, vO_map, List.getElem?_cons_zero, List.getElem?_cons_succ, List.set_cons_zero, List.set_cons_succ, bd_int, bd_str, bd_bl, bd_non, bd_node, fr_int, fr_str, fr_bl, fr_non, fr_node, fr_unb, fr_fr, fr_map, sl_fr, bd_fr, all_still, sl_int, sl_str, sl_bl, sl_non, sl_own, sl_shd, wTk, wTk0, wTs, gb0, gb1, gb2, vPth, wayS_eq, wayI_w, wWay_n, wWay_n0, wWay_l, wWay_r, wWay_t, wWay_int, wWay_str, wIx_lit, pt_int, cut_lst, cut_rol, cut_take, cut_drop, cut5_1, cut5_4, true_or, or_true, false_or, or_false, and_self, true_and, and_true, reduceCtorEq, putAt1, mapM1, mapM0, tr_lst, fr_bls, bls_map, ncast, Int.reduceEq, Int.reduceLT, Int.reduceLE, eq_self, decide_true, decide_false, cx_is, cx_isn, cx_in, cx_nin, cx_ne, is_non, is_int, is_bl, is_str, is_node, isn_non, isn_int, isn_bl, isn_str, isn_node, Bool.not_true, Bool.not_false, cd_nil, cut5h1, cut5h2, cut5h3, cut5l2, cut5l3, cut5l4, cut5l5, Int.reduceAdd, co_lt, vM_eMeth, vM_eMethE, ownL_eq, wMe_l, wMe_o, wMe_n, ml_a, ml_p, ml_i, nilB0, nilB1, vM_eRg1, co_ll, co_lr, co_lt, co_tl, co_tr, co_al, co_an, ints_still, setFrzP_w, putAt_nil, sl_lt, sl_le, Nat.reduceLeDiff, it_lst, it_rol, it_tup, fr_ints, bS_eq, bT2, vM_lc, frzAt0, frzAt1, wipeD0, wipeD1, setFrz_w, backD0, backD1, xP_w, wXP_int, setI_w, wSet_lit, xK_eq, xNo_eq, wayN_eq, xS_eq, cx_int, cx_str, cx_bl, cx_non, cx_lst, cx_tup, cx_rol, cd_eq_int, cd_ne_int, cd_lt_int, cd_le_int, cd_gt_int, cd_ge_int, cd_eq_str, cd_ne_str, cd_eq_bl, cd_ne_bl, bin_add, bin_sub, bin_mul_l, bin_mod_l, bin_div_l, bin_10_18, bin_10_30, ln_lst, ln_rol, ln_tup, ks_lst, Nat.reducePow, List.length_map, tr_bl, tr_int, cb_int, cb_abs, cb_min, wA_T, wA_r, wB_T, wB_F, wPO_s, wPO_n, st_ok, wRes, List.cons_append, List.nil_append, List.append_nil, List.all_cons, List.all_nil, Bool.true_and, Bool.and_true, List.map_cons, List.map_nil, List.length_cons, List.length_nil, Nat.reduceAdd, Nat.reduceSub, Nat.reduceLT, Nat.lt_add_left_iff_pos, List.replicate, if_true, Bool.and_self, Option.map, pick1, pick2, pick3, pick4, kp_is_color_0, kp__is_child_0, kp__is_child_1, kp__is_node_0, kp__is_node_1, kp__parents_0, kp_worded_0, kp_Book___init___0, kp_Book___init___1, kp_Book_nodes_0, kp_Book___eq___0, kp_Book___eq___1, kp__law_bag_0, kp__law_draw_0, kp__law_draw_1, kp__law_of_0, kp__law_of_1, kp__law_same_0, kq__law_same_0, kp__law_same_1, kq__law_same_1, kp__law_placed_0, kp__law_placed_1, kp__law_free_0, kp__law_free_1, kp__law_grown_0, kp__law_grown_1, kp__law_shape_0, kp__law_shape_1, kp__law_net_0, kp__law_any_0, kp__law_any_1, kp__law_made_0, kp__law_made_1, kp__law_is_node_0, kp__law_is_node_1, kp__law_due_0, kp__law_bent_0, kp__law_bent_1, kp__law_bent_2, kp__law_bent_3, kp_law_0, isa_is_color_0_non, isa_is_color_0_bl, isa_is_color_0_int, isa_is_color_0_str, isa_is_color_0_lst, isa_is_color_0_rol, isa_is_color_0_tup, isa_is_color_0_oBook, isa__is_child_0_non, isa__is_child_0_bl, isa__is_child_0_int, isa__is_child_0_str, isa__is_child_0_lst, isa__is_child_0_rol, isa__is_child_0_tup, isa__is_child_0_oBook, isa__is_child_1_non, isa__is_child_1_bl, isa__is_child_1_int, isa__is_child_1_str, isa__is_child_1_lst, isa__is_child_1_rol, isa__is_child_1_tup, isa__is_child_1_oBook, isa__is_node_0_non, isa__is_node_0_bl, isa__is_node_0_int, isa__is_node_0_str, isa__is_node_0_lst, isa__is_node_0_rol, isa__is_node_0_tup, isa__is_node_0_oBook, isa__is_node_1_non, isa__is_node_1_bl, isa__is_node_1_int, isa__is_node_1_str, isa__is_node_1_lst, isa__is_node_1_rol, isa__is_node_1_tup, isa__is_node_1_oBook, isa_Book___init___0_non, isa_Book___init___0_bl, isa_Book___init___0_int, isa_Book___init___0_str, isa_Book___init___0_lst, isa_Book___init___0_rol, isa_Book___init___0_tup, isa_Book___init___0_oBook, isa_Book___eq___0_non, isa_Book___eq___0_bl, isa_Book___eq___0_int, isa_Book___eq___0_str, isa_Book___eq___0_lst, isa_Book___eq___0_rol, isa_Book___eq___0_tup, isa_Book___eq___0_oBook, isa__law_same_0_non, isa__law_same_0_bl, isa__law_same_0_int, isa__law_same_0_str, isa__law_same_0_lst, isa__law_same_0_rol, isa__law_same_0_tup, isa__law_same_0_oBook, isa__law_same_1_non, isa__law_same_1_bl, isa__law_same_1_int, isa__law_same_1_str, isa__law_same_1_lst, isa__law_same_1_rol, isa__law_same_1_tup, isa__law_same_1_oBook, isa__law_same_2_non, isa__law_same_2_bl, isa__law_same_2_int, isa__law_same_2_str, isa__law_same_2_lst, isa__law_same_2_rol, isa__law_same_2_tup, isa__law_same_2_oBook, isa__law_same_3_non, isa__law_same_3_bl, isa__law_same_3_int, isa__law_same_3_str, isa__law_same_3_lst, isa__law_same_3_rol, isa__law_same_3_tup, isa__law_same_3_oBook, isa__law_same_4_non, isa__law_same_4_bl, isa__law_same_4_int, isa__law_same_4_str, isa__law_same_4_lst, isa__law_same_4_rol, isa__law_same_4_tup, isa__law_same_4_oBook, isa__law_same_5_non, isa__law_same_5_bl, isa__law_same_5_int, isa__law_same_5_str, isa__law_same_5_lst, isa__law_same_5_rol, isa__law_same_5_tup, isa__law_same_5_oBook, isa__law_is_node_0_non, isa__law_is_node_0_bl, isa__law_is_node_0_int, isa__law_is_node_0_str, isa__law_is_node_0_lst, isa__law_is_node_0_rol, isa__law_is_node_0_tup, isa__law_is_node_0_oBook, isa__law_is_node_1_non, isa__law_is_node_1_bl, isa__law_is_node_1_int, isa__law_is_node_1_str, isa__law_is_node_1_lst, isa__law_is_node_1_rol, isa__law_is_node_1_tup, isa__law_is_node_1_oBook, isa__law_is_node_2_non, isa__law_is_node_2_bl, isa__law_is_node_2_int, isa__law_is_node_2_str, isa__law_is_node_2_lst, isa__law_is_node_2_rol, isa__law_is_node_2_tup, isa__law_is_node_2_oBook, isa__law_is_node_3_non, isa__law_is_node_3_bl, isa__law_is_node_3_int, isa__law_is_node_3_str, isa__law_is_node_3_lst, isa__law_is_node_3_rol, isa__law_is_node_3_tup, isa__law_is_node_3_oBook, isa__law_due_0_non, isa__law_due_0_bl, isa__law_due_0_int, isa__law_due_0_str, isa__law_due_0_lst, isa__law_due_0_rol, isa__law_due_0_tup, isa__law_due_0_oBook, *])
theorem Pl.lst' {n : Nat} {o : Bool} {xs : List D} (h : Pall n xs) (hl : xs.length ≤ 1000) : Pl (n + 1) (.node .lst o xs) := .lst hl h
theorem Pl.tup' {n : Nat} {o : Bool} {xs : List D} (h : Pall n xs) (hl : xs.length ≤ 1000) : Pl (n + 1) (.node .tup o xs) := .tup hl h
local macro_rules | `(tactic| walk_at "pq") => `(tactic| repeat' (first | assumption | exact Pl.up (n := 0) (by assumption) (by decide) | exact Pl.pb PB_fr rfl | exact Pl.non | exact Pl.int | exact Pl.bl | exact Pl.str (by assumption) | exact Pl.str (by decide +kernel) | apply Pl.frz | (refine Pl.lst' ?_ (by simp only [List.length_map, List.length_append, List.length_cons, List.length_nil]; omega)) | (refine Pl.tup' ?_ (by simp only [List.length_map, List.length_append, List.length_cons, List.length_nil]; omega)) | exact Pall.nil | exact ints_pl | apply Pall.map | apply Pall.app | apply Pall.cons))
theorem any_ok {b : D} {o : Bool} {xs : List D} {Q : FRes → Prop} (hb : BagOk b) (hl : xs.length ≤ 20) (hx : Pall 3 xs) (h : ∀ d, Pl 3 d → ∀ b', BagOk b' → ∀ ds, Q (.ret d [b', ds])) : vF F__law_any.run [b, .node .lst o xs] Q := by
  refine vF_runC rfl ?_
  unfold S__law_any
  have hbd := hb.bd
  have hsl := hb.sl
  walk_at "zs"
  rw [bin_app (by simp)]
  walk_at "zs"
  rw [bin_app (by simp; omega)]
  walk_at "zs"
  refine of_okP (Pl 3) hb (.inl rfl) (by simp) (by simp; omega) ?_ fun d hd b1 hb1 => ?_
  · intro x hx
    refine Pl.frz ?_
    revert x
    show Pall 3 _
    walk_at "pq"
  · walk_at "z"
    exact h d hd b1 hb1 _
theorem bent_ok {b : D} {o : Bool} {t a p c e lex : D} {many : Int} {Q : FRes → Prop} (hb : BagOk b) (ht : Pl 0 t) (ha : Pl 0 a) (hp : Pl 0 p) (hc : Pl 0 c) (he : Pl 0 e) (hlf : lex.frz = PB) (hlb : lex.bound = true)
    (h : ∀ d, Pl 3 d → ∀ b' i' lex', BagOk b' → lex'.frz = PB → lex'.bound = true → Q (.ret d [b', i', .int many, lex'])) : vF F__law_bent.run [b, .node .tup o [t, a, p, c, e], .int many, lex] Q := by
  refine vF_runC rfl ?_
  unfold S__law_bent
  have hbd := hb.bd
  have hsl := hb.sl
  have pbf := PB_fr
  have pbb : PB.bound = true := rfl
  have tb := ht.bd
  have ts := ht.sl0
  have as := ha.sl0
  have ps := hp.sl0
  have cs := hc.sl0
  have es := he.sl0
  have tf := fr_still ts
  have af := fr_still as
  have pf := fr_still ps
  have cf := fr_still cs
  have ef := fr_still es
  have hpb : Pl 3 PB := .pb PB_fr rfl
  walk_at "zs"
  refine draw_ok hb (by omega) (by omega) fun m b1 hb1 hm0 hm1 => ?_
  have hbd1 := hb1.bd
  have hsl1 := hb1.sl
  walk_at "zs"
  refine wB_i (fun e0 => ?_) (fun e0 => ?_)
  · walk_at "zs"
    rw [bin_tap (by simp)]
    walk_at "zs"
    refine any_ok hb1 (by simp) ?_ fun d hd b2 hb2 ds => ?_
    · walk_at "pq"
    · walk_at "zs"
      exact h d hd _ _ _ hb2 PB_fr rfl
  walk_at "zs"
  refine wB_i (fun e1 => ?_) (fun e1 => ?_)
  · walk_at "zs"
    refine of_okP (Pl 1) hb1 (.inl rfl) (by simp) (by simp) ?_ fun d hd b2 hb2 => ?_
    · intro x hx
      refine Pl.frz ?_
      revert x
      show Pall 1 _
      walk_at "pq"
    have hbd2 := hb2.bd
    have hsl2 := hb2.sl
    have hdb := hd.bd
    walk_at "zs"
    rw [bin_app (by simp)]
    walk_at "zs"
    refine h _ ?_ _ _ _ hb2 hlf hlb
    refine Pl.up (n := 2) ?_ (by omega)
    have ht := ht.up (m := 1) (by omega)
    have ha := ha.up (m := 1) (by omega)
    have hp := hp.up (m := 1) (by omega)
    have hc := hc.up (m := 1) (by omega)
    have he := he.up (m := 1) (by omega)
    walk_at "pq"
  walk_at "zs"
  refine draw_ok hb1 (by omega) (by omega) fun q b2 hb2 hq0 hq1 => ?_
  have hbd2 := hb2.bd
  have hsl2 := hb2.sl
  walk_at "zs"
  refine of_okP (Pl 1) hb2 (.inl rfl) (by simp) (by simp) ?_ fun d hd b3 hb3 => ?_
  · intro x hx
    refine Pl.frz ?_
    revert x
    show Pall 1 _
    have hpb : Pl 1 PB := .pb PB_fr rfl
    walk_at "pq"
  have hbd3 := hb3.bd
  have hsl3 := hb3.sl
  have hdb := hd.bd
  have ht := ht.up (m := 1) (by omega)
  have ha := ha.up (m := 1) (by omega)
  have hp := hp.up (m := 1) (by omega)
  have hc := hc.up (m := 1) (by omega)
  have he := he.up (m := 1) (by omega)
  have hq : q = 0 ∨ q = 1 ∨ q = 2 ∨ q = 3 := by omega
  rcases hq with rfl | rfl | rfl | rfl
  all_goals
    walk_at "zs"
    rw [bin_tap (by simp)]
    walk_at "zs"
    rw [bin_tap (by simp)]
    walk_at "zs"
    refine h _ ?_ _ _ _ hb3 PB_fr rfl
    refine Pl.up (n := 2) ?_ (by omega)
    walk_at "pq"
end Z

set_option Elab.async false
set_option linter.all false
set_option maxRecDepth 100000
set_option maxHeartbeats 4000000
namespace Z
open PySem PySem.Spec PyProof.Rows L2
local macro_rules | `(tactic| walk_at "z") => `(tactic| simp only [vM_bind, vM_pure, vM_opt, vM_frz, vM_sq0, vM_sq1, vM_eK, vM_eS, vM_eTup, vM_eLst, vM_eBin, vM_eNeg, vM_eNot, vM_eAnd, vM_eOr, vM_eIf, vM_eCmp, vM_eCmp2, vM_ptN, vM_ptE, vM_eCut, vM_eSub, vM_ePth, vM_aS, vM_aE, vM_callF, vM_eCall, vM_eLen, vM_eIsa, vM_eO, vM_eBf, vM_rR, vM_rO, vM_iE, vM_iR1, vM_iR3, vM_iEn, vM_iZp, vM_tAnd, vM_tOr, vM_tNot, vM_tE, vM_tY, vM_xcE, vS_q0, vS_q1, vS_pass, vS_ret0, vS_ret, vS_retS, vS_exp, vS_asg, vS_unp, vS_par, vS_setI, vS_setA, vS_if, vS_for, vS_wh, vS_rs, vS_try, vO_some, vO_map, List.getElem?_cons_zero, List.getElem?_cons_succ, List.set_cons_zero, List.set_cons_succ, bd_int, bd_str, bd_bl, bd_non, bd_node, fr_int, fr_str, fr_bl, fr_non, fr_node, fr_unb, fr_fr, fr_map, sl_fr, bd_fr, all_still, sl_int, sl_str, sl_bl, sl_non, sl_own, sl_shd, wTk, wTk0, wTs, gb0, gb1, gb2, vPth, wayS_eq, wayI_w, wWay_n, wWay_n0, wWay_l, wWay_r, wWay_t, wWay_int, wWay_str, wIx_lit, pt_int, cut_lst, cut_rol, cut_take, cut_drop, cut5_1, cut5_4, true_or, or_true, false_or, or_false, and_self, true_and, and_true, reduceCtorEq, putAt1, mapM1, mapM0, tr_lst, fr_bls, bls_map, ncast, Int.reduceEq, Int.reduceLT, Int.reduceLE, eq_self, decide_true, decide_false, cx_is, cx_isn, cx_in, cx_nin, cx_ne, is_non, is_int, is_bl, is_str, is_node, isn_non, isn_int, isn_bl, isn_str, isn_node, Bool.not_true, Bool.not_false, cd_nil, cut5h1, cut5h2, cut5h3, cut5l2, cut5l3, cut5l4, cut5l5, Int.reduceAdd, co_lt, vM_eMeth, vM_eMethE, ownL_eq, wMe_l, wMe_o, wMe_n, ml_a, ml_p, ml_i, nilB0, nilB1, vM_eRg1, co_ll, co_lr, co_lt, co_tl, co_tr, co_al, co_an, ints_still, setFrzP_w, putAt_nil, sl_lt, sl_le, Nat.reduceLeDiff, it_lst, it_rol, it_tup, fr_ints, bS_eq, bT2, vM_lc, frzAt0, frzAt1, wipeD0, wipeD1, setFrz_w, backD0, backD1, xP_w, wXP_int, setI_w, wSet_lit, xK_eq, xNo_eq, wayN_eq, xS_eq, cx_int, cx_str, cx_bl, cx_non, cx_lst, cx_tup, cx_rol, cd_eq_int, cd_ne_int, cd_lt_int, cd_le_int, cd_gt_int, cd_ge_int, cd_eq_str, cd_ne_str, cd_eq_bl, cd_ne_bl, bin_add, bin_sub, bin_mul_l, bin_mod_l, bin_div_l, bin_10_18, bin_10_30, ln_lst, ln_rol, ln_tup, ks_lst, Nat.reducePow, List.length_map, tr_bl, tr_int, cb_int, cb_abs, cb_min, wA_T, wA_r, wB_T, wB_F, wPO_s, wPO_n, st_ok, wRes, List.cons_append, List.nil_append, List.append_nil, List.all_cons, List.all_nil, Bool.true_and, Bool.and_true, List.map_cons, List.map_nil, List.length_cons, List.length_nil, Nat.reduceAdd, Nat.reduceSub, Nat.reduceLT, Nat.lt_add_left_iff_pos, List.replicate, if_true, Bool.and_self, Option.map, pick1, pick2, pick3, pick4, kp_is_color_0, kp__is_child_0, kp__is_child_1, kp__is_node_0, kp__is_node_1, kp__parents_0, kp_worded_0, kp_Book___init___0, kp_Book___init___1, kp_Book_nodes_0, kp_Book___eq___0, kp_Book___eq___1, kp__law_bag_0, kp__law_draw_0, kp__law_draw_1, kp__law_of_0, kp__law_of_1, kp__law_same_0, kq__law_same_0, kp__law_same_1, kq__law_same_1, kp__law_placed_0, kp__law_placed_1, kp__law_free_0, kp__law_free_1, kp__law_grown_0, kp__law_grown_1, kp__law_shape_0, kp__law_shape_1, kp__law_net_0, kp__law_any_0, kp__law_any_1, kp__law_made_0, kp__law_made_1, kp__law_is_node_0, kp__law_is_node_1, kp__law_due_0, kp__law_bent_0, kp__law_bent_1, kp__law_bent_2, kp__law_bent_3, kp_law_0, isa_is_color_0_non, isa_is_color_0_bl, isa_is_color_0_int, isa_is_color_0_str, isa_is_color_0_lst, isa_is_color_0_rol, isa_is_color_0_tup, isa_is_color_0_oBook, isa__is_child_0_non, isa__is_child_0_bl, isa__is_child_0_int, isa__is_child_0_str, isa__is_child_0_lst, isa__is_child_0_rol, isa__is_child_0_tup, isa__is_child_0_oBook, isa__is_child_1_non, isa__is_child_1_bl, isa__is_child_1_int, isa__is_child_1_str, isa__is_child_1_lst, isa__is_child_1_rol, isa__is_child_1_tup, isa__is_child_1_oBook, isa__is_node_0_non, isa__is_node_0_bl, isa__is_node_0_int, isa__is_node_0_str, isa__is_node_0_lst, isa__is_node_0_rol, isa__is_node_0_tup, isa__is_node_0_oBook, isa__is_node_1_non, isa__is_node_1_bl, isa__is_node_1_int, isa__is_node_1_str, isa__is_node_1_lst, isa__is_node_1_rol, isa__is_node_1_tup, isa__is_node_1_oBook, isa_Book___init___0_non, isa_Book___init___0_bl, isa_Book___init___0_int, isa_Book___init___0_str, isa_Book___init___0_lst, isa_Book___init___0_rol, isa_Book___init___0_tup, isa_Book___init___0_oBook, isa_Book___eq___0_non, isa_Book___eq___0_bl, isa_Book___eq___0_int, isa_Book___eq___0_str, isa_Book___eq___0_lst, isa_Book___eq___0_rol, isa_Book___eq___0_tup, isa_Book___eq___0_oBook, isa__law_same_0_non, isa__law_same_0_bl, isa__law_same_0_int, isa__law_same_0_str, isa__law_same_0_lst, isa__law_same_0_rol, isa__law_same_0_tup, isa__law_same_0_oBook, isa__law_same_1_non, isa__law_same_1_bl, isa__law_same_1_int, isa__law_same_1_str, isa__law_same_1_lst, isa__law_same_1_rol, isa__law_same_1_tup, isa__law_same_1_oBook, isa__law_same_2_non, isa__law_same_2_bl, isa__law_same_2_int, isa__law_same_2_str, isa__law_same_2_lst, isa__law_same_2_rol, isa__law_same_2_tup, isa__law_same_2_oBook, isa__law_same_3_non, isa__law_same_3_bl, isa__law_same_3_int, isa__law_same_3_str, isa__law_same_3_lst, isa__law_same_3_rol, isa__law_same_3_tup, isa__law_same_3_oBook, isa__law_same_4_non, isa__law_same_4_bl, isa__law_same_4_int, isa__law_same_4_str, isa__law_same_4_lst, isa__law_same_4_rol, isa__law_same_4_tup, isa__law_same_4_oBook, isa__law_same_5_non, isa__law_same_5_bl, isa__law_same_5_int, isa__law_same_5_str, isa__law_same_5_lst, isa__law_same_5_rol, isa__law_same_5_tup, isa__law_same_5_oBook, isa__law_is_node_0_non, isa__law_is_node_0_bl, isa__law_is_node_0_int, isa__law_is_node_0_str, isa__law_is_node_0_lst, isa__law_is_node_0_rol, isa__law_is_node_0_tup, isa__law_is_node_0_oBook, isa__law_is_node_1_non, isa__law_is_node_1_bl, isa__law_is_node_1_int, isa__law_is_node_1_str, isa__law_is_node_1_lst, isa__law_is_node_1_rol, isa__law_is_node_1_tup, isa__law_is_node_1_oBook, isa__law_is_node_2_non, isa__law_is_node_2_bl, isa__law_is_node_2_int, isa__law_is_node_2_str, isa__law_is_node_2_lst, isa__law_is_node_2_rol, isa__law_is_node_2_tup, isa__law_is_node_2_oBook, isa__law_is_node_3_non, isa__law_is_node_3_bl, isa__law_is_node_3_int, isa__law_is_node_3_str, isa__law_is_node_3_lst, isa__law_is_node_3_rol, isa__law_is_node_3_tup, isa__law_is_node_3_oBook, isa__law_due_0_non, isa__law_due_0_bl, isa__law_due_0_int, isa__law_due_0_str, isa__law_due_0_lst, isa__law_due_0_rol, isa__law_due_0_tup, isa__law_due_0_oBook])
local macro_rules | `(tactic| walk_at "zs") => `(tactic| simp only [vM_bind, vM_pure, vM_opt, vM_frz, vM_sq0, vM_sq1, vM_eK, vM_eS, vM_eTup, vM_eLst, vM_eBin, vM_eNeg, vM_eNot, vM_eAnd, vM_eOr, vM_eIf, vM_eCmp, vM_eCmp2, vM_ptN, vM_ptE, vM_eCut, vM_eSub, vM_ePth, vM_aS, vM_aE, vM_callF, vM_eCall, vM_eLen, vM_eIsa, vM_eO, vM_eBf, vM_rR, vM_rO, vM_iE, vM_iR1, vM_iR3, vM_iEn, vM_iZp, vM_tAnd, vM_tOr, vM_tNot, vM_tE, vM_tY, vM_xcE, vS_q0, vS_q1, vS_pass, vS_ret0, vS_ret, vS_retS, vS_exp, vS_asg, vS_unp, vS_par, vS_setI, vS_setA, vS_if, vS_for, vS_wh, vS_rs, vS_try, vO_some, vO_map, List.getElem?_cons_zero, List.getElem?_cons_succ, List.set_cons_zero, List.set_cons_succ, bd_int, bd_str, bd_bl, bd_non, bd_node, fr_int, fr_str, fr_bl, fr_non, fr_node, fr_unb, fr_fr, fr_map, sl_fr, bd_fr, all_still, sl_int, sl_str, sl_bl, sl_non, sl_own, sl_shd, wTk, wTk0, wTs, gb0, gb1, gb2, vPth, wayS_eq, wayI_w, wWay_n, wWay_n0, wWay_l, wWay_r, wWay_t, wWay_int, wWay_str, wIx_lit, pt_int, cut_lst, cut_rol, cut_take, cut_drop, cut5_1, cut5_4, true_or, or_true, false_or, or_false, and_self, true_and, and_true, reduceCtorEq, putAt1, mapM1, mapM0, tr_lst, fr_bls, bls_map, ncast, Int.reduceEq, Int.reduceLT, Int.reduceLE, eq_self, decide_true, decide_false, cx_is, cx_isn, cx_in, cx_nin, cx_ne, is_non, is_int, is_bl, is_str, is_node, isn_non, isn_int, isn_bl, isn_str, isn_node, Bool.not_true, Bool.not_false, cd_nil, cut5h1, cut5h2, cut5h3, cut5l2, cut5l3, cut5l4, cut5l5, Int.reduceAdd, co_lt, vM_eMeth, vM_eMethE, ownL_eq, wMe_l, wMe_o, wMe_n, ml_a, ml_p, ml_i, nilB0, nilB1, vM_eRg1, co_ll, co_lr, co_lt, co_tl, co_tr, co_al, co_an, ints_still, setFrzP_w, putAt_nil, sl_lt, sl_le, Nat.reduceLeDiff, it_lst, it_rol, it_tup, fr_ints, bS_eq, bT2, vM_lc, frzAt0, frzAt1, wipeD0, wipeD1, setFrz_w, backD0, backD1, xP_w, wXP_int, setI_w, wSet_lit, xK_eq, xNo_eq, wayN_eq, xS_eq, cx_int, cx_str, cx_bl, cx_non, cx_lst, cx_tup, cx_rol, cd_eq_int, cd_ne_int, cd_lt_int, cd_le_int, cd_gt_int, cd_ge_int, cd_eq_str, cd_ne_str, cd_eq_bl, cd_ne_bl, bin_add, bin_sub, bin_mul_l, bin_mod_l, bin_div_l, bin_10_18, bin_10_30, ln_lst, ln_rol, ln_tup, ks_lst, Nat.reducePow, List.length_map, tr_bl, tr_int, cb_int, cb_abs, cb_min, wA_T, wA_r, wB_T, wB_F, wPO_s, wPO_n, st_ok, wRes, List.cons_append, List.nil_append, List.append_nil, List.all_cons, List.all_nil, Bool.true_and, Bool.and_true, List.map_cons, List.map_nil, List.length_cons, List.length_nil, Nat.reduceAdd, Nat.reduceSub, Nat.reduceLT, Nat.lt_add_left_iff_pos, List.replicate, if_true, Bool.and_self, Option.map, pick1, pick2, pick3, pick4, kp_is_color_0, kp__is_child_0, kp__is_child_1, kp__is_node_0, kp__is_node_1, kp__parents_0, kp_worded_0, kp_Book___init___0, kp_Book___init___1, kp_Book_nodes_0, kp_Book___eq___0, kp_Book___eq___1, kp__law_bag_0, kp__law_draw_0, kp__law_draw_1, kp__law_of_0, kp__law_of_1, kp__law_same_0, kq__law_same_0, kp__law_same_1, kq__law_same_1, kp__law_placed_0, kp__law_placed_1, kp__law_free_0, kp__law_free_1, kp__law_grown_0, kp__law_grown_1, kp__law_shape_0, kp__law_shape_1, kp__law_net_0, kp__law_any_0, kp__law_any_1, kp__law_made_0, kp__law_made_1, kp__law_is_node_0, kp__law_is_node_1, kp__law_due_0, kp__law_bent_0, kp__law_bent_1, kp__law_bent_2, kp__law_bent_3, kp_law_0, isa_is_color_0_non, isa_is_color_0_bl, isa_is_color_0_int, isa_is_color_0_str, isa_is_color_0_lst, isa_is_color_0_rol, isa_is_color_0_tup, isa_is_color_0_oBook, isa__is_child_0_non, isa__is_child_0_bl, isa__is_child_0_int, isa__is_child_0_str, isa__is_child_0_lst, isa__is_child_0_rol, isa__is_child_0_tup, isa__is_child_0_oBook, isa__is_child_1_non, isa__is_child_1_bl, isa__is_child_1_int, isa__is_child_1_str, isa__is_child_1_lst, isa__is_child_1_rol, isa__is_child_1_tup, isa__is_child_1_oBook, isa__is_node_0_non, isa__is_node_0_bl, isa__is_node_0_int, isa__is_node_0_str, isa__is_node_0_lst, isa__is_node_0_rol, isa__is_node_0_tup, isa__is_node_0_oBook, isa__is_node_1_non, isa__is_node_1_bl, isa__is_node_1_int, isa__is_node_1_str, isa__is_node_1_lst, isa__is_node_1_rol, isa__is_node_1_tup, isa__is_node_1_oBook, isa_Book___init___0_non, isa_Book___init___0_bl, isa_Book___init___0_int, isa_Book___init___0_str, isa_Book___init___0_lst, isa_Book___init___0_rol, isa_Book___init___0_tup, isa_Book___init___0_oBook, isa_Book___eq___0_non, isa_Book___eq___0_bl, isa_Book___eq___0_int, isa_Book___eq___0_str, isa_Book___eq___0_lst, isa_Book___eq___0_rol, isa_Book___eq___0_tup, isa_Book___eq___0_oBook, isa__law_same_0_non, isa__law_same_0_bl, isa__law_same_0_int, isa__law_same_0_str, isa__law_same_0_lst, isa__law_same_0_rol, isa__law_same_0_tup, isa__law_same_0_oBook, isa__law_same_1_non, isa__law_same_1_bl, isa__law_same_1_int, isa__law_same_1_str, isa__law_same_1_lst, isa__law_same_1_rol, isa__law_same_1_tup, isa__law_same_1_oBook, isa__law_same_2_non, isa__law_same_2_bl, isa__law_same_2_int, isa__law_same_2_str, isa__law_same_2_lst, isa__law_same_2_rol, isa__law_same_2_tup, isa__law_same_2_oBook, isa__law_same_3_non, isa__law_same_3_bl, isa__law_same_3_int, isa__law_same_3_str, isa__law_same_3_lst, isa__law_same_3_rol, isa__law_same_3_tup, isa__law_same_3_oBook, isa__law_same_4_non, isa__law_same_4_bl, isa__law_same_4_int, isa__law_same_4_str, isa__law_same_4_lst, isa__law_same_4_rol, isa__law_same_4_tup, isa__law_same_4_oBook, isa__law_same_5_non, isa__law_same_5_bl, isa__law_same_5_int, isa__law_same_5_str, isa__law_same_5_lst, isa__law_same_5_rol, isa__law_same_5_tup, isa__law_same_5_oBook, isa__law_is_node_0_non, isa__law_is_node_0_bl, isa__law_is_node_0_int, isa__law_is_node_0_str, isa__law_is_node_0_lst, isa__law_is_node_0_rol, isa__law_is_node_0_tup, isa__law_is_node_0_oBook, isa__law_is_node_1_non, isa__law_is_node_1_bl, isa__law_is_node_1_int, isa__law_is_node_1_str, isa__law_is_node_1_lst, isa__law_is_node_1_rol, isa__law_is_node_1_tup, isa__law_is_node_1_oBook, isa__law_is_node_2_non, isa__law_is_node_2_bl, isa__law_is_node_2_int, isa__law_is_node_2_str, isa__law_is_node_2_lst, isa__law_is_node_2_rol, isa__law_is_node_2_tup, isa__law_is_node_2_oBook, isa__law_is_node_3_non, isa__law_is_node_3_bl, isa__law_is_node_3_int, isa__law_is_node_3_str, isa__law_is_node_3_lst, isa__law_is_node_3_rol, isa__law_is_node_3_tup, isa__law_is_node_3_oBook, isa__law_due_0_non, isa__law_due_0_bl, isa__law_due_0_int, isa__law_due_0_str, isa__law_due_0_lst, isa__law_due_0_rol, isa__law_due_0_tup, isa__law_due_0_oBook, *])
def COLS : List Str := ["", "x", "y", "z"]
def isCol (s : Str) : Bool := ([("x" : Str), "y", "z"] : List Str).contains s
def retIs (r : Option FRes) (b : Bool) (s : Str) : Bool := match r with
  | some (.ret (.bl b') [.str s']) => b' == b && s' == s
  | _ => false
theorem col_all : STRS.all (fun s => retIs (F_is_color.run [.str s]) (isCol s) s) = true := by decide +kernel
theorem is_color_ok {s : Str} {Q : FRes → Prop} (hs : s ∈ STRS) (h : Q (.ret (.bl (isCol s)) [.str s])) : vF F_is_color.run [.str s] Q := by
  have := List.all_eq_true.mp col_all s hs
  unfold retIs at this
  split at this
  · rename_i b' s' e
    simp only [Bool.and_eq_true, beq_iff_eq] at this
    obtain ⟨rfl, rfl⟩ := this
    exact wF_of e h
  · cases this
def kidB (n : Int) : D → Bool
  | .non => true
  | .int i => decide (0 ≤ i) && decide (i < n)
  | _ => false
theorem kidB_fr {n : Int} {d : D} : kidB n d.frz = kidB n d := by cases d <;> rfl
/-- the items that a node's tuple has -/
def rowB (n : Int) : List D → Bool
  | [.str s, a, b, c, e] => COLS.contains s && [a, b, c, e].all (kidB n)
  | _ => false
def nodeB (n : Int) : D → Bool
  | .node .tup _ xs => rowB n xs
  | _ => false
theorem kidB_int {n i : Int} : kidB n (.int i) = (decide (0 ≤ i) && decide (i < n)) := rfl
theorem nodeB_tup {n : Int} {o : Bool} {xs : List D} : nodeB n (.node .tup o xs) = rowB n xs := rfl
theorem rowB_fr {n : Int} {xs : List D} : rowB n (xs.map D.frz) = rowB n xs := by
  rcases xs with _ | ⟨t, _ | ⟨a, _ | ⟨b, _ | ⟨c, _ | ⟨e, _ | ⟨f, r⟩⟩⟩⟩⟩⟩ <;> try rfl
  all_goals
    cases t <;> try rfl
  show (COLS.contains _ && [a.frz, b.frz, c.frz, e.frz].all (kidB n)) = (COLS.contains _ && _)
  simp only [List.all_cons, kidB_fr]
theorem rowB_len {n : Int} {xs : List D} (h : xs.length ≠ 5) : rowB n xs = false := by
  rcases xs with _ | ⟨t, _ | ⟨a, _ | ⟨b, _ | ⟨c, _ | ⟨e, _ | ⟨f, r⟩⟩⟩⟩⟩⟩ <;> first | (exact absurd rfl h) | (cases t <;> rfl) | rfl
theorem list5 {α : Type} {xs : List α} (h : xs.length = 5) : ∃ t a b c e, xs = [t, a, b, c, e] := by
  match xs, h with
  | [t, a, b, c, e], _ => exact ⟨t, a, b, c, e, rfl⟩
theorem PB_node {d : D} (h : d.frz = PB) : ∃ o xs, d = .node (.obj "Book" ["_nodes", "_worded"]) o xs := by
  cases d with
  | node k o xs =>
    rw [fr_node] at h
    injection h with h1 h2 h3
    subst h1
    exact ⟨o, xs, rfl⟩
  | _ => cases h
theorem is_child_ok {n : Int} {k : Nat} {d : D} {Q : FRes → Prop} (hd : Pl k d) (hs : d.still = true) (h : Q (.ret (.bl (kidB n d)) [d, .int n])) : vF F__is_child.run [d, .int n] Q := by
  refine vF_runC rfl ?_
  unfold S__is_child
  have hbd := hd.bd
  have hfr := fr_still hs
  have fin : ∀ {b : Bool} {r : List D}, b = kidB n d → Q (.ret (.bl b) (outD 2 P__is_child (d :: .int n :: r))) := fun e => by rw [e]; exact h
  cases hd with
  | non =>
    walk_at "zs"
    exact fin rfl
  | bl =>
    walk_at "zs"
    exact fin rfl
  | int =>
    walk_at "zs"
    refine wB_i (fun e => ?_) (fun e => ?_)
    · walk_at "zs"
      exact fin (by rw [kidB_int, e]; rfl)
    · walk_at "zs"
      exact fin (by rw [kidB_int, e]; rfl)
  | str hq =>
    walk_at "zs"
    exact fin rfl
  | lst hl hx =>
    walk_at "zs"
    exact fin rfl
  | tup hl hx =>
    walk_at "zs"
    exact fin rfl
  | pb hp hb =>
    obtain ⟨o, xs, rfl⟩ := PB_node hp
    walk_at "zs"
    exact fin rfl
theorem col_ne : ∀ s ∈ STRS, COLS.contains s = (decide (s = "") || isCol s) := by decide +kernel
theorem is_node_ok {n : Int} {k : Nat} {d : D} {Q : FRes → Prop} (hd : Pl k d) (hs : d.still = true) (h : Q (.ret (.bl (nodeB n d)) [d, .int n])) : vF F__is_node.run [d, .int n] Q := by
  refine vF_runC rfl ?_
  unfold S__is_node
  have hbd := hd.bd
  have hfr := fr_still hs
  have fin : ∀ {b : Bool} {r : List D}, b = nodeB n d → Q (.ret (.bl b) (outD 2 P__is_node (d :: .int n :: r))) := fun e => by rw [e]; exact h
  cases hd with
  | @tup k o xs hl hx =>
    rw [sl_shd_iff] at hs
    obtain ⟨rfl, hs⟩ := hs
    rw [nodeB_tup] at fin
    by_cases h5 : xs.length = 5
    · obtain ⟨t, a, b, c, e, rfl⟩ := list5 h5
      simp only [List.all_cons, List.all_nil, Bool.and_true, Bool.and_eq_true] at hs
      obtain ⟨ts, as, bs, cs, es⟩ := hs
      have tf := fr_still ts
      have af := fr_still as
      have bf := fr_still bs
      have cf := fr_still cs
      have ef := fr_still es
      have ht : Pl k t := hx t (by simp)
      have tb := ht.bd
      cases ht with
      | @str _ s hq =>
        have hcol := col_ne s hq
        have hrow : rowB n [.str s, a, b, c, e] = (COLS.contains s && [a, b, c, e].all (kidB n)) := rfl
        rw [hrow] at fin
        refine vS_cut (fun η => η = [.node .tup false [.str s, a, b, c, e], .int n, .unb]) ?_ ?_
        · walk_at "zs"
        rintro _ rfl
        refine vS_cut (fun η => η = [.node .tup false [.str s, a, b, c, e], .int n, .unb] ∧ COLS.contains s = true) ?_ ?_
        · walk_at "zs"
          refine wB_i (fun e1 => ?_) (fun e1 => ?_)
          · walk_at "zs"
            refine is_color_ok hq ?_
            walk_at "zs"
            have hd : decide (s = "") = false := by simpa using e1
            refine wB_i (fun e2 => ?_) (fun e2 => ?_)
            · have hc : isCol s = false := by simpa using e2
              rw [hcol, hd, hc] at fin
              walk_at "z"
              try exact fin rfl
            · have hc : isCol s = true := by simpa using e2
              walk_at "z"
              exact by rw [hcol, hd, hc]; rfl
          · have hd : decide (s = "") = true := by simpa using e1
            walk_at "z"
            exact by rw [hcol, hd]; rfl
        rintro _ ⟨rfl, hcs⟩
        rw [hcs, Bool.true_and] at fin
        have hxa : Pl k a := hx a (by simp)
        have hxb : Pl k b := hx b (by simp)
        have hxc : Pl k c := hx c (by simp)
        have hxe : Pl k e := hx e (by simp)
        walk_at "zs"
        refine vO_lc (fun j acc η => ∃ x, η = [.node .tup false [.str s, a, b, c, e], .int n, x] ∧ acc = ([a, b, c, e].take j).map fun d => .bl (kidB n d)) ⟨_, rfl, rfl⟩ (by rw [sl_le]; simp) ?_ ?_
        · rintro j dj acc _ hj ⟨x, rfl, rfl⟩
          have hj2 := hj
          have hmem : dj ∈ [a, b, c, e] := List.mem_of_getElem? hj
          have hpj : Pl k dj ∧ dj.still = true := by
            simp only [List.mem_cons, List.not_mem_nil, or_false] at hmem
            rcases hmem with rfl | rfl | rfl | rfl <;> exact ⟨by assumption, by assumption⟩
          have hbj := hpj.1.bd
          have hsj := hpj.2
          walk_at "zs"
          refine is_child_ok hpj.1 hpj.2 ?_
          walk_at "zs"
          refine ⟨_, rfl, ?_⟩
          rw [List.take_add_one, hj2]
          simp
        · rintro acc _ ⟨x, rfl, rfl⟩
          walk_at "zs"
          try exact fin (by simp)
      | @pb k d hp hb =>
        obtain ⟨o, xs, rfl⟩ := PB_node hp
        walk_at "zs"
        try exact fin rfl
      | _ =>
        walk_at "zs"
        try exact fin rfl
    · have h6 : rowB n xs = false := rowB_len h5
      rw [h6] at fin
      have hne : decide ((xs.length : Int) = 5) = false := decide_eq_false (by omega)
      walk_at "zs"
      try exact fin rfl
  | pb hp hb =>
    obtain ⟨o, xs, rfl⟩ := PB_node hp
    walk_at "zs"
    try exact fin rfl
  | _ =>
    walk_at "zs"
    try exact fin rfl
end Z

set_option Elab.async false
set_option linter.all false
set_option maxRecDepth 100000
set_option maxHeartbeats 4000000
namespace Z
open PySem PySem.Spec PyProof.Rows L2
local macro_rules | `(tactic| walk_at "z") => `(tactic| simp only [vM_bind, vM_pure, vM_opt, vM_frz, vM_sq0, vM_sq1, vM_eK, vM_eS, vM_eTup, vM_eLst, vM_eBin, vM_eNeg, vM_eNot, vM_eAnd, vM_eOr, vM_eIf, vM_eCmp, vM_eCmp2, vM_ptN, vM_ptE, vM_eCut, vM_eSub, vM_ePth, vM_aS, vM_aE, vM_callF, vM_eCall, vM_eLen, vM_eIsa, vM_eO, vM_eBf, vM_rR, vM_rO, vM_iE, vM_iR1, vM_iR3, vM_iEn, vM_iZp, vM_tAnd, vM_tOr, vM_tNot, vM_tE, vM_tY, vM_xcE, vS_q0, vS_q1, vS_pass, vS_ret0, vS_ret, vS_retS, vS_exp, vS_asg, vS_unp, vS_par, vS_setI, vS_setA, vS_if, vS_for, vS_wh, vS_rs, vS_try, vO_some, vO_map, List.getElem?_cons_zero, List.getElem?_cons_succ, List.set_cons_zero, List.set_cons_succ, bd_int, bd_str, bd_bl, bd_non, bd_node, fr_int, fr_str, fr_bl, fr_non, fr_node, fr_unb, fr_fr, fr_map, sl_fr, bd_fr, all_still, sl_int, sl_str, sl_bl, sl_non, sl_own, sl_shd, wTk, wTk0, wTs, gb0, gb1, gb2, vPth, wayS_eq, wayI_w, wWay_n, wWay_n0, wWay_l, wWay_r, wWay_t, wWay_int, wWay_str, wIx_lit, pt_int, cut_lst, cut_rol, cut_take, cut_drop, cut5_1, cut5_4, true_or, or_true, false_or, or_false, and_self, true_and, and_true, reduceCtorEq, putAt1, mapM1, mapM0, tr_lst, fr_bls, bls_map, ncast, Int.reduceEq, Int.reduceLT, Int.reduceLE, eq_self, decide_true, decide_false, cx_is, cx_isn, cx_in, cx_nin, cx_ne, is_non, is_int, is_bl, is_str, is_node, isn_non, isn_int, isn_bl, isn_str, isn_node, Bool.not_true, Bool.not_false, cd_nil, cut5h1, cut5h2, cut5h3, cut5l2, cut5l3, cut5l4, cut5l5, Int.reduceAdd, co_lt, vM_eMeth, vM_eMethE, ownL_eq, wMe_l, wMe_o, wMe_n, ml_a, ml_p, ml_i, nilB0, nilB1, vM_eRg1, co_ll, co_lr, co_lt, co_tl, co_tr, co_al, co_an, ints_still, setFrzP_w, putAt_nil, sl_lt, sl_le, Nat.reduceLeDiff, it_lst, it_rol, it_tup, fr_ints, bS_eq, bT2, vM_lc, frzAt0, frzAt1, wipeD0, wipeD1, setFrz_w, backD0, backD1, xP_w, wXP_int, setI_w, wSet_lit, xK_eq, xNo_eq, wayN_eq, xS_eq, cx_int, cx_str, cx_bl, cx_non, cx_lst, cx_tup, cx_rol, cd_eq_int, cd_ne_int, cd_lt_int, cd_le_int, cd_gt_int, cd_ge_int, cd_eq_str, cd_ne_str, cd_eq_bl, cd_ne_bl, bin_add, bin_sub, bin_mul_l, bin_mod_l, bin_div_l, bin_10_18, bin_10_30, ln_lst, ln_rol, ln_tup, ks_lst, Nat.reducePow, List.length_map, tr_bl, tr_int, cb_int, cb_abs, cb_min, wA_T, wA_r, wB_T, wB_F, wPO_s, wPO_n, st_ok, wRes, List.cons_append, List.nil_append, List.append_nil, List.all_cons, List.all_nil, Bool.true_and, Bool.and_true, List.map_cons, List.map_nil, List.length_cons, List.length_nil, Nat.reduceAdd, Nat.reduceSub, Nat.reduceLT, Nat.lt_add_left_iff_pos, List.replicate, if_true, Bool.and_self, Option.map, pick1, pick2, pick3, pick4, kp_is_color_0, kp__is_child_0, kp__is_child_1, kp__is_node_0, kp__is_node_1, kp__parents_0, kp_worded_0, kp_Book___init___0, kp_Book___init___1, kp_Book_nodes_0, kp_Book___eq___0, kp_Book___eq___1, kp__law_bag_0, kp__law_draw_0, kp__law_draw_1, kp__law_of_0, kp__law_of_1, kp__law_same_0, kq__law_same_0, kp__law_same_1, kq__law_same_1, kp__law_placed_0, kp__law_placed_1, kp__law_free_0, kp__law_free_1, kp__law_grown_0, kp__law_grown_1, kp__law_shape_0, kp__law_shape_1, kp__law_net_0, kp__law_any_0, kp__law_any_1, kp__law_made_0, kp__law_made_1, kp__law_is_node_0, kp__law_is_node_1, kp__law_due_0, kp__law_bent_0, kp__law_bent_1, kp__law_bent_2, kp__law_bent_3, kp_law_0, isa_is_color_0_non, isa_is_color_0_bl, isa_is_color_0_int, isa_is_color_0_str, isa_is_color_0_lst, isa_is_color_0_rol, isa_is_color_0_tup, isa_is_color_0_oBook, isa__is_child_0_non, isa__is_child_0_bl, isa__is_child_0_int, isa__is_child_0_str, isa__is_child_0_lst, isa__is_child_0_rol, isa__is_child_0_tup, isa__is_child_0_oBook, isa__is_child_1_non, isa__is_child_1_bl, isa__is_child_1_int, isa__is_child_1_str, isa__is_child_1_lst, isa__is_child_1_rol, isa__is_child_1_tup, isa__is_child_1_oBook, isa__is_node_0_non, isa__is_node_0_bl, isa__is_node_0_int, isa__is_node_0_str, isa__is_node_0_lst, isa__is_node_0_rol, isa__is_node_0_tup, isa__is_node_0_oBook, isa__is_node_1_non, isa__is_node_1_bl, isa__is_node_1_int, isa__is_node_1_str, isa__is_node_1_lst, isa__is_node_1_rol, isa__is_node_1_tup, isa__is_node_1_oBook, isa_Book___init___0_non, isa_Book___init___0_bl, isa_Book___init___0_int, isa_Book___init___0_str, isa_Book___init___0_lst, isa_Book___init___0_rol, isa_Book___init___0_tup, isa_Book___init___0_oBook, isa_Book___eq___0_non, isa_Book___eq___0_bl, isa_Book___eq___0_int, isa_Book___eq___0_str, isa_Book___eq___0_lst, isa_Book___eq___0_rol, isa_Book___eq___0_tup, isa_Book___eq___0_oBook, isa__law_same_0_non, isa__law_same_0_bl, isa__law_same_0_int, isa__law_same_0_str, isa__law_same_0_lst, isa__law_same_0_rol, isa__law_same_0_tup, isa__law_same_0_oBook, isa__law_same_1_non, isa__law_same_1_bl, isa__law_same_1_int, isa__law_same_1_str, isa__law_same_1_lst, isa__law_same_1_rol, isa__law_same_1_tup, isa__law_same_1_oBook, isa__law_same_2_non, isa__law_same_2_bl, isa__law_same_2_int, isa__law_same_2_str, isa__law_same_2_lst, isa__law_same_2_rol, isa__law_same_2_tup, isa__law_same_2_oBook, isa__law_same_3_non, isa__law_same_3_bl, isa__law_same_3_int, isa__law_same_3_str, isa__law_same_3_lst, isa__law_same_3_rol, isa__law_same_3_tup, isa__law_same_3_oBook, isa__law_same_4_non, isa__law_same_4_bl, isa__law_same_4_int, isa__law_same_4_str, isa__law_same_4_lst, isa__law_same_4_rol, isa__law_same_4_tup, isa__law_same_4_oBook, isa__law_same_5_non, isa__law_same_5_bl, isa__law_same_5_int, isa__law_same_5_str, isa__law_same_5_lst, isa__law_same_5_rol, isa__law_same_5_tup, isa__law_same_5_oBook, isa__law_is_node_0_non, isa__law_is_node_0_bl, isa__law_is_node_0_int, isa__law_is_node_0_str, isa__law_is_node_0_lst, isa__law_is_node_0_rol, isa__law_is_node_0_tup, isa__law_is_node_0_oBook, isa__law_is_node_1_non, isa__law_is_node_1_bl, isa__law_is_node_1_int, isa__law_is_node_1_str, isa__law_is_node_1_lst, isa__law_is_node_1_rol, isa__law_is_node_1_tup, isa__law_is_node_1_oBook, isa__law_is_node_2_non, isa__law_is_node_2_bl, isa__law_is_node_2_int, isa__law_is_node_2_str, isa__law_is_node_2_lst, isa__law_is_node_2_rol, isa__law_is_node_2_tup, isa__law_is_node_2_oBook, isa__law_is_node_3_non, isa__law_is_node_3_bl, isa__law_is_node_3_int, isa__law_is_node_3_str, isa__law_is_node_3_lst, isa__law_is_node_3_rol, isa__law_is_node_3_tup, isa__law_is_node_3_oBook, isa__law_due_0_non, isa__law_due_0_bl, isa__law_due_0_int, isa__law_due_0_str, isa__law_due_0_lst, isa__law_due_0_rol, isa__law_due_0_tup, isa__law_due_0_oBook])
local macro_rules | `(tactic| walk_at "zs") => `(tactic| simp only [vM_bind, vM_pure, vM_opt, vM_frz, vM_sq0, vM_sq1, vM_eK, vM_eS, vM_eTup, vM_eLst, vM_eBin, vM_eNeg, vM_eNot, vM_eAnd, vM_eOr, vM_eIf, vM_eCmp, vM_eCmp2, vM_ptN, vM_ptE, vM_eCut, vM_eSub, vM_ePth, vM_aS, vM_aE, vM_callF, vM_eCall, vM_eLen, vM_eIsa, vM_eO, vM_eBf, vM_rR, vM_rO, vM_iE, vM_iR1, vM_iR3, vM_iEn, vM_iZp, vM_tAnd, vM_tOr, vM_tNot, vM_tE, vM_tY, vM_xcE, vS_q0, vS_q1, vS_pass, vS_ret0, vS_ret, vS_retS, vS_exp, vS_asg, vS_unp, vS_par, vS_setI, vS_setA, vS_if, vS_for, vS_wh, vS_rs, vS_try, vO_some, vO_map, List.getElem?_cons_zero, List.getElem?_cons_succ, List.set_cons_zero, List.set_cons_succ, bd_int, bd_str, bd_bl, bd_non, bd_node, fr_int, fr_str, fr_bl, fr_non, fr_node, fr_unb, fr_fr, fr_map, sl_fr, bd_fr, all_still, sl_int, sl_str, sl_bl, sl_non, sl_own, sl_shd, wTk, wTk0, wTs, gb0, gb1, gb2, vPth, wayS_eq, wayI_w, wWay_n, wWay_n0, wWay_l, wWay_r, wWay_t, wWay_int, wWay_str, wIx_lit, pt_int, cut_lst, cut_rol, cut_take, cut_drop, cut5_1, cut5_4, true_or, or_true, false_or, or_false, and_self, true_and, and_true, reduceCtorEq, putAt1, mapM1, mapM0, tr_lst, fr_bls, bls_map, ncast, Int.reduceEq, Int.reduceLT, Int.reduceLE, eq_self, decide_true, decide_false, cx_is, cx_isn, cx_in, cx_nin, cx_ne, is_non, is_int, is_bl, is_str, is_node, isn_non, isn_int, isn_bl, isn_str, isn_node, Bool.not_true, Bool.not_false, cd_nil, cut5h1, cut5h2, cut5h3, cut5l2, cut5l3, cut5l4, cut5l5, Int.reduceAdd, co_lt, vM_eMeth, vM_eMethE, ownL_eq, wMe_l, wMe_o, wMe_n, ml_a, ml_p, ml_i, nilB0, nilB1, vM_eRg1, co_ll, co_lr, co_lt, co_tl, co_tr, co_al, co_an, ints_still, setFrzP_w, putAt_nil, sl_lt, sl_le, Nat.reduceLeDiff, it_lst, it_rol, it_tup, fr_ints, bS_eq, bT2, vM_lc, frzAt0, frzAt1, wipeD0, wipeD1, setFrz_w, backD0, backD1, xP_w, wXP_int, setI_w, wSet_lit, xK_eq, xNo_eq, wayN_eq, xS_eq, cx_int, cx_str, cx_bl, cx_non, cx_lst, cx_tup, cx_rol, cd_eq_int, cd_ne_int, cd_lt_int, cd_le_int, cd_gt_int, cd_ge_int, cd_eq_str, cd_ne_str, cd_eq_bl, cd_ne_bl, bin_add, bin_sub, bin_mul_l, bin_mod_l, bin_div_l, bin_10_18, bin_10_30, ln_lst, ln_rol, ln_tup, ks_lst, Nat.reducePow, List.length_map, tr_bl, tr_int, cb_int, cb_abs, cb_min, wA_T, wA_r, wB_T, wB_F, wPO_s, wPO_n, st_ok, wRes, List.cons_append, List.nil_append, List.append_nil, List.all_cons, List.all_nil, Bool.true_and, Bool.and_true, List.map_cons, List.map_nil, List.length_cons, List.length_nil, Nat.reduceAdd, Nat.reduceSub, Nat.reduceLT, Nat.lt_add_left_iff_pos, List.replicate, if_true, Bool.and_self, Option.map, pick1, pick2, pick3, pick4, kp_is_color_0, kp__is_child_0, kp__is_child_1, kp__is_node_0, kp__is_node_1, kp__parents_0, kp_worded_0, kp_Book___init___0, kp_Book___init___1, kp_Book_nodes_0, kp_Book___eq___0, kp_Book___eq___1, kp__law_bag_0, kp__law_draw_0, kp__law_draw_1, kp__law_of_0, kp__law_of_1, kp__law_same_0, kq__law_same_0, kp__law_same_1, kq__law_same_1, kp__law_placed_0, kp__law_placed_1, kp__law_free_0, kp__law_free_1, kp__law_grown_0, kp__law_grown_1, kp__law_shape_0, kp__law_shape_1, kp__law_net_0, kp__law_any_0, kp__law_any_1, kp__law_made_0, kp__law_made_1, kp__law_is_node_0, kp__law_is_node_1, kp__law_due_0, kp__law_bent_0, kp__law_bent_1, kp__law_bent_2, kp__law_bent_3, kp_law_0, isa_is_color_0_non, isa_is_color_0_bl, isa_is_color_0_int, isa_is_color_0_str, isa_is_color_0_lst, isa_is_color_0_rol, isa_is_color_0_tup, isa_is_color_0_oBook, isa__is_child_0_non, isa__is_child_0_bl, isa__is_child_0_int, isa__is_child_0_str, isa__is_child_0_lst, isa__is_child_0_rol, isa__is_child_0_tup, isa__is_child_0_oBook, isa__is_child_1_non, isa__is_child_1_bl, isa__is_child_1_int, isa__is_child_1_str, isa__is_child_1_lst, isa__is_child_1_rol, isa__is_child_1_tup, isa__is_child_1_oBook, isa__is_node_0_non, isa__is_node_0_bl, isa__is_node_0_int, isa__is_node_0_str, isa__is_node_0_lst, isa__is_node_0_rol, isa__is_node_0_tup, isa__is_node_0_oBook, isa__is_node_1_non, isa__is_node_1_bl, isa__is_node_1_int, isa__is_node_1_str, isa__is_node_1_lst, isa__is_node_1_rol, isa__is_node_1_tup, isa__is_node_1_oBook, isa_Book___init___0_non, isa_Book___init___0_bl, isa_Book___init___0_int, isa_Book___init___0_str, isa_Book___init___0_lst, isa_Book___init___0_rol, isa_Book___init___0_tup, isa_Book___init___0_oBook, isa_Book___eq___0_non, isa_Book___eq___0_bl, isa_Book___eq___0_int, isa_Book___eq___0_str, isa_Book___eq___0_lst, isa_Book___eq___0_rol, isa_Book___eq___0_tup, isa_Book___eq___0_oBook, isa__law_same_0_non, isa__law_same_0_bl, isa__law_same_0_int, isa__law_same_0_str, isa__law_same_0_lst, isa__law_same_0_rol, isa__law_same_0_tup, isa__law_same_0_oBook, isa__law_same_1_non, isa__law_same_1_bl, isa__law_same_1_int, isa__law_same_1_str, isa__law_same_1_lst, isa__law_same_1_rol, isa__law_same_1_tup, isa__law_same_1_oBook, isa__law_same_2_non, isa__law_same_2_bl, isa__law_same_2_int, isa__law_same_2_str, isa__law_same_2_lst, isa__law_same_2_rol, isa__law_same_2_tup, isa__law_same_2_oBook, isa__law_same_3_non, isa__law_same_3_bl, isa__law_same_3_int, isa__law_same_3_str, isa__law_same_3_lst, isa__law_same_3_rol, isa__law_same_3_tup, isa__law_same_3_oBook, isa__law_same_4_non, isa__law_same_4_bl, isa__law_same_4_int, isa__law_same_4_str, isa__law_same_4_lst, isa__law_same_4_rol, isa__law_same_4_tup, isa__law_same_4_oBook, isa__law_same_5_non, isa__law_same_5_bl, isa__law_same_5_int, isa__law_same_5_str, isa__law_same_5_lst, isa__law_same_5_rol, isa__law_same_5_tup, isa__law_same_5_oBook, isa__law_is_node_0_non, isa__law_is_node_0_bl, isa__law_is_node_0_int, isa__law_is_node_0_str, isa__law_is_node_0_lst, isa__law_is_node_0_rol, isa__law_is_node_0_tup, isa__law_is_node_0_oBook, isa__law_is_node_1_non, isa__law_is_node_1_bl, isa__law_is_node_1_int, isa__law_is_node_1_str, isa__law_is_node_1_lst, isa__law_is_node_1_rol, isa__law_is_node_1_tup, isa__law_is_node_1_oBook, isa__law_is_node_2_non, isa__law_is_node_2_bl, isa__law_is_node_2_int, isa__law_is_node_2_str, isa__law_is_node_2_lst, isa__law_is_node_2_rol, isa__law_is_node_2_tup, isa__law_is_node_2_oBook, isa__law_is_node_3_non, isa__law_is_node_3_bl, isa__law_is_node_3_int, isa__law_is_node_3_str, isa__law_is_node_3_lst, isa__law_is_node_3_rol, isa__law_is_node_3_tup, isa__law_is_node_3_oBook, isa__law_due_0_non, isa__law_due_0_bl, isa__law_due_0_int, isa__law_due_0_str, isa__law_due_0_lst, isa__law_due_0_rol, isa__law_due_0_tup, isa__law_due_0_oBook, *])
theorem col_nin : ∀ s ∈ STRS, cmpD .NotIn (.str s) (.node .lst true [.str "", .str "x", .str "y", .str "z"]) = some (!COLS.contains s) := by decide +kernel
theorem filt_nil {α : Type} {p : α → Bool} {l : List α} : (l.filter fun d => !p d).isEmpty = l.all p := by
  induction l with
  | nil => rfl
  | cons x r ih =>
    rw [List.filter_cons, List.all_cons, ← ih]
    cases p x <;> simp
theorem law_is_node_ok {n : Int} {k : Nat} {d : D} {Q : FRes → Prop} (hd : Pl k d) (hs : d.still = true) (h : Q (.ret (.bl (nodeB n d)) [d, .int n])) : vF F__law_is_node.run [d, .int n] Q := by
  refine vF_runC rfl ?_
  unfold S__law_is_node
  have hbd := hd.bd
  have hfr := fr_still hs
  have fin : ∀ {b : Bool} {r : List D}, b = nodeB n d → Q (.ret (.bl b) (outD 2 P__law_is_node (d :: .int n :: r))) := fun e => by rw [e]; exact h
  cases hd with
  | @tup k o xs hl hx =>
    rw [sl_shd_iff] at hs
    obtain ⟨rfl, hs⟩ := hs
    rw [nodeB_tup] at fin
    by_cases h5 : xs.length = 5
    · obtain ⟨t, a, b, c, e, rfl⟩ := list5 h5
      simp only [List.all_cons, List.all_nil, Bool.and_true, Bool.and_eq_true] at hs
      obtain ⟨ts, as, bs, cs, es⟩ := hs
      have tf := fr_still ts
      have af := fr_still as
      have bf := fr_still bs
      have cf := fr_still cs
      have ef := fr_still es
      have ht : Pl k t := hx t (by simp)
      have tb := ht.bd
      cases ht with
      | @str _ s hq =>
        have hcol := col_nin s hq
        have hrow : rowB n [.str s, a, b, c, e] = (COLS.contains s && [a, b, c, e].all (kidB n)) := rfl
        rw [hrow] at fin
        refine vS_cut (fun η => η = [.node .tup false [.str s, a, b, c, e], .int n, .unb] ∧ COLS.contains s = true) ?_ ?_
        · walk_at "zs"
          refine wB_i (fun e1 => ?_) (fun e1 => ?_)
          · have hc : COLS.contains s = false := by simpa using e1
            rw [hc] at fin
            walk_at "z"
            exact fin rfl
          · have hc : COLS.contains s = true := by simpa using e1
            walk_at "z"
            exact hc
        rintro _ ⟨rfl, hcs⟩
        rw [hcs, Bool.true_and] at fin
        have hxa : Pl k a := hx a (by simp)
        have hxb : Pl k b := hx b (by simp)
        have hxc : Pl k c := hx c (by simp)
        have hxe : Pl k e := hx e (by simp)
        walk_at "zs"
        refine vO_lc (fun j acc η => ∃ x, η = [.node .tup false [.str s, a, b, c, e], .int n, x] ∧ acc = ([a, b, c, e].take j).filter fun d => !kidB n d) ⟨_, rfl, rfl⟩ (by rw [sl_le]; simp) ?_ ?_
        · rintro j dj acc _ hj ⟨x, rfl, rfl⟩
          have hj2 := hj
          have hmem : dj ∈ [a, b, c, e] := List.mem_of_getElem? hj
          have hpj : Pl k dj ∧ dj.still = true := by
            simp only [List.mem_cons, List.not_mem_nil, or_false] at hmem
            rcases hmem with rfl | rfl | rfl | rfl <;> exact ⟨by assumption, by assumption⟩
          have hbj := hpj.1.bd
          have hsj := hpj.2
          have hfj := fr_still hsj
          have hkeep : kidB n dj = false → (([a, b, c, e].take j).filter fun d => !kidB n d) ++ [dj] = ([a, b, c, e].take (j + 1)).filter fun d => !kidB n d := fun hk => by
            rw [List.take_add_one, hj2]
            simp [hk]
          have hdrop : kidB n dj = true → (([a, b, c, e].take j).filter fun d => !kidB n d) = ([a, b, c, e].take (j + 1)).filter fun d => !kidB n d := fun hk => by
            rw [List.take_add_one, hj2]
            simp [hk]
          have hp := hpj.1
          clear hmem hpj hj hj2
          cases hp with
          | non =>
            walk_at "z"
            exact ⟨_, rfl, hdrop rfl⟩
          | @int _ i =>
            walk_at "z"
            rw [kidB_int] at hkeep hdrop
            refine wB_i (fun e1 => ?_) (fun e1 => ?_)
            · walk_at "z"
              exact ⟨_, rfl, hkeep (by simp only [decide_eq_true_eq] at e1; rw [decide_eq_false (by omega)]; rfl)⟩
            · walk_at "z"
              refine wB_i (fun e2 => ?_) (fun e2 => ?_)
              · walk_at "z"
                exact ⟨_, rfl, hkeep (by simp only [decide_eq_true_eq] at e2; rw [decide_eq_false (show ¬ i < n by omega), Bool.and_false])⟩
              · try walk_at "z"
                exact ⟨_, rfl, hdrop (by simp only [decide_eq_false_iff_not] at e1 e2; rw [decide_eq_true (show 0 ≤ i by omega), decide_eq_true (show i < n by omega)]; rfl)⟩
          | pb hp hb =>
            obtain ⟨o, xs, rfl⟩ := PB_node hp
            walk_at "zs"
            exact ⟨_, rfl, hkeep rfl⟩
          | _ =>
            walk_at "zs"
            exact ⟨_, rfl, hkeep rfl⟩
        · rintro acc _ ⟨x, rfl, rfl⟩
          walk_at "zs"
          try exact fin (by rw [List.isEmpty_map]; exact filt_nil)
      | @pb k d hp hb =>
        obtain ⟨o, xs, rfl⟩ := PB_node hp
        walk_at "zs"
        try exact fin rfl
      | _ =>
        walk_at "zs"
        try exact fin rfl
    · have h6 : rowB n xs = false := rowB_len h5
      rw [h6] at fin
      have hne : decide ((xs.length : Int) = 5) = false := decide_eq_false (by omega)
      walk_at "zs"
      try exact fin rfl
  | pb hp hb =>
    obtain ⟨o, xs, rfl⟩ := PB_node hp
    walk_at "zs"
    try exact fin rfl
  | _ =>
    walk_at "zs"
    try exact fin rfl
end Z

set_option Elab.async false
set_option linter.all false
set_option maxRecDepth 100000
set_option maxHeartbeats 4000000
namespace Z
open PySem PySem.Spec PyProof.Rows L2
local macro_rules | `(tactic| walk_at "z") => `(tactic| simp only [vM_bind, vM_pure, vM_opt, vM_frz, vM_sq0, vM_sq1, vM_eK, vM_eS, vM_eTup, vM_eLst, vM_eBin, vM_eNeg, vM_eNot, vM_eAnd, vM_eOr, vM_eIf, vM_eCmp, vM_eCmp2, vM_ptN, vM_ptE, vM_eCut, vM_eSub, vM_ePth, vM_aS, vM_aE, vM_callF, vM_eCall, vM_eLen, vM_eIsa, vM_eO, vM_eBf, vM_rR, vM_rO, vM_iE, vM_iR1, vM_iR3, vM_iEn, vM_iZp, vM_tAnd, vM_tOr, vM_tNot, vM_tE, vM_tY, vM_xcE, vS_q0, vS_q1, vS_pass, vS_ret0, vS_ret, vS_retS, vS_exp, vS_asg, vS_unp, vS_par, vS_setI, vS_setA, vS_if, vS_for, vS_wh, vS_rs, vS_try, vO_some, vO_map, List.getElem?_cons_zero, List.getElem?_cons_succ, List.set_cons_zero, List.set_cons_succ, bd_int, bd_str, bd_bl, bd_non, bd_node, fr_int, fr_str, fr_bl, fr_non, fr_node, fr_unb, fr_fr, fr_map, sl_fr, bd_fr, all_still, sl_int, sl_str, sl_bl, sl_non, sl_own, sl_shd, wTk, wTk0, wTs, gb0, gb1, gb2, vPth, wayS_eq, wayI_w, wWay_n, wWay_n0, wWay_l, wWay_r, wWay_t, wWay_int, wWay_str, wIx_lit, pt_int, cut_lst, cut_rol, cut_take, cut_drop, cut5_1, cut5_4, true_or, or_true, false_or, or_false, and_self, true_and, and_true, reduceCtorEq, putAt1, mapM1, mapM0, tr_lst, fr_bls, bls_map, ncast, Int.reduceEq, Int.reduceLT, Int.reduceLE, eq_self, decide_true, decide_false, cx_is, cx_isn, cx_in, cx_nin, cx_ne, is_non, is_int, is_bl, is_str, is_node, isn_non, isn_int, isn_bl, isn_str, isn_node, Bool.not_true, Bool.not_false, cd_nil, cut5h1, cut5h2, cut5h3, cut5l2, cut5l3, cut5l4, cut5l5, Int.reduceAdd, co_lt, vM_eMeth, vM_eMethE, ownL_eq, wMe_l, wMe_o, wMe_n, ml_a, ml_p, ml_i, nilB0, nilB1, vM_eRg1, co_ll, co_lr, co_lt, co_tl, co_tr, co_al, co_an, ints_still, setFrzP_w, putAt_nil, sl_lt, sl_le, Nat.reduceLeDiff, it_lst, it_rol, it_tup, fr_ints, bS_eq, bT2, vM_lc, frzAt0, frzAt1, wipeD0, wipeD1, setFrz_w, backD0, backD1, xP_w, wXP_int, setI_w, wSet_lit, xK_eq, xNo_eq, wayN_eq, xS_eq, cx_int, cx_str, cx_bl, cx_non, cx_lst, cx_tup, cx_rol, cd_eq_int, cd_ne_int, cd_lt_int, cd_le_int, cd_gt_int, cd_ge_int, cd_eq_str, cd_ne_str, cd_eq_bl, cd_ne_bl, bin_add, bin_sub, bin_mul_l, bin_mod_l, bin_div_l, bin_10_18, bin_10_30, ln_lst, ln_rol, ln_tup, ks_lst, Nat.reducePow, List.length_map, tr_bl, tr_int, cb_int, cb_abs, cb_min, wA_T, wA_r, wB_T, wB_F, wPO_s, wPO_n, st_ok, wRes, List.cons_append, List.nil_append, List.append_nil, List.all_cons, List.all_nil, Bool.true_and, Bool.and_true, List.map_cons, List.map_nil, List.length_cons, List.length_nil, Nat.reduceAdd, Nat.reduceSub, Nat.reduceLT, Nat.lt_add_left_iff_pos, List.replicate, if_true, Bool.and_self, Option.map, pick1, pick2, pick3, pick4, kp_is_color_0, kp__is_child_0, kp__is_child_1, kp__is_node_0, kp__is_node_1, kp__parents_0, kp_worded_0, kp_Book___init___0, kp_Book___init___1, kp_Book_nodes_0, kp_Book___eq___0, kp_Book___eq___1, kp__law_bag_0, kp__law_draw_0, kp__law_draw_1, kp__law_of_0, kp__law_of_1, kp__law_same_0, kq__law_same_0, kp__law_same_1, kq__law_same_1, kp__law_placed_0, kp__law_placed_1, kp__law_free_0, kp__law_free_1, kp__law_grown_0, kp__law_grown_1, kp__law_shape_0, kp__law_shape_1, kp__law_net_0, kp__law_any_0, kp__law_any_1, kp__law_made_0, kp__law_made_1, kp__law_is_node_0, kp__law_is_node_1, kp__law_due_0, kp__law_bent_0, kp__law_bent_1, kp__law_bent_2, kp__law_bent_3, kp_law_0, isa_is_color_0_non, isa_is_color_0_bl, isa_is_color_0_int, isa_is_color_0_str, isa_is_color_0_lst, isa_is_color_0_rol, isa_is_color_0_tup, isa_is_color_0_oBook, isa__is_child_0_non, isa__is_child_0_bl, isa__is_child_0_int, isa__is_child_0_str, isa__is_child_0_lst, isa__is_child_0_rol, isa__is_child_0_tup, isa__is_child_0_oBook, isa__is_child_1_non, isa__is_child_1_bl, isa__is_child_1_int, isa__is_child_1_str, isa__is_child_1_lst, isa__is_child_1_rol, isa__is_child_1_tup, isa__is_child_1_oBook, isa__is_node_0_non, isa__is_node_0_bl, isa__is_node_0_int, isa__is_node_0_str, isa__is_node_0_lst, isa__is_node_0_rol, isa__is_node_0_tup, isa__is_node_0_oBook, isa__is_node_1_non, isa__is_node_1_bl, isa__is_node_1_int, isa__is_node_1_str, isa__is_node_1_lst, isa__is_node_1_rol, isa__is_node_1_tup, isa__is_node_1_oBook, isa_Book___init___0_non, isa_Book___init___0_bl, isa_Book___init___0_int, isa_Book___init___0_str, isa_Book___init___0_lst, isa_Book___init___0_rol, isa_Book___init___0_tup, isa_Book___init___0_oBook, isa_Book___eq___0_non, isa_Book___eq___0_bl, isa_Book___eq___0_int, isa_Book___eq___0_str, isa_Book___eq___0_lst, isa_Book___eq___0_rol, isa_Book___eq___0_tup, isa_Book___eq___0_oBook, isa__law_same_0_non, isa__law_same_0_bl, isa__law_same_0_int, isa__law_same_0_str, isa__law_same_0_lst, isa__law_same_0_rol, isa__law_same_0_tup, isa__law_same_0_oBook, isa__law_same_1_non, isa__law_same_1_bl, isa__law_same_1_int, isa__law_same_1_str, isa__law_same_1_lst, isa__law_same_1_rol, isa__law_same_1_tup, isa__law_same_1_oBook, isa__law_same_2_non, isa__law_same_2_bl, isa__law_same_2_int, isa__law_same_2_str, isa__law_same_2_lst, isa__law_same_2_rol, isa__law_same_2_tup, isa__law_same_2_oBook, isa__law_same_3_non, isa__law_same_3_bl, isa__law_same_3_int, isa__law_same_3_str, isa__law_same_3_lst, isa__law_same_3_rol, isa__law_same_3_tup, isa__law_same_3_oBook, isa__law_same_4_non, isa__law_same_4_bl, isa__law_same_4_int, isa__law_same_4_str, isa__law_same_4_lst, isa__law_same_4_rol, isa__law_same_4_tup, isa__law_same_4_oBook, isa__law_same_5_non, isa__law_same_5_bl, isa__law_same_5_int, isa__law_same_5_str, isa__law_same_5_lst, isa__law_same_5_rol, isa__law_same_5_tup, isa__law_same_5_oBook, isa__law_is_node_0_non, isa__law_is_node_0_bl, isa__law_is_node_0_int, isa__law_is_node_0_str, isa__law_is_node_0_lst, isa__law_is_node_0_rol, isa__law_is_node_0_tup, isa__law_is_node_0_oBook, isa__law_is_node_1_non, isa__law_is_node_1_bl, isa__law_is_node_1_int, isa__law_is_node_1_str, isa__law_is_node_1_lst, isa__law_is_node_1_rol, isa__law_is_node_1_tup, isa__law_is_node_1_oBook, isa__law_is_node_2_non, isa__law_is_node_2_bl, isa__law_is_node_2_int, isa__law_is_node_2_str, isa__law_is_node_2_lst, isa__law_is_node_2_rol, isa__law_is_node_2_tup, isa__law_is_node_2_oBook, isa__law_is_node_3_non, isa__law_is_node_3_bl, isa__law_is_node_3_int, isa__law_is_node_3_str, isa__law_is_node_3_lst, isa__law_is_node_3_rol, isa__law_is_node_3_tup, isa__law_is_node_3_oBook, isa__law_due_0_non, isa__law_due_0_bl, isa__law_due_0_int, isa__law_due_0_str, isa__law_due_0_lst, isa__law_due_0_rol, isa__law_due_0_tup, isa__law_due_0_oBook])
local macro_rules | `(tactic| walk_at "zs") => `(tactic| simp only [vM_bind, vM_pure, vM_opt, vM_frz, vM_sq0, vM_sq1, vM_eK, vM_eS, vM_eTup, vM_eLst, vM_eBin, vM_eNeg, vM_eNot, vM_eAnd, vM_eOr, vM_eIf, vM_eCmp, vM_eCmp2, vM_ptN, vM_ptE, vM_eCut, vM_eSub, vM_ePth, vM_aS, vM_aE, vM_callF, vM_eCall, vM_eLen, vM_eIsa, vM_eO, vM_eBf, vM_rR, vM_rO, vM_iE, vM_iR1, vM_iR3, vM_iEn, vM_iZp, vM_tAnd, vM_tOr, vM_tNot, vM_tE, vM_tY, vM_xcE, vS_q0, vS_q1, vS_pass, vS_ret0, vS_ret, vS_retS, vS_exp, vS_asg, vS_unp, vS_par, vS_setI, vS_setA, vS_if, vS_for, vS_wh, vS_rs, vS_try, vO_some, vO_map, List.getElem?_cons_zero, List.getElem?_cons_succ, List.set_cons_zero, List.set_cons_succ, bd_int, bd_str, bd_bl, bd_non, bd_node, fr_int, fr_str, fr_bl, fr_non, fr_node, fr_unb, fr_fr, fr_map, sl_fr, bd_fr, all_still, sl_int, sl_str, sl_bl, sl_non, sl_own, sl_shd, wTk, wTk0, wTs, gb0, gb1, gb2, vPth, wayS_eq, wayI_w, wWay_n, wWay_n0, wWay_l, wWay_r, wWay_t, wWay_int, wWay_str, wIx_lit, pt_int, cut_lst, cut_rol, cut_take, cut_drop, cut5_1, cut5_4, true_or, or_true, false_or, or_false, and_self, true_and, and_true, reduceCtorEq, putAt1, mapM1, mapM0, tr_lst, fr_bls, bls_map, ncast, Int.reduceEq, Int.reduceLT, Int.reduceLE, eq_self, decide_true, decide_false, cx_is, cx_isn, cx_in, cx_nin, cx_ne, is_non, is_int, is_bl, is_str, is_node, isn_non, isn_int, isn_bl, isn_str, isn_node, Bool.not_true, Bool.not_false, cd_nil, cut5h1, cut5h2, cut5h3, cut5l2, cut5l3, cut5l4, cut5l5, Int.reduceAdd, co_lt, vM_eMeth, vM_eMethE, ownL_eq, wMe_l, wMe_o, wMe_n, ml_a, ml_p, ml_i, nilB0, nilB1, vM_eRg1, co_ll, co_lr, co_lt, co_tl, co_tr, co_al, co_an, ints_still, setFrzP_w, putAt_nil, sl_lt, sl_le, Nat.reduceLeDiff, it_lst, it_rol, it_tup, fr_ints, bS_eq, bT2, vM_lc, frzAt0, frzAt1, wipeD0, wipeD1, setFrz_w, backD0, backD1, xP_w, wXP_int, setI_w, wSet_lit, xK_eq, xNo_eq, wayN_eq, xS_eq, cx_int, cx_str, cx_bl, cx_non, cx_lst, cx_tup, cx_rol, cd_eq_int, cd_ne_int, cd_lt_int, cd_le_int, cd_gt_int, cd_ge_int, cd_eq_str, cd_ne_str, cd_eq_bl, cd_ne_bl, bin_add, bin_sub, bin_mul_l, bin_mod_l, bin_div_l, bin_10_18, bin_10_30, ln_lst, ln_rol, ln_tup, ks_lst, Nat.reducePow, List.length_map, tr_bl, tr_int, cb_int, cb_abs, cb_min, wA_T, wA_r, wB_T, wB_F, wPO_s, wPO_n, st_ok, wRes, List.cons_append, List.nil_append, List.append_nil, List.all_cons, List.all_nil, Bool.true_and, Bool.and_true, List.map_cons, List.map_nil, List.length_cons, List.length_nil, Nat.reduceAdd, Nat.reduceSub, Nat.reduceLT, Nat.lt_add_left_iff_pos, List.replicate, if_true, Bool.and_self, Option.map, pick1, pick2, pick3, pick4, kp_is_color_0, kp__is_child_0, kp__is_child_1, kp__is_node_0, kp__is_node_1, kp__parents_0, kp_worded_0, kp_Book___init___0, kp_Book___init___1, kp_Book_nodes_0, kp_Book___eq___0, kp_Book___eq___1, kp__law_bag_0, kp__law_draw_0, kp__law_draw_1, kp__law_of_0, kp__law_of_1, kp__law_same_0, kq__law_same_0, kp__law_same_1, kq__law_same_1, kp__law_placed_0, kp__law_placed_1, kp__law_free_0, kp__law_free_1, kp__law_grown_0, kp__law_grown_1, kp__law_shape_0, kp__law_shape_1, kp__law_net_0, kp__law_any_0, kp__law_any_1, kp__law_made_0, kp__law_made_1, kp__law_is_node_0, kp__law_is_node_1, kp__law_due_0, kp__law_bent_0, kp__law_bent_1, kp__law_bent_2, kp__law_bent_3, kp_law_0, isa_is_color_0_non, isa_is_color_0_bl, isa_is_color_0_int, isa_is_color_0_str, isa_is_color_0_lst, isa_is_color_0_rol, isa_is_color_0_tup, isa_is_color_0_oBook, isa__is_child_0_non, isa__is_child_0_bl, isa__is_child_0_int, isa__is_child_0_str, isa__is_child_0_lst, isa__is_child_0_rol, isa__is_child_0_tup, isa__is_child_0_oBook, isa__is_child_1_non, isa__is_child_1_bl, isa__is_child_1_int, isa__is_child_1_str, isa__is_child_1_lst, isa__is_child_1_rol, isa__is_child_1_tup, isa__is_child_1_oBook, isa__is_node_0_non, isa__is_node_0_bl, isa__is_node_0_int, isa__is_node_0_str, isa__is_node_0_lst, isa__is_node_0_rol, isa__is_node_0_tup, isa__is_node_0_oBook, isa__is_node_1_non, isa__is_node_1_bl, isa__is_node_1_int, isa__is_node_1_str, isa__is_node_1_lst, isa__is_node_1_rol, isa__is_node_1_tup, isa__is_node_1_oBook, isa_Book___init___0_non, isa_Book___init___0_bl, isa_Book___init___0_int, isa_Book___init___0_str, isa_Book___init___0_lst, isa_Book___init___0_rol, isa_Book___init___0_tup, isa_Book___init___0_oBook, isa_Book___eq___0_non, isa_Book___eq___0_bl, isa_Book___eq___0_int, isa_Book___eq___0_str, isa_Book___eq___0_lst, isa_Book___eq___0_rol, isa_Book___eq___0_tup, isa_Book___eq___0_oBook, isa__law_same_0_non, isa__law_same_0_bl, isa__law_same_0_int, isa__law_same_0_str, isa__law_same_0_lst, isa__law_same_0_rol, isa__law_same_0_tup, isa__law_same_0_oBook, isa__law_same_1_non, isa__law_same_1_bl, isa__law_same_1_int, isa__law_same_1_str, isa__law_same_1_lst, isa__law_same_1_rol, isa__law_same_1_tup, isa__law_same_1_oBook, isa__law_same_2_non, isa__law_same_2_bl, isa__law_same_2_int, isa__law_same_2_str, isa__law_same_2_lst, isa__law_same_2_rol, isa__law_same_2_tup, isa__law_same_2_oBook, isa__law_same_3_non, isa__law_same_3_bl, isa__law_same_3_int, isa__law_same_3_str, isa__law_same_3_lst, isa__law_same_3_rol, isa__law_same_3_tup, isa__law_same_3_oBook, isa__law_same_4_non, isa__law_same_4_bl, isa__law_same_4_int, isa__law_same_4_str, isa__law_same_4_lst, isa__law_same_4_rol, isa__law_same_4_tup, isa__law_same_4_oBook, isa__law_same_5_non, isa__law_same_5_bl, isa__law_same_5_int, isa__law_same_5_str, isa__law_same_5_lst, isa__law_same_5_rol, isa__law_same_5_tup, isa__law_same_5_oBook, isa__law_is_node_0_non, isa__law_is_node_0_bl, isa__law_is_node_0_int, isa__law_is_node_0_str, isa__law_is_node_0_lst, isa__law_is_node_0_rol, isa__law_is_node_0_tup, isa__law_is_node_0_oBook, isa__law_is_node_1_non, isa__law_is_node_1_bl, isa__law_is_node_1_int, isa__law_is_node_1_str, isa__law_is_node_1_lst, isa__law_is_node_1_rol, isa__law_is_node_1_tup, isa__law_is_node_1_oBook, isa__law_is_node_2_non, isa__law_is_node_2_bl, isa__law_is_node_2_int, isa__law_is_node_2_str, isa__law_is_node_2_lst, isa__law_is_node_2_rol, isa__law_is_node_2_tup, isa__law_is_node_2_oBook, isa__law_is_node_3_non, isa__law_is_node_3_bl, isa__law_is_node_3_int, isa__law_is_node_3_str, isa__law_is_node_3_lst, isa__law_is_node_3_rol, isa__law_is_node_3_tup, isa__law_is_node_3_oBook, isa__law_due_0_non, isa__law_due_0_bl, isa__law_due_0_int, isa__law_due_0_str, isa__law_due_0_lst, isa__law_due_0_rol, isa__law_due_0_tup, isa__law_due_0_oBook, *])
theorem kid_get {n : Int} {d : D} (h : kidB n d = true) : d = .non ∨ ∃ i : Int, d = .int i ∧ 0 ≤ i ∧ i < n := by
  unfold kidB at h
  split at h
  · exact .inl rfl
  · rename_i i
    rw [Bool.and_eq_true, decide_eq_true_eq, decide_eq_true_eq] at h
    exact .inr ⟨i, rfl, h.1, h.2⟩
  · cases h
theorem row_get {n : Int} {d : D} (h : nodeB n d = true) (hs : d.still = true) : ∃ s a b c e, d = .node .tup false [.str s, a, b, c, e] ∧ kidB n a = true ∧ kidB n b = true ∧ kidB n c = true ∧ kidB n e = true := by
  unfold nodeB at h
  split at h
  · rw [sl_shd_iff] at hs
    obtain ⟨rfl, hs⟩ := hs
    unfold rowB at h
    split at h
    · rename_i s a b c e
      simp only [List.all_cons, List.all_nil, Bool.and_eq_true] at h
      exact ⟨s, a, b, c, e, rfl, h.2.1, h.2.2.1, h.2.2.2.1, h.2.2.2.2.1⟩
    · cases h
  · cases h
structure Rows (n : Nat) (xs : List D) : Prop where
  len : xs.length = n
  le : n ≤ 200
  pos : 0 < n
  node : ∀ x ∈ xs, nodeB n x = true
  still : ∀ x ∈ xs, x.still = true
theorem Rows.all {n : Nat} {xs : List D} (h : Rows n xs) : xs.all D.still = true := List.all_eq_true.mpr h.still
theorem Rows.fr {n : Nat} {xs : List D} (h : Rows n xs) : xs.map D.frz = xs := (List.map_congr_left fun d hd => fr_still (h.still d hd)).trans (List.map_id'' (fun _ => rfl) xs)
/-- the lists of parents -/
def pL (q : Bool × List Int) : D := .node .lst q.1 (q.2.map .int)
def PsOk (n k : Nat) (ps : List (Bool × List Int)) : Prop := ps.length = n ∧ ∀ q ∈ ps, q.2.length ≤ k ∧ ∀ i ∈ q.2, 0 ≤ i ∧ i < n
theorem enum_get : ∀ {xs : List D} {k j : Nat} {d : D}, (enumD k xs)[j]? = some d → ∃ x, xs[j]? = some x ∧ d = .node .tup true [.int ((k + j : Nat) : Int), x]
  | [], _, _, _, h => by cases h
  | x :: r, k, 0, d, h => ⟨x, rfl, by simpa [enumD] using h.symm⟩
  | x :: r, k, j + 1, d, h => by
    obtain ⟨y, h1, h2⟩ := enum_get (xs := r) (k := k + 1) (j := j) (by simpa [enumD] using h)
    exact ⟨y, by simpa using h1, by rw [h2, show k + 1 + j = k + (j + 1) by omega]⟩
theorem enum_len : ∀ {xs : List D} {k : Nat}, (enumD k xs).length = xs.length
  | [], _ => rfl
  | x :: r, k => by show (enumD (k + 1) r).length + 1 = _; rw [enum_len]; rfl
theorem parents_ok {n : Nat} {xs : List D} {Q : FRes → Prop} (hr : Rows n xs) (h : ∀ ps, (∀ q ∈ ps, q.1 = true) → PsOk n 1000 ps → Q (.ret (.node .lst true (ps.map pL)) [.node .lst false xs])) : vF F__parents.run [.node .lst false xs] Q := by
  refine vF_runC rfl ?_
  unfold S__parents
  have hal := hr.all
  have hfr := hr.fr
  have hn := hr.len
  have hle := hr.le
  refine vS_cut (fun η => ∃ ps x, η = [.node .lst false xs, .node .lst true (ps.map pL), x, .unb, .unb, .unb] ∧ (∀ q ∈ ps, q.1 = true) ∧ PsOk n 0 ps) ?_ ?_
  · walk_at "zs"
    refine vO_lc (fun j acc η => ∃ x, η = [.node .lst false xs, .unb, x, .unb, .unb, .unb] ∧ acc = (List.replicate j (true, ([] : List Int))).map pL) ⟨_, rfl, rfl⟩ (by rw [sl_le]; omega) ?_ ?_
    · rintro j dj acc _ hj ⟨x, rfl, rfl⟩
      walk_at "zs"
      have e : List.replicate j (true, ([] : List Int)) ++ [(true, [])] = (true, []) :: List.replicate j (true, []) := by rw [← List.replicate_succ', List.replicate_succ]
      exact ⟨_, rfl, (List.map_append (f := pL) (l₁ := List.replicate j (true, ([] : List Int))) (l₂ := [(true, [])])).symm.trans (congrArg (List.map pL) e)⟩
    · rintro acc _ ⟨x, rfl, rfl⟩
      walk_at "z"
      exact ⟨_, _, rfl, fun q hq => by rw [List.eq_of_mem_replicate hq], by rw [List.length_replicate]; exact hn, fun q hq => by rw [List.eq_of_mem_replicate hq]; exact ⟨by simp, by simp⟩⟩
  rintro _ ⟨ps, x2, rfl, hp1, hp2⟩
  walk_at "zs"
  refine vO_for_inv (fun k η => ∃ ps x2 x3 x4 x5, η = [.node .lst false xs, .node .lst true (ps.map pL), x2, x3, x4, x5] ∧ (∀ q ∈ ps, q.1 = true) ∧ PsOk n (4 * k) ps) ⟨_, _, _, _, _, rfl, hp1, hp2⟩ ?_ ?_
  · rintro j d _ hd ⟨ps, x2, x3, x4, x5, rfl, hp1, hp2⟩
    obtain ⟨x, hx, rfl⟩ := enum_get hd
    have hxm := List.mem_of_getElem? hx
    have hj := (List.getElem?_eq_some_iff.mp hx).1
    obtain ⟨s, a, b, c, e, rfl, ha, hb, hc, he⟩ := row_get (hr.node x hxm) (hr.still x hxm)
    have hrs := hr.still _ hxm
    have hrf := fr_still hrs
    have hst := hrs
    rw [sl_shd] at hst
    simp only [List.all_cons, List.all_nil, Bool.and_true, Bool.and_eq_true] at hst
    obtain ⟨_, as, bs, cs, es⟩ := hst
    have af := fr_still as
    have bf := fr_still bs
    have cf := fr_still cs
    have ef := fr_still es
    walk_at "zs"
    refine vO_for_inv (fun q η => ∃ ps x5, η = [.node .lst false xs, .node .lst true (ps.map pL), x2, .int ((0 + j : Nat) : Int), .node .tup false [.str s, a, b, c, e], x5] ∧ (∀ q ∈ ps, q.1 = true) ∧ PsOk n (4 * j + q) ps) ⟨_, _, rfl, hp1, hp2⟩ ?_ ?_
    · rintro q dq _ hq ⟨ps, x5, rfl, hp1, hp2⟩
      have hk : kidB n dq = true := by
        have := List.mem_of_getElem? hq
        simp only [List.mem_cons, List.not_mem_nil, or_false] at this
        rcases this with rfl | rfl | rfl | rfl <;> assumption
      have hq4 := (List.getElem?_eq_some_iff.mp hq).1
      simp only [List.length_cons, List.length_nil] at hq4
      have weak : PsOk n (4 * j + (q + 1)) ps := ⟨hp2.1, fun z hz => ⟨by have := (hp2.2 z hz).1; omega, (hp2.2 z hz).2⟩⟩
      rcases kid_get hk with rfl | ⟨i, rfl, hi0, hi1⟩
      · walk_at "z"
        exact ⟨_, _, rfl, hp1, weak⟩
      · have hip : i.toNat < ps.length := by have := hp2.1; omega
        have hpe : ps[i.toNat] = (true, ps[i.toNat].2) := Prod.ext (hp1 _ (List.getElem_mem hip)) rfl
        have hget : (ps.map pL)[i.toNat]? = some (.node .lst true (ps[i.toNat].2.map .int)) := by
          rw [List.getElem?_map, List.getElem?_eq_getElem hip]
          show some (pL ps[i.toNat]) = _
          rw [hpe]; rfl
        walk_at "z"
        rw [wIx_nat hi0 hget]
        walk_at "z"
        rw [mth_app (by rw [sl_lt, List.length_map]; have := (hp2.2 _ (List.getElem_mem hip)).1; omega)]
        walk_at "z"
        have hset : (ps.map pL).set i.toNat (.node .lst true (ps[i.toNat].2.map .int ++ [.int ((0 + j : Nat) : Int)])) = (ps.set i.toNat (true, ps[i.toNat].2 ++ [((0 + j : Nat) : Int)])).map pL := by
          rw [List.map_set]
          congr 1
          unfold pL
          rw [List.map_append]; rfl
        refine ⟨ps.set i.toNat (true, ps[i.toNat].2 ++ [((0 + j : Nat) : Int)]), .int i, ?_, ?_, ?_, ?_⟩
        · first | rw [hset] | (simp only [List.append_nil, List.nil_append, putAt1] ; rw [hset])
        · intro z hz
          rcases List.mem_or_eq_of_mem_set hz with hz | rfl
          · exact hp1 z hz
          · rfl
        · rw [List.length_set]; exact hp2.1
        · intro z hz
          rcases List.mem_or_eq_of_mem_set hz with hz | rfl
          · exact weak.2 z hz
          · have h0 := hp2.2 _ (List.getElem_mem hip)
            refine ⟨by rw [List.length_append, List.length_singleton]; omega, fun v hv => ?_⟩
            rcases List.mem_append.mp hv with hv | hv
            · exact h0.2 v hv
            · rw [List.mem_singleton.mp hv]; omega
    · rintro _ ⟨ps, x5, rfl, hp1, hp2⟩
      walk_at "z"
      exact ⟨ps, _, _, _, _, rfl, hp1, hp2⟩
  · rintro _ ⟨ps, x2, x3, x4, x5, rfl, hp1, hp2⟩
    rw [enum_len] at hp2
    walk_at "zs"
    refine h ps hp1 ⟨hp2.1, fun q hq => ⟨?_, (hp2.2 q hq).2⟩⟩
    have := (hp2.2 q hq).1
    omega
end Z

set_option Elab.async false
set_option linter.all false
set_option maxRecDepth 100000
set_option maxHeartbeats 4000000
namespace Z
open PySem PySem.Spec PyProof.Rows L2
local macro_rules | `(tactic| walk_at "z") => `(tactic| simp only [vM_bind, vM_pure, vM_opt, vM_frz, vM_sq0, vM_sq1, vM_eK, vM_eS, vM_eTup, vM_eLst, vM_eBin, vM_eNeg, vM_eNot, vM_eAnd, vM_eOr, vM_eIf, vM_eCmp, vM_eCmp2, vM_ptN, vM_ptE, vM_eCut, vM_eSub, vM_ePth, vM_aS, vM_aE, vM_callF, vM_eCall, vM_eLen, vM_eIsa, vM_eO, vM_eBf, vM_rR, vM_rO, vM_iE, vM_iR1, vM_iR3, vM_iEn, vM_iZp, vM_tAnd, vM_tOr, vM_tNot, vM_tE, vM_tY, vM_xcE, vS_q0, vS_q1, vS_pass, vS_ret0, vS_ret, vS_retS, vS_exp, vS_asg, vS_unp, vS_par, vS_setI, vS_setA, vS_if, vS_for, vS_wh, vS_rs, vS_try, vO_some, vO_map, List.getElem?_cons_zero, List.getElem?_cons_succ, List.set_cons_zero, List.set_cons_succ, bd_int, bd_str, bd_bl, bd_non, bd_node, fr_int, fr_str, fr_bl, fr_non, fr_node, fr_unb, fr_fr, fr_map, sl_fr, bd_fr, all_still, sl_int, sl_str, sl_bl, sl_non, sl_own, sl_shd, wTk, wTk0, wTs, gb0, gb1, gb2, vPth, wayS_eq, wayI_w, wWay_n, wWay_n0, wWay_l, wWay_r, wWay_t, wWay_int, wWay_str, wIx_lit, pt_int, cut_lst, cut_rol, cut_take, cut_drop, cut5_1, cut5_4, true_or, or_true, false_or, or_false, and_self, true_and, and_true, reduceCtorEq, putAt1, mapM1, mapM0, tr_lst, fr_bls, bls_map, ncast, Int.reduceEq, Int.reduceLT, Int.reduceLE, eq_self, decide_true, decide_false, cx_is, cx_isn, cx_in, cx_nin, cx_ne, is_non, is_int, is_bl, is_str, is_node, isn_non, isn_int, isn_bl, isn_str, isn_node, Bool.not_true, Bool.not_false, cd_nil, cut5h1, cut5h2, cut5h3, cut5l2, cut5l3, cut5l4, cut5l5, Int.reduceAdd, co_lt, vM_eMeth, vM_eMethE, ownL_eq, wMe_l, wMe_o, wMe_n, ml_a, ml_p, ml_i, nilB0, nilB1, vM_eRg1, co_ll, co_lr, co_lt, co_tl, co_tr, co_al, co_an, ints_still, setFrzP_w, putAt_nil, sl_lt, sl_le, Nat.reduceLeDiff, it_lst, it_rol, it_tup, fr_ints, bS_eq, bT2, vM_lc, frzAt0, frzAt1, wipeD0, wipeD1, setFrz_w, backD0, backD1, xP_w, wXP_int, setI_w, wSet_lit, xK_eq, xNo_eq, wayN_eq, xS_eq, cx_int, cx_str, cx_bl, cx_non, cx_lst, cx_tup, cx_rol, cd_eq_int, cd_ne_int, cd_lt_int, cd_le_int, cd_gt_int, cd_ge_int, cd_eq_str, cd_ne_str, cd_eq_bl, cd_ne_bl, bin_add, bin_sub, bin_mul_l, bin_mod_l, bin_div_l, bin_10_18, bin_10_30, ln_lst, ln_rol, ln_tup, ks_lst, Nat.reducePow, List.length_map, tr_bl, tr_int, cb_int, cb_abs, cb_min, wA_T, wA_r, wB_T, wB_F, wPO_s, wPO_n, st_ok, wRes, List.cons_append, List.nil_append, List.append_nil, List.all_cons, List.all_nil, Bool.true_and, Bool.and_true, List.map_cons, List.map_nil, List.length_cons, List.length_nil, Nat.reduceAdd, Nat.reduceSub, Nat.reduceLT, Nat.lt_add_left_iff_pos, List.replicate, if_true, Bool.and_self, Option.map, pick1, pick2, pick3, pick4, kp_is_color_0, kp__is_child_0, kp__is_child_1, kp__is_node_0, kp__is_node_1, kp__parents_0, kp_worded_0, kp_Book___init___0, kp_Book___init___1, kp_Book_nodes_0, kp_Book___eq___0, kp_Book___eq___1, kp__law_bag_0, kp__law_draw_0, kp__law_draw_1, kp__law_of_0, kp__law_of_1, kp__law_same_0, kq__law_same_0, kp__law_same_1, kq__law_same_1, kp__law_placed_0, kp__law_placed_1, kp__law_free_0, kp__law_free_1, kp__law_grown_0, kp__law_grown_1, kp__law_shape_0, kp__law_shape_1, kp__law_net_0, kp__law_any_0, kp__law_any_1, kp__law_made_0, kp__law_made_1, kp__law_is_node_0, kp__law_is_node_1, kp__law_due_0, kp__law_bent_0, kp__law_bent_1, kp__law_bent_2, kp__law_bent_3, kp_law_0, isa_is_color_0_non, isa_is_color_0_bl, isa_is_color_0_int, isa_is_color_0_str, isa_is_color_0_lst, isa_is_color_0_rol, isa_is_color_0_tup, isa_is_color_0_oBook, isa__is_child_0_non, isa__is_child_0_bl, isa__is_child_0_int, isa__is_child_0_str, isa__is_child_0_lst, isa__is_child_0_rol, isa__is_child_0_tup, isa__is_child_0_oBook, isa__is_child_1_non, isa__is_child_1_bl, isa__is_child_1_int, isa__is_child_1_str, isa__is_child_1_lst, isa__is_child_1_rol, isa__is_child_1_tup, isa__is_child_1_oBook, isa__is_node_0_non, isa__is_node_0_bl, isa__is_node_0_int, isa__is_node_0_str, isa__is_node_0_lst, isa__is_node_0_rol, isa__is_node_0_tup, isa__is_node_0_oBook, isa__is_node_1_non, isa__is_node_1_bl, isa__is_node_1_int, isa__is_node_1_str, isa__is_node_1_lst, isa__is_node_1_rol, isa__is_node_1_tup, isa__is_node_1_oBook, isa_Book___init___0_non, isa_Book___init___0_bl, isa_Book___init___0_int, isa_Book___init___0_str, isa_Book___init___0_lst, isa_Book___init___0_rol, isa_Book___init___0_tup, isa_Book___init___0_oBook, isa_Book___eq___0_non, isa_Book___eq___0_bl, isa_Book___eq___0_int, isa_Book___eq___0_str, isa_Book___eq___0_lst, isa_Book___eq___0_rol, isa_Book___eq___0_tup, isa_Book___eq___0_oBook, isa__law_same_0_non, isa__law_same_0_bl, isa__law_same_0_int, isa__law_same_0_str, isa__law_same_0_lst, isa__law_same_0_rol, isa__law_same_0_tup, isa__law_same_0_oBook, isa__law_same_1_non, isa__law_same_1_bl, isa__law_same_1_int, isa__law_same_1_str, isa__law_same_1_lst, isa__law_same_1_rol, isa__law_same_1_tup, isa__law_same_1_oBook, isa__law_same_2_non, isa__law_same_2_bl, isa__law_same_2_int, isa__law_same_2_str, isa__law_same_2_lst, isa__law_same_2_rol, isa__law_same_2_tup, isa__law_same_2_oBook, isa__law_same_3_non, isa__law_same_3_bl, isa__law_same_3_int, isa__law_same_3_str, isa__law_same_3_lst, isa__law_same_3_rol, isa__law_same_3_tup, isa__law_same_3_oBook, isa__law_same_4_non, isa__law_same_4_bl, isa__law_same_4_int, isa__law_same_4_str, isa__law_same_4_lst, isa__law_same_4_rol, isa__law_same_4_tup, isa__law_same_4_oBook, isa__law_same_5_non, isa__law_same_5_bl, isa__law_same_5_int, isa__law_same_5_str, isa__law_same_5_lst, isa__law_same_5_rol, isa__law_same_5_tup, isa__law_same_5_oBook, isa__law_is_node_0_non, isa__law_is_node_0_bl, isa__law_is_node_0_int, isa__law_is_node_0_str, isa__law_is_node_0_lst, isa__law_is_node_0_rol, isa__law_is_node_0_tup, isa__law_is_node_0_oBook, isa__law_is_node_1_non, isa__law_is_node_1_bl, isa__law_is_node_1_int, isa__law_is_node_1_str, isa__law_is_node_1_lst, isa__law_is_node_1_rol, isa__law_is_node_1_tup, isa__law_is_node_1_oBook, isa__law_is_node_2_non, isa__law_is_node_2_bl, isa__law_is_node_2_int, isa__law_is_node_2_str, isa__law_is_node_2_lst, isa__law_is_node_2_rol, isa__law_is_node_2_tup, isa__law_is_node_2_oBook, isa__law_is_node_3_non, isa__law_is_node_3_bl, isa__law_is_node_3_int, isa__law_is_node_3_str, isa__law_is_node_3_lst, isa__law_is_node_3_rol, isa__law_is_node_3_tup, isa__law_is_node_3_oBook, isa__law_due_0_non, isa__law_due_0_bl, isa__law_due_0_int, isa__law_due_0_str, isa__law_due_0_lst, isa__law_due_0_rol, isa__law_due_0_tup, isa__law_due_0_oBook])
local macro_rules | `(tactic| walk_at "zs") => `(tactic| simp only [vM_bind, vM_pure, vM_opt, vM_frz, vM_sq0, vM_sq1, vM_eK, vM_eS, vM_eTup, vM_eLst, vM_eBin, vM_eNeg, vM_eNot, vM_eAnd, vM_eOr, vM_eIf, vM_eCmp, vM_eCmp2, vM_ptN, vM_ptE, vM_eCut, vM_eSub, vM_ePth, vM_aS, vM_aE, vM_callF, vM_eCall, vM_eLen, vM_eIsa, vM_eO, vM_eBf, vM_rR, vM_rO, vM_iE, vM_iR1, vM_iR3, vM_iEn, vM_iZp, vM_tAnd, vM_tOr, vM_tNot, vM_tE, vM_tY, vM_xcE, vS_q0, vS_q1, vS_pass, vS_ret0, vS_ret, vS_retS, vS_exp, vS_asg, vS_unp, vS_par, vS_setI, vS_setA, vS_if, vS_for, vS_wh, vS_rs, vS_try, vO_some, vO_map, List.getElem?_cons_zero, List.getElem?_cons_succ, List.set_cons_zero, List.set_cons_succ, bd_int, bd_str, bd_bl, bd_non, bd_node, fr_int, fr_str, fr_bl, fr_non, fr_node, fr_unb, fr_fr, fr_map, sl_fr, bd_fr, all_still, sl_int, sl_str, sl_bl, sl_non, sl_own, sl_shd, wTk, wTk0, wTs, gb0, gb1, gb2, vPth, wayS_eq, wayI_w, wWay_n, wWay_n0, wWay_l, wWay_r, wWay_t, wWay_int, wWay_str, wIx_lit, pt_int, cut_lst, cut_rol, cut_take, cut_drop, cut5_1, cut5_4, true_or, or_true, false_or, or_false, and_self, true_and, and_true, reduceCtorEq, putAt1, mapM1, mapM0, tr_lst, fr_bls, bls_map, ncast, Int.reduceEq, Int.reduceLT, Int.reduceLE, eq_self, decide_true, decide_false, cx_is, cx_isn, cx_in, cx_nin, cx_ne, is_non, is_int, is_bl, is_str, is_node, isn_non, isn_int, isn_bl, isn_str, isn_node, Bool.not_true, Bool.not_false, cd_nil, cut5h1, cut5h2, cut5h3, cut5l2, cut5l3, cut5l4, cut5l5, Int.reduceAdd, co_lt, vM_eMeth, vM_eMethE, ownL_eq, wMe_l, wMe_o, wMe_n, ml_a, ml_p, ml_i, nilB0, nilB1, vM_eRg1, co_ll, co_lr, co_lt, co_tl, co_tr, co_al, co_an, ints_still, setFrzP_w, putAt_nil, sl_lt, sl_le, Nat.reduceLeDiff, it_lst, it_rol, it_tup, fr_ints, bS_eq, bT2, vM_lc, frzAt0, frzAt1, wipeD0, wipeD1, setFrz_w, backD0, backD1, xP_w, wXP_int, setI_w, wSet_lit, xK_eq, xNo_eq, wayN_eq, xS_eq, cx_int, cx_str, cx_bl, cx_non, cx_lst, cx_tup, cx_rol, cd_eq_int, cd_ne_int, cd_lt_int, cd_le_int, cd_gt_int, cd_ge_int, cd_eq_str, cd_ne_str, cd_eq_bl, cd_ne_bl, bin_add, bin_sub, bin_mul_l, bin_mod_l, bin_div_l, bin_10_18, bin_10_30, ln_lst, ln_rol, ln_tup, ks_lst, Nat.reducePow, List.length_map, tr_bl, tr_int, cb_int, cb_abs, cb_min, wA_T, wA_r, wB_T, wB_F, wPO_s, wPO_n, st_ok, wRes, List.cons_append, List.nil_append, List.append_nil, List.all_cons, List.all_nil, Bool.true_and, Bool.and_true, List.map_cons, List.map_nil, List.length_cons, List.length_nil, Nat.reduceAdd, Nat.reduceSub, Nat.reduceLT, Nat.lt_add_left_iff_pos, List.replicate, if_true, Bool.and_self, Option.map, pick1, pick2, pick3, pick4, kp_is_color_0, kp__is_child_0, kp__is_child_1, kp__is_node_0, kp__is_node_1, kp__parents_0, kp_worded_0, kp_Book___init___0, kp_Book___init___1, kp_Book_nodes_0, kp_Book___eq___0, kp_Book___eq___1, kp__law_bag_0, kp__law_draw_0, kp__law_draw_1, kp__law_of_0, kp__law_of_1, kp__law_same_0, kq__law_same_0, kp__law_same_1, kq__law_same_1, kp__law_placed_0, kp__law_placed_1, kp__law_free_0, kp__law_free_1, kp__law_grown_0, kp__law_grown_1, kp__law_shape_0, kp__law_shape_1, kp__law_net_0, kp__law_any_0, kp__law_any_1, kp__law_made_0, kp__law_made_1, kp__law_is_node_0, kp__law_is_node_1, kp__law_due_0, kp__law_bent_0, kp__law_bent_1, kp__law_bent_2, kp__law_bent_3, kp_law_0, isa_is_color_0_non, isa_is_color_0_bl, isa_is_color_0_int, isa_is_color_0_str, isa_is_color_0_lst, isa_is_color_0_rol, isa_is_color_0_tup, isa_is_color_0_oBook, isa__is_child_0_non, isa__is_child_0_bl, isa__is_child_0_int, isa__is_child_0_str, isa__is_child_0_lst, isa__is_child_0_rol, isa__is_child_0_tup, isa__is_child_0_oBook, isa__is_child_1_non, isa__is_child_1_bl, isa__is_child_1_int, isa__is_child_1_str, isa__is_child_1_lst, isa__is_child_1_rol, isa__is_child_1_tup, isa__is_child_1_oBook, isa__is_node_0_non, isa__is_node_0_bl, isa__is_node_0_int, isa__is_node_0_str, isa__is_node_0_lst, isa__is_node_0_rol, isa__is_node_0_tup, isa__is_node_0_oBook, isa__is_node_1_non, isa__is_node_1_bl, isa__is_node_1_int, isa__is_node_1_str, isa__is_node_1_lst, isa__is_node_1_rol, isa__is_node_1_tup, isa__is_node_1_oBook, isa_Book___init___0_non, isa_Book___init___0_bl, isa_Book___init___0_int, isa_Book___init___0_str, isa_Book___init___0_lst, isa_Book___init___0_rol, isa_Book___init___0_tup, isa_Book___init___0_oBook, isa_Book___eq___0_non, isa_Book___eq___0_bl, isa_Book___eq___0_int, isa_Book___eq___0_str, isa_Book___eq___0_lst, isa_Book___eq___0_rol, isa_Book___eq___0_tup, isa_Book___eq___0_oBook, isa__law_same_0_non, isa__law_same_0_bl, isa__law_same_0_int, isa__law_same_0_str, isa__law_same_0_lst, isa__law_same_0_rol, isa__law_same_0_tup, isa__law_same_0_oBook, isa__law_same_1_non, isa__law_same_1_bl, isa__law_same_1_int, isa__law_same_1_str, isa__law_same_1_lst, isa__law_same_1_rol, isa__law_same_1_tup, isa__law_same_1_oBook, isa__law_same_2_non, isa__law_same_2_bl, isa__law_same_2_int, isa__law_same_2_str, isa__law_same_2_lst, isa__law_same_2_rol, isa__law_same_2_tup, isa__law_same_2_oBook, isa__law_same_3_non, isa__law_same_3_bl, isa__law_same_3_int, isa__law_same_3_str, isa__law_same_3_lst, isa__law_same_3_rol, isa__law_same_3_tup, isa__law_same_3_oBook, isa__law_same_4_non, isa__law_same_4_bl, isa__law_same_4_int, isa__law_same_4_str, isa__law_same_4_lst, isa__law_same_4_rol, isa__law_same_4_tup, isa__law_same_4_oBook, isa__law_same_5_non, isa__law_same_5_bl, isa__law_same_5_int, isa__law_same_5_str, isa__law_same_5_lst, isa__law_same_5_rol, isa__law_same_5_tup, isa__law_same_5_oBook, isa__law_is_node_0_non, isa__law_is_node_0_bl, isa__law_is_node_0_int, isa__law_is_node_0_str, isa__law_is_node_0_lst, isa__law_is_node_0_rol, isa__law_is_node_0_tup, isa__law_is_node_0_oBook, isa__law_is_node_1_non, isa__law_is_node_1_bl, isa__law_is_node_1_int, isa__law_is_node_1_str, isa__law_is_node_1_lst, isa__law_is_node_1_rol, isa__law_is_node_1_tup, isa__law_is_node_1_oBook, isa__law_is_node_2_non, isa__law_is_node_2_bl, isa__law_is_node_2_int, isa__law_is_node_2_str, isa__law_is_node_2_lst, isa__law_is_node_2_rol, isa__law_is_node_2_tup, isa__law_is_node_2_oBook, isa__law_is_node_3_non, isa__law_is_node_3_bl, isa__law_is_node_3_int, isa__law_is_node_3_str, isa__law_is_node_3_lst, isa__law_is_node_3_rol, isa__law_is_node_3_tup, isa__law_is_node_3_oBook, isa__law_due_0_non, isa__law_due_0_bl, isa__law_due_0_int, isa__law_due_0_str, isa__law_due_0_lst, isa__law_due_0_rol, isa__law_due_0_tup, isa__law_due_0_oBook, *])
def cntF : List Bool → Nat
  | [] => 0
  | b :: r => (if b = true then 0 else 1) + cntF r
theorem cntF_le : ∀ l : List Bool, cntF l ≤ l.length
  | [] => Nat.le_refl _
  | b :: r => by have := cntF_le r; unfold cntF; rw [List.length_cons]; split <;> omega
theorem cntF_set : ∀ {l : List Bool} {j : Nat}, l[j]? = some false → cntF (l.set j true) + 1 = cntF l
  | [], _, h => by simp at h
  | b :: r, 0, h => by
    have : b = false := by simpa using h
    subst this
    show (0 + cntF r) + 1 = 1 + cntF r
    omega
  | b :: r, j + 1, h => by
    have := cntF_set (l := r) (j := j) (by simpa using h)
    show (if b = true then 0 else 1) + cntF (r.set j true) + 1 = (if b = true then 0 else 1) + cntF r
    omega
def kidsL : Option D → List D
  | some (.node _ _ xs) => xs
  | _ => []
def isFa : D → Nat
  | .bl false => 1
  | _ => 0
def sumF : List D → Nat
  | [] => 0
  | d :: r => isFa d + sumF r
theorem sumF_bl : ∀ {l : List Bool}, sumF (l.map D.bl) = cntF l
  | [] => rfl
  | b :: r => by
    show isFa (.bl b) + sumF (r.map D.bl) = (if b = true then 0 else 1) + cntF r
    rw [sumF_bl]
    cases b <;> rfl
def muW (η : List D) : Nat := 2 * sumF (kidsL η[2]?) + (kidsL η[4]?).length
def WsOk (n : Nat) (ws : List Int) : Prop := ∀ w ∈ ws, 0 ≤ w ∧ w < n
theorem ne_str {s t : Str} : cmpD .NotEq (.str s) (.str t) = some (!decide (s = t)) := rfl
theorem worded_ok {n : Nat} {xs : List D} {Q : FRes → Prop} (hr : Rows n xs) (h : ∀ fs : List Bool, Q (.ret (.node .lst true (fs.map .bl)) [.node .lst false xs])) : vF F_worded.run [.node .lst false xs] Q := by
  refine vF_runC rfl ?_
  unfold S_worded
  have hal := hr.all
  have hfr := hr.fr
  have hn := hr.len
  have hle := hr.le
  refine vS_cut (fun η => ∃ ps, η = [.node .lst false xs, .node .lst true (ps.map pL), .unb, .unb, .unb, .unb, .unb] ∧ PsOk n 1000 ps) ?_ ?_
  · walk_at "zs"
    refine parents_ok hr fun ps hp1 hp2 => ?_
    walk_at "z"
    exact ⟨ps, rfl, hp2⟩
  rintro _ ⟨ps, rfl, hp⟩
  refine vS_cut (fun η => ∃ (fs : List Bool) (x3 : D), η = [.node .lst false xs, .node .lst true (ps.map pL), .node .lst true (fs.map .bl), x3, .unb, .unb, .unb] ∧ fs.length = n) ?_ ?_
  · walk_at "zs"
    refine vO_lc (fun j acc η => ∃ (fs : List Bool) (x3 : D), η = [.node .lst false xs, .node .lst true (ps.map pL), .unb, x3, .unb, .unb, .unb] ∧ acc = fs.map .bl ∧ fs.length = j) ⟨[], _, rfl, rfl, rfl⟩ (by rw [sl_le]; omega) ?_ ?_
    · rintro j dj acc _ hj ⟨fs, x3, rfl, rfl, hf⟩
      have hm := List.mem_of_getElem? hj
      obtain ⟨s, a, b, c, e, rfl, ha, hb, hc, he⟩ := row_get (hr.node _ hm) (hr.still _ hm)
      have hrs := hr.still _ hm
      have hrf := fr_still hrs
      walk_at "z"
      exact ⟨fs ++ [!decide (s = "")], _, rfl, by rw [List.map_append]; rfl, by rw [List.length_append, hf]; rfl⟩
    · rintro acc _ ⟨fs, x3, rfl, rfl, hf⟩
      walk_at "z"
      exact ⟨fs, _, rfl, by omega⟩
  rintro _ ⟨fs, x3, rfl, hf⟩
  refine vS_cut (fun η => ∃ (ws : List Int) (x3 x5 : D), η = [.node .lst false xs, .node .lst true (ps.map pL), .node .lst true (fs.map .bl), x3, .node .lst true (ws.map .int), x5, .unb] ∧ WsOk n ws ∧ ws.length + cntF fs ≤ 2 * n) ?_ ?_
  · walk_at "zs"
    refine vO_lc (fun j acc η => ∃ (ws : List Int) (x3 x5 : D), η = [.node .lst false xs, .node .lst true (ps.map pL), .node .lst true (fs.map .bl), x3, .unb, x5, .unb] ∧ acc = ws.map .int ∧ WsOk n ws ∧ ws.length ≤ j) ⟨[], _, _, rfl, rfl, (fun w hw => by cases hw), Nat.le_refl _⟩ (by rw [sl_le, enum_len]; omega) ?_ ?_
    · rintro j dj acc _ hj ⟨ws, x3, x5, rfl, rfl, hw1, hw2⟩
      obtain ⟨x, hx, rfl⟩ := enum_get hj
      have hm := List.mem_of_getElem? hx
      have hjl := (List.getElem?_eq_some_iff.mp hx).1
      obtain ⟨s, a, b, c, e, rfl, ha, hb, hc, he⟩ := row_get (hr.node _ hm) (hr.still _ hm)
      have hrs := hr.still _ hm
      have hrf := fr_still hrs
      walk_at "z"
      refine wB_i (fun e1 => ?_) (fun e1 => ?_)
      · walk_at "z"
        refine ⟨ws ++ [((0 + j : Nat) : Int)], _, _, rfl, by rw [List.map_append]; rfl, fun w hw => ?_, by rw [List.length_append, List.length_singleton]; omega⟩
        rcases List.mem_append.mp hw with hw | hw
        · exact hw1 w hw
        · rw [List.mem_singleton.mp hw]; omega
      · try walk_at "z"
        exact ⟨ws, _, _, rfl, rfl, hw1, by omega⟩
    · rintro acc _ ⟨ws, x3, x5, rfl, rfl, hw1, hw2⟩
      rw [enum_len] at hw2
      have := cntF_le fs
      walk_at "z"
      exact ⟨ws, _, _, rfl, hw1, by omega⟩
  rintro _ ⟨ws, x3, x5, rfl, hw1, hw2⟩
  refine vS_cut (fun η => ∃ (fs : List Bool) (x1 x3 x4 x5 x6 : D), η = [.node .lst false xs, x1, .node .lst true (fs.map .bl), x3, x4, x5, x6]) ?_ ?_
  · rw [vS_wh]
    refine while_v (fun η => ∃ (ps : List (Bool × List Int)) (fs : List Bool) (ws : List Int) (x5 x6 : D), η = [.node .lst false xs, .node .lst true (ps.map pL), .node .lst true (fs.map .bl), x3, .node .lst true (ws.map .int), x5, x6] ∧ PsOk n 1000 ps ∧ fs.length = n ∧ WsOk n ws ∧ ws.length + cntF fs ≤ 2 * n) muW ⟨ps, fs, ws, _, _, rfl, hp, hf, hw1, hw2⟩ ?_ ?_
    · show 2 * sumF (fs.map .bl) + (ws.map D.int).length < hWf
      rw [sumF_bl, List.length_map]
      have := cntF_le fs
      unfold hWf
      omega
    rintro _ ⟨ps, fs, ws, x5, x6, rfl, hp, hf, hw1, hw2⟩
    walk_at "z"
    refine wB_i (fun e1 => ?_) (fun e1 => ?_)
    · obtain ⟨ws', w, rfl⟩ : ∃ ws' w, ws = ws' ++ [w] := by
        rcases List.eq_nil_or_concat ws with rfl | ⟨a, b, rfl⟩
        · cases e1
        · exact ⟨a, b, List.concat_eq_append⟩
      clear e1
      have hpop : methL "pop" ((ws' ++ [w]).map D.int) [] = some (.int w, ws'.map .int) := by rw [mth_pop]; simp
      have hw0 := hw1 w (by simp)
      have hw1' : WsOk n ws' := fun v hv => hw1 v (by simp [hv])
      rw [List.length_append, List.length_singleton] at hw2
      have hmu : muW [.node .lst false xs, .node .lst true (ps.map pL), .node .lst true (fs.map .bl), x3, .node .lst true ((ws' ++ [w]).map .int), x5, x6] = 2 * cntF fs + ws'.length + 1 := by
        show 2 * sumF (fs.map .bl) + ((ws' ++ [w]).map D.int).length = _
        rw [sumF_bl, List.length_map, List.length_append, List.length_singleton]; rfl
      rw [hmu]
      clear hmu
      have hwp : w.toNat < ps.length := by have := hp.1; omega
      walk_at "z"
      rw [hpop]
      walk_at "z"
      have hin := (hp.2 _ (List.getElem_mem hwp)).2
      rcases hq : ps[w.toNat] with ⟨o, l⟩
      rw [hq] at hin
      have hget : (ps.map pL)[w.toNat]? = some (.node .lst o (l.map .int)) := by
        rw [List.getElem?_map, List.getElem?_eq_getElem hwp, hq]; rfl
      rw [wIx_nat hw0.1 hget]
      have hps : PsOk n 1000 (ps.set w.toNat (false, l)) := ⟨by rw [List.length_set]; exact hp.1, fun z hz => by
        rcases List.mem_or_eq_of_mem_set hz with hz | rfl
        · exact hp.2 z hz
        · exact (by have := hp.2 _ (List.getElem_mem hwp); rw [hq] at this; exact this)⟩
      have hset : (ps.map pL).set w.toNat (.node .lst false (l.map .int)) = (ps.set w.toNat (false, l)).map pL := by
        rw [List.map_set]; rfl
      walk_at "z"
      cases o
      case' true =>
        walk_at "z"
        rw [hset]
      case' false =>
        walk_at "z"
      all_goals
        refine vO_for_inv (fun q η => ∃ (ps : List (Bool × List Int)) (fs' : List Bool) (ws : List Int) (x5 x6 : D), η = [.node .lst false xs, .node .lst true (ps.map pL), .node .lst true (fs'.map .bl), x3, .node .lst true (ws.map .int), x5, x6] ∧ PsOk n 1000 ps ∧ fs'.length = n ∧ WsOk n ws ∧ ws.length + cntF fs' ≤ 2 * n ∧ 2 * cntF fs' + ws.length ≤ 2 * cntF fs + ws'.length) ⟨_, fs, ws', _, _, rfl, by first | exact hps | exact hp, hf, hw1', by omega, Nat.le_refl _⟩ ?_ ?_
        · rintro q dq _ hq2 ⟨ps2, fs2, ws2, x52, x62, rfl, hp2, hf2, hww2, hl2, hm2⟩
          rw [List.getElem?_map, Option.map_eq_some_iff] at hq2
          obtain ⟨i, hi, rfl⟩ := hq2
          have hi01 := hin i (List.mem_of_getElem? hi)
          have hif : i.toNat < fs2.length := by omega
          have hgf : (fs2.map D.bl)[i.toNat]? = some (.bl fs2[i.toNat]) := by
            rw [List.getElem?_map, List.getElem?_eq_getElem hif]; rfl
          walk_at "z"
          rw [wIx_nat hi01.1 hgf]
          walk_at "z"
          refine wB_i (fun e1 => ?_) (fun e1 => ?_)
          · have e2 : fs2[i.toNat] = false := by simpa using e1
            have e3 : fs2[i.toNat]? = some false := by rw [List.getElem?_eq_getElem hif, e2]
            have hc := cntF_set e3
            walk_at "z"
            rw [wSet_int hi01.1 (by rw [List.length_map]; omega) (by simp)]
            walk_at "z"
            rw [mth_app (by rw [sl_lt, List.length_map]; omega)]
            walk_at "z"
            refine ⟨ps2, fs2.set i.toNat true, ws2 ++ [i], x52, .int i, ?_, hp2, by rw [List.length_set]; exact hf2, ?_, ?_, ?_⟩
            · rw [List.map_set, List.map_append]; rfl
            · intro v hv
              rcases List.mem_append.mp hv with hv | hv
              · exact hww2 v hv
              · rw [List.mem_singleton.mp hv]; exact hi01
            · rw [List.length_append, List.length_singleton]; omega
            · rw [List.length_append, List.length_singleton]; omega
          · try walk_at "z"
            exact ⟨ps2, fs2, ws2, _, _, rfl, hp2, hf2, hww2, hl2, hm2⟩
        · rintro _ ⟨ps2, fs2, ws2, x52, x62, rfl, hp2, hf2, hww2, hl2, hm2⟩
          walk_at "z"
          refine ⟨⟨ps2, fs2, ws2, _, _, rfl, hp2, hf2, hww2, hl2⟩, ?_⟩
          show 2 * sumF (fs2.map .bl) + (ws2.map D.int).length < _
          rw [sumF_bl, List.length_map]
          omega
    · try walk_at "z"
      exact ⟨fs, _, _, _, _, _, rfl⟩
  rintro _ ⟨fs, x1, x3, x4, x5, x6, rfl⟩
  walk_at "z"
  exact h fs
end Z

set_option Elab.async false
set_option linter.all false
set_option maxRecDepth 100000
set_option maxHeartbeats 4000000
namespace Z
open PySem PySem.Spec PyProof.Rows L2
theorem R_same {run : List D → Option FRes} : (R__law_same run).run = run := rfl
local macro_rules | `(tactic| walk_at "z") => `(tactic| simp only [vM_bind, vM_pure, vM_opt, vM_frz, vM_sq0, vM_sq1, vM_eK, vM_eS, vM_eTup, vM_eLst, vM_eBin, vM_eNeg, vM_eNot, vM_eAnd, vM_eOr, vM_eIf, vM_eCmp, vM_eCmp2, vM_ptN, vM_ptE, vM_eCut, vM_eSub, vM_ePth, vM_aS, vM_aE, vM_callF, vM_eCall, vM_eLen, vM_eIsa, vM_eO, vM_eBf, vM_rR, vM_rO, vM_iE, vM_iR1, vM_iR3, vM_iEn, vM_iZp, vM_tAnd, vM_tOr, vM_tNot, vM_tE, vM_tY, vM_xcE, vS_q0, vS_q1, vS_pass, vS_ret0, vS_ret, vS_retS, vS_exp, vS_asg, vS_unp, vS_par, vS_setI, vS_setA, vS_if, vS_for, vS_wh, vS_rs, vS_try, vO_some, vO_map, List.getElem?_cons_zero, List.getElem?_cons_succ, List.set_cons_zero, List.set_cons_succ, bd_int, bd_str, bd_bl, bd_non, bd_node, fr_int, fr_str, fr_bl, fr_non, fr_node, fr_unb, fr_fr, fr_map, sl_fr, bd_fr, all_still, sl_int, sl_str, sl_bl, sl_non, sl_own, sl_shd, wTk, wTk0, wTs, gb0, gb1, gb2, vPth, wayS_eq, wayI_w, wWay_n, wWay_n0, wWay_l, wWay_r, wWay_t, wWay_int, wWay_str, wIx_lit, pt_int, cut_lst, cut_rol, cut_take, cut_drop, cut5_1, cut5_4, true_or, or_true, false_or, or_false, and_self, true_and, and_true, reduceCtorEq, putAt1, mapM1, mapM0, tr_lst, fr_bls, bls_map, ncast, Int.reduceEq, Int.reduceLT, Int.reduceLE, eq_self, decide_true, decide_false, cx_is, cx_isn, cx_in, cx_nin, cx_ne, is_non, is_int, is_bl, is_str, is_node, isn_non, isn_int, isn_bl, isn_str, isn_node, Bool.not_true, Bool.not_false, cd_nil, cut5h1, cut5h2, cut5h3, cut5l2, cut5l3, cut5l4, cut5l5, Int.reduceAdd, co_lt, vM_eMeth, vM_eMethE, ownL_eq, wMe_l, wMe_o, wMe_n, ml_a, ml_p, ml_i, nilB0, nilB1, vM_eRg1, co_ll, co_lr, co_lt, co_tl, co_tr, co_al, co_an, ints_still, setFrzP_w, putAt_nil, sl_lt, sl_le, Nat.reduceLeDiff, it_lst, it_rol, it_tup, fr_ints, bS_eq, bT2, vM_lc, frzAt0, frzAt1, wipeD0, wipeD1, setFrz_w, backD0, backD1, xP_w, wXP_int, setI_w, wSet_lit, xK_eq, xNo_eq, wayN_eq, xS_eq, cx_int, cx_str, cx_bl, cx_non, cx_lst, cx_tup, cx_rol, cd_eq_int, cd_ne_int, cd_lt_int, cd_le_int, cd_gt_int, cd_ge_int, cd_eq_str, cd_ne_str, cd_eq_bl, cd_ne_bl, bin_add, bin_sub, bin_mul_l, bin_mod_l, bin_div_l, bin_10_18, bin_10_30, ln_lst, ln_rol, ln_tup, ks_lst, Nat.reducePow, List.length_map, tr_bl, tr_int, cb_int, cb_abs, cb_min, wA_T, wA_r, wB_T, wB_F, wPO_s, wPO_n, st_ok, wRes, List.cons_append, List.nil_append, List.append_nil, List.all_cons, List.all_nil, Bool.true_and, Bool.and_true, List.map_cons, List.map_nil, List.length_cons, List.length_nil, Nat.reduceAdd, Nat.reduceSub, Nat.reduceLT, Nat.lt_add_left_iff_pos, List.replicate, if_true, Bool.and_self, Option.map, pick1, pick2, pick3, pick4, kp_is_color_0, kp__is_child_0, kp__is_child_1, kp__is_node_0, kp__is_node_1, kp__parents_0, kp_worded_0, kp_Book___init___0, kp_Book___init___1, kp_Book_nodes_0, kp_Book___eq___0, kp_Book___eq___1, kp__law_bag_0, kp__law_draw_0, kp__law_draw_1, kp__law_of_0, kp__law_of_1, kp__law_same_0, kq__law_same_0, kp__law_same_1, kq__law_same_1, kp__law_placed_0, kp__law_placed_1, kp__law_free_0, kp__law_free_1, kp__law_grown_0, kp__law_grown_1, kp__law_shape_0, kp__law_shape_1, kp__law_net_0, kp__law_any_0, kp__law_any_1, kp__law_made_0, kp__law_made_1, kp__law_is_node_0, kp__law_is_node_1, kp__law_due_0, kp__law_bent_0, kp__law_bent_1, kp__law_bent_2, kp__law_bent_3, kp_law_0, isa_is_color_0_non, isa_is_color_0_bl, isa_is_color_0_int, isa_is_color_0_str, isa_is_color_0_lst, isa_is_color_0_rol, isa_is_color_0_tup, isa_is_color_0_oBook, isa__is_child_0_non, isa__is_child_0_bl, isa__is_child_0_int, isa__is_child_0_str, isa__is_child_0_lst, isa__is_child_0_rol, isa__is_child_0_tup, isa__is_child_0_oBook, isa__is_child_1_non, isa__is_child_1_bl, isa__is_child_1_int, isa__is_child_1_str, isa__is_child_1_lst, isa__is_child_1_rol, isa__is_child_1_tup, isa__is_child_1_oBook, isa__is_node_0_non, isa__is_node_0_bl, isa__is_node_0_int, isa__is_node_0_str, isa__is_node_0_lst, isa__is_node_0_rol, isa__is_node_0_tup, isa__is_node_0_oBook, isa__is_node_1_non, isa__is_node_1_bl, isa__is_node_1_int, isa__is_node_1_str, isa__is_node_1_lst, isa__is_node_1_rol, isa__is_node_1_tup, isa__is_node_1_oBook, isa_Book___init___0_non, isa_Book___init___0_bl, isa_Book___init___0_int, isa_Book___init___0_str, isa_Book___init___0_lst, isa_Book___init___0_rol, isa_Book___init___0_tup, isa_Book___init___0_oBook, isa_Book___eq___0_non, isa_Book___eq___0_bl, isa_Book___eq___0_int, isa_Book___eq___0_str, isa_Book___eq___0_lst, isa_Book___eq___0_rol, isa_Book___eq___0_tup, isa_Book___eq___0_oBook, isa__law_same_0_non, isa__law_same_0_bl, isa__law_same_0_int, isa__law_same_0_str, isa__law_same_0_lst, isa__law_same_0_rol, isa__law_same_0_tup, isa__law_same_0_oBook, isa__law_same_1_non, isa__law_same_1_bl, isa__law_same_1_int, isa__law_same_1_str, isa__law_same_1_lst, isa__law_same_1_rol, isa__law_same_1_tup, isa__law_same_1_oBook, isa__law_same_2_non, isa__law_same_2_bl, isa__law_same_2_int, isa__law_same_2_str, isa__law_same_2_lst, isa__law_same_2_rol, isa__law_same_2_tup, isa__law_same_2_oBook, isa__law_same_3_non, isa__law_same_3_bl, isa__law_same_3_int, isa__law_same_3_str, isa__law_same_3_lst, isa__law_same_3_rol, isa__law_same_3_tup, isa__law_same_3_oBook, isa__law_same_4_non, isa__law_same_4_bl, isa__law_same_4_int, isa__law_same_4_str, isa__law_same_4_lst, isa__law_same_4_rol, isa__law_same_4_tup, isa__law_same_4_oBook, isa__law_same_5_non, isa__law_same_5_bl, isa__law_same_5_int, isa__law_same_5_str, isa__law_same_5_lst, isa__law_same_5_rol, isa__law_same_5_tup, isa__law_same_5_oBook, isa__law_is_node_0_non, isa__law_is_node_0_bl, isa__law_is_node_0_int, isa__law_is_node_0_str, isa__law_is_node_0_lst, isa__law_is_node_0_rol, isa__law_is_node_0_tup, isa__law_is_node_0_oBook, isa__law_is_node_1_non, isa__law_is_node_1_bl, isa__law_is_node_1_int, isa__law_is_node_1_str, isa__law_is_node_1_lst, isa__law_is_node_1_rol, isa__law_is_node_1_tup, isa__law_is_node_1_oBook, isa__law_is_node_2_non, isa__law_is_node_2_bl, isa__law_is_node_2_int, isa__law_is_node_2_str, isa__law_is_node_2_lst, isa__law_is_node_2_rol, isa__law_is_node_2_tup, isa__law_is_node_2_oBook, isa__law_is_node_3_non, isa__law_is_node_3_bl, isa__law_is_node_3_int, isa__law_is_node_3_str, isa__law_is_node_3_lst, isa__law_is_node_3_rol, isa__law_is_node_3_tup, isa__law_is_node_3_oBook, isa__law_due_0_non, isa__law_due_0_bl, isa__law_due_0_int, isa__law_due_0_str, isa__law_due_0_lst, isa__law_due_0_rol, isa__law_due_0_tup, isa__law_due_0_oBook, R_same])
local macro_rules | `(tactic| walk_at "zs") => `(tactic| simp only [vM_bind, vM_pure, vM_opt, vM_frz, vM_sq0, vM_sq1, vM_eK, vM_eS, vM_eTup, vM_eLst, vM_eBin, vM_eNeg, vM_eNot, vM_eAnd, vM_eOr, vM_eIf, vM_eCmp, vM_eCmp2, vM_ptN, vM_ptE, vM_eCut, vM_eSub, vM_ePth, vM_aS, vM_aE, vM_callF, vM_eCall, vM_eLen, vM_eIsa, vM_eO, vM_eBf, vM_rR, vM_rO, vM_iE, vM_iR1, vM_iR3, vM_iEn, vM_iZp, vM_tAnd, vM_tOr, vM_tNot, vM_tE, vM_tY, vM_xcE, vS_q0, vS_q1, vS_pass, vS_ret0, vS_ret, vS_retS, vS_exp, vS_asg, vS_unp, vS_par, vS_setI, vS_setA, vS_if, vS_for, vS_wh, vS_rs, vS_try, vO_some, vO_map, List.getElem?_cons_zero, List.getElem?_cons_succ, List.set_cons_zero, List.set_cons_succ, bd_int, bd_str, bd_bl, bd_non, bd_node, fr_int, fr_str, fr_bl, fr_non, fr_node, fr_unb, fr_fr, fr_map, sl_fr, bd_fr, all_still, sl_int, sl_str, sl_bl, sl_non, sl_own, sl_shd, wTk, wTk0, wTs, gb0, gb1, gb2, vPth, wayS_eq, wayI_w, wWay_n, wWay_n0, wWay_l, wWay_r, wWay_t, wWay_int, wWay_str, wIx_lit, pt_int, cut_lst, cut_rol, cut_take, cut_drop, cut5_1, cut5_4, true_or, or_true, false_or, or_false, and_self, true_and, and_true, reduceCtorEq, putAt1, mapM1, mapM0, tr_lst, fr_bls, bls_map, ncast, Int.reduceEq, Int.reduceLT, Int.reduceLE, eq_self, decide_true, decide_false, cx_is, cx_isn, cx_in, cx_nin, cx_ne, is_non, is_int, is_bl, is_str, is_node, isn_non, isn_int, isn_bl, isn_str, isn_node, Bool.not_true, Bool.not_false, cd_nil, cut5h1, cut5h2, cut5h3, cut5l2, cut5l3, cut5l4, cut5l5, Int.reduceAdd, co_lt, vM_eMeth, vM_eMethE, ownL_eq, wMe_l, wMe_o, wMe_n, ml_a, ml_p, ml_i, nilB0, nilB1, vM_eRg1, co_ll, co_lr, co_lt, co_tl, co_tr, co_al, co_an, ints_still, setFrzP_w, putAt_nil, sl_lt, sl_le, Nat.reduceLeDiff, it_lst, it_rol, it_tup, fr_ints, bS_eq, bT2, vM_lc, frzAt0, frzAt1, wipeD0, wipeD1, setFrz_w, backD0, backD1, xP_w, wXP_int, setI_w, wSet_lit, xK_eq, xNo_eq, wayN_eq, xS_eq, cx_int, cx_str, cx_bl, cx_non, cx_lst, cx_tup, cx_rol, cd_eq_int, cd_ne_int, cd_lt_int, cd_le_int, cd_gt_int, cd_ge_int, cd_eq_str, cd_ne_str, cd_eq_bl, cd_ne_bl, bin_add, bin_sub, bin_mul_l, bin_mod_l, bin_div_l, bin_10_18, bin_10_30, ln_lst, ln_rol, ln_tup, ks_lst, Nat.reducePow, List.length_map, tr_bl, tr_int, cb_int, cb_abs, cb_min, wA_T, wA_r, wB_T, wB_F, wPO_s, wPO_n, st_ok, wRes, List.cons_append, List.nil_append, List.append_nil, List.all_cons, List.all_nil, Bool.true_and, Bool.and_true, List.map_cons, List.map_nil, List.length_cons, List.length_nil, Nat.reduceAdd, Nat.reduceSub, Nat.reduceLT, Nat.lt_add_left_iff_pos, List.replicate, if_true, Bool.and_self, Option.map, pick1, pick2, pick3, pick4, kp_is_color_0, kp__is_child_0, kp__is_child_1, kp__is_node_0, kp__is_node_1, kp__parents_0, kp_worded_0, kp_Book___init___0, kp_Book___init___1, kp_Book_nodes_0, kp_Book___eq___0, kp_Book___eq___1, kp__law_bag_0, kp__law_draw_0, kp__law_draw_1, kp__law_of_0, kp__law_of_1, kp__law_same_0, kq__law_same_0, kp__law_same_1, kq__law_same_1, kp__law_placed_0, kp__law_placed_1, kp__law_free_0, kp__law_free_1, kp__law_grown_0, kp__law_grown_1, kp__law_shape_0, kp__law_shape_1, kp__law_net_0, kp__law_any_0, kp__law_any_1, kp__law_made_0, kp__law_made_1, kp__law_is_node_0, kp__law_is_node_1, kp__law_due_0, kp__law_bent_0, kp__law_bent_1, kp__law_bent_2, kp__law_bent_3, kp_law_0, isa_is_color_0_non, isa_is_color_0_bl, isa_is_color_0_int, isa_is_color_0_str, isa_is_color_0_lst, isa_is_color_0_rol, isa_is_color_0_tup, isa_is_color_0_oBook, isa__is_child_0_non, isa__is_child_0_bl, isa__is_child_0_int, isa__is_child_0_str, isa__is_child_0_lst, isa__is_child_0_rol, isa__is_child_0_tup, isa__is_child_0_oBook, isa__is_child_1_non, isa__is_child_1_bl, isa__is_child_1_int, isa__is_child_1_str, isa__is_child_1_lst, isa__is_child_1_rol, isa__is_child_1_tup, isa__is_child_1_oBook, isa__is_node_0_non, isa__is_node_0_bl, isa__is_node_0_int, isa__is_node_0_str, isa__is_node_0_lst, isa__is_node_0_rol, isa__is_node_0_tup, isa__is_node_0_oBook, isa__is_node_1_non, isa__is_node_1_bl, isa__is_node_1_int, isa__is_node_1_str, isa__is_node_1_lst, isa__is_node_1_rol, isa__is_node_1_tup, isa__is_node_1_oBook, isa_Book___init___0_non, isa_Book___init___0_bl, isa_Book___init___0_int, isa_Book___init___0_str, isa_Book___init___0_lst, isa_Book___init___0_rol, isa_Book___init___0_tup, isa_Book___init___0_oBook, isa_Book___eq___0_non, isa_Book___eq___0_bl, isa_Book___eq___0_int, isa_Book___eq___0_str, isa_Book___eq___0_lst, isa_Book___eq___0_rol, isa_Book___eq___0_tup, isa_Book___eq___0_oBook, isa__law_same_0_non, isa__law_same_0_bl, isa__law_same_0_int, isa__law_same_0_str, isa__law_same_0_lst, isa__law_same_0_rol, isa__law_same_0_tup, isa__law_same_0_oBook, isa__law_same_1_non, isa__law_same_1_bl, isa__law_same_1_int, isa__law_same_1_str, isa__law_same_1_lst, isa__law_same_1_rol, isa__law_same_1_tup, isa__law_same_1_oBook, isa__law_same_2_non, isa__law_same_2_bl, isa__law_same_2_int, isa__law_same_2_str, isa__law_same_2_lst, isa__law_same_2_rol, isa__law_same_2_tup, isa__law_same_2_oBook, isa__law_same_3_non, isa__law_same_3_bl, isa__law_same_3_int, isa__law_same_3_str, isa__law_same_3_lst, isa__law_same_3_rol, isa__law_same_3_tup, isa__law_same_3_oBook, isa__law_same_4_non, isa__law_same_4_bl, isa__law_same_4_int, isa__law_same_4_str, isa__law_same_4_lst, isa__law_same_4_rol, isa__law_same_4_tup, isa__law_same_4_oBook, isa__law_same_5_non, isa__law_same_5_bl, isa__law_same_5_int, isa__law_same_5_str, isa__law_same_5_lst, isa__law_same_5_rol, isa__law_same_5_tup, isa__law_same_5_oBook, isa__law_is_node_0_non, isa__law_is_node_0_bl, isa__law_is_node_0_int, isa__law_is_node_0_str, isa__law_is_node_0_lst, isa__law_is_node_0_rol, isa__law_is_node_0_tup, isa__law_is_node_0_oBook, isa__law_is_node_1_non, isa__law_is_node_1_bl, isa__law_is_node_1_int, isa__law_is_node_1_str, isa__law_is_node_1_lst, isa__law_is_node_1_rol, isa__law_is_node_1_tup, isa__law_is_node_1_oBook, isa__law_is_node_2_non, isa__law_is_node_2_bl, isa__law_is_node_2_int, isa__law_is_node_2_str, isa__law_is_node_2_lst, isa__law_is_node_2_rol, isa__law_is_node_2_tup, isa__law_is_node_2_oBook, isa__law_is_node_3_non, isa__law_is_node_3_bl, isa__law_is_node_3_int, isa__law_is_node_3_str, isa__law_is_node_3_lst, isa__law_is_node_3_rol, isa__law_is_node_3_tup, isa__law_is_node_3_oBook, isa__law_due_0_non, isa__law_due_0_bl, isa__law_due_0_int, isa__law_due_0_str, isa__law_due_0_lst, isa__law_due_0_rol, isa__law_due_0_tup, isa__law_due_0_oBook, R_same, *])
theorem zip_get : ∀ {zs : List D} {j : Nat} {d : D}, (zipD zs zs)[j]? = some d → ∃ z, zs[j]? = some z ∧ d = .node .tup true [z, z]
  | [], _, _, h => by cases h
  | x :: r, 0, d, h => ⟨x, rfl, by simpa [zipD] using h.symm⟩
  | x :: r, j + 1, d, h => by
    obtain ⟨y, h1, h2⟩ := zip_get (zs := r) (j := j) (by simpa [zipD] using h)
    exact ⟨y, by simpa using h1, h2⟩
theorem zpD_len : ∀ {zs : List D}, (zipD zs zs).length = zs.length
  | [] => rfl
  | x :: r => by show (zipD r r).length + 1 = _; rw [zpD_len]; rfl
theorem same_node {run : List D → Option FRes} {k : Kd} {o p : Bool} {xs ys : List D} {Q : FRes → Prop} (hk : k = .lst ∨ k = .tup) (he : xs.map D.frz = ys.map D.frz) (hl : xs.length ≤ 1000) (hb : ∀ x ∈ xs, x.bound = true)
    (ih : ∀ x ∈ xs.map D.frz, ∀ Q' : FRes → Prop, (∀ d e, Q' (.ret (.bl true) [d, e])) → vF run [x, x] Q') (h : ∀ d e, Q (.ret (.bl true) [d, e])) : vF (runC 4 2 P__law_same (S__law_same run)) [.node k o xs, .node k p ys] Q := by
  refine vF_runC rfl ?_
  unfold S__law_same
  have hlen : ys.length = xs.length := by have := congrArg List.length he; simpa using this.symm
  have hbz : ∀ z ∈ xs.map D.frz, z.bound = true := fun z hz => by
    obtain ⟨x, hx, rfl⟩ := List.mem_map.mp hz
    rw [bd_fr]; exact hb x hx
  have hsz : ∀ z ∈ xs.map D.frz, z.still = true := fun z hz => by
    obtain ⟨x, hx, rfl⟩ := List.mem_map.mp hz
    exact sl_fr x
  rcases hk with rfl | rfl
  all_goals
    walk_at "z"
    rw [hlen, decide_eq_true rfl]
    walk_at "z"
    rw [← he]
    have hzl : (xs.map D.frz).length = xs.length := List.length_map _
    generalize xs.map D.frz = zs at *
    refine vO_lc (fun j acc η => ∃ (x2 x3 a b : D), η = [a, b, x2, x3] ∧ acc = (List.range j).map fun _ => D.bl true) ⟨_, _, _, _, rfl, rfl⟩ (by rw [sl_le, zpD_len]; omega) ?_ ?_
    · rintro j d acc _ hj ⟨x2, x3, a, b, rfl, rfl⟩
      obtain ⟨z, hz, rfl⟩ := zip_get hj
      have hzm := List.mem_of_getElem? hz
      have zb := hbz z hzm
      have zs := hsz z hzm
      have zf := fr_still zs
      walk_at "zs"
      refine ih z hzm _ fun d1 d2 => ?_
      walk_at "z"
      exact ⟨_, _, _, _, rfl, by rw [List.range_succ, List.map_append]; rfl⟩
    · rintro acc _ ⟨x2, x3, a, b, rfl, rfl⟩
      have e1 : ∀ m : Nat, ((List.range m).map fun _ => true).all id = true := fun m => by simp
      walk_at "z"
      rw [e1]
      exact h _ _
theorem same_pb {run : List D → Option FRes} : runC 4 2 P__law_same (S__law_same run) [PB, PB] = some (.ret (.bl true) [PB, PB]) := by kernel_rfl
/-- a thing is the same as itself -/
theorem same_ok : ∀ (k n : Nat), k < n → ∀ {x : D} {Q : FRes → Prop}, Pl k x → x.still = true → (∀ d e, Q (.ret (.bl true) [d, e])) → vF (L__law_same n) [x, x] Q := by
  intro k
  induction k with
  | zero =>
    intro n hn x Q hp hs h
    match n, hn with
    | n + 1, _ =>
      show vF (runC 4 2 P__law_same (S__law_same (L__law_same n))) [x, x] Q
      refine vF_runC rfl ?_
      unfold S__law_same
      have fin : ∀ {a b c e : D} {v : Bool}, v = true → Q (.ret (.bl v) (outD 2 P__law_same [a, b, c, e])) := fun hv => by rw [hv]; exact h _ _
      cases hp <;> walk_at "z" <;> first | exact h _ _ | exact fin (by simp)
  | succ k ih =>
    intro n hn x Q hp hs h
    match n, hn with
    | n + 1, hn =>
      have fin : ∀ {a b c e : D} {v : Bool}, v = true → Q (.ret (.bl v) (outD 2 P__law_same [a, b, c, e])) := fun hv => by rw [hv]; exact h _ _
      have ih2 : ∀ {o : Bool} {kd : Kd} {xs : List D}, (D.node kd o xs).still = true → (∀ y ∈ xs, Pl k y) → ∀ y ∈ xs.map D.frz, ∀ Q' : FRes → Prop, (∀ d e, Q' (.ret (.bl true) [d, e])) → vF (L__law_same n) [y, y] Q' := fun hst hx y hy Q' hq => by
        obtain ⟨z, hz, rfl⟩ := List.mem_map.mp hy
        exact ih n (by omega) (hx z hz).frz (sl_fr z) hq
      show vF (runC 4 2 P__law_same (S__law_same (L__law_same n))) [x, x] Q
      cases hp with
      | lst hl hx => exact same_node (.inl rfl) rfl hl (fun x hx2 => (hx x hx2).bd) (ih2 hs hx) h
      | tup hl hx => exact same_node (.inr rfl) rfl hl (fun x hx2 => (hx x hx2).bd) (ih2 hs hx) h
      | pb hp hb =>
        rw [fr_still hs] at hp
        subst hp
        exact wF_of same_pb (h _ _)
      | _ =>
        refine vF_runC rfl ?_
        unfold S__law_same
        walk_at "z"
        first | exact h _ _ | exact fin (by simp)
/-- two ways of one thing -/
theorem same_ok2 {k n : Nat} {kd : Kd} {o p : Bool} {xs ys : List D} {Q : FRes → Prop} (hk : kd = .lst ∨ kd = .tup) (hn : k + 1 < n) (he : xs.map D.frz = ys.map D.frz) (hl : xs.length ≤ 1000) (hx : ∀ x ∈ xs, Pl k x) (h : ∀ d e, Q (.ret (.bl true) [d, e])) : vF (L__law_same n) [.node kd o xs, .node kd p ys] Q := by
  match n, hn with
  | n + 1, hn =>
    exact same_node hk he hl (fun x hx2 => (hx x hx2).bd) (fun y hy Q' hq => by
      obtain ⟨z, hz, rfl⟩ := List.mem_map.mp hy
      exact same_ok k n (by omega) (hx z hz).frz (sl_fr z) hq) h
end Z

set_option Elab.async false
set_option linter.all false
set_option maxRecDepth 100000
set_option maxHeartbeats 4000000
namespace Z
open PySem PySem.Spec PyProof.Rows L2
/-- a new instance, made by its __init__ -/
def wNew (wb : List (Option Nat)) (η' : List D) (Q : D → List D → Prop) (X : Str → List (Str × D) → List D → Prop) : FRes → Prop
  | .ret .non (self :: ds') => Q self (giveBack wb (self :: ds') η')
  | .exc c fs ds' => X c fs (giveBack wb ds' η')
  | _ => False
section
variable {η : List D} {Q : D → List D → Prop} {X : Str → List (Str × D) → List D → Prop}
theorem vM_callC {x : Str} {f : Fn} {sh : Shape} {as : List Arg} : vM (callC x f sh as) η Q X = wA (headSelf sh.arr = true) (wA (f.keep 0 = true) (vO (pickAll (.tmp (.node (.obj x []) true []) :: as) sh.arr) fun bs => vO (takeArgs f.keep 0 bs η) fun q => vF f.run q.1 (wNew q.2.2 q.2.1 Q X))) := by
  unfold vM wM callC
  by_cases h : headSelf sh.arr = true ∧ f.keep 0 = true
  · rw [if_pos h]
    unfold wA
    simp only [h.1, h.2, true_and]
    show _ = wO (pickAll (.tmp (.node (.obj x []) true []) :: as) sh.arr) _
    cases pickAll (.tmp (.node (.obj x []) true []) :: as) sh.arr with
    | none => rfl
    | some bs =>
      simp only [wO_some]
      show _ = wO (takeArgs f.keep 0 bs η) _
      cases takeArgs f.keep 0 bs η with
      | none => rfl
      | some q =>
        obtain ⟨ds, η', wb⟩ := q
        simp only [wO_some]
        show _ = wO (f.run ds) _
        cases f.run ds with
        | none => rfl
        | some r =>
          cases r with
          | exc c fs ds' => rfl
          | ret d ds' => cases d <;> cases ds' <;> rfl
  · rw [if_neg h]
    exact propext ⟨fun z => z.elim, fun z => (h ⟨z.1, z.2.1⟩).elim⟩
theorem vM_eNew {x : Str} {fn : Fn} {sh : Shape} {args zs : List (M Arg)} : vM (eNew x fn sh args zs) η Q X = vM (seqC args) η (fun as η1 => vM (seqC zs) η1 (fun zs η2 => vM (callC x fn sh (as ++ zs)) η2 Q X) X) X := by
  unfold eNew
  exact wM_bind.trans (by simp only [wM_bind]; rfl)
end
theorem vM_xc1 {x f : Str} {a : M D} {η : List D} {Q : Str × List (Str × D) → List D → Prop} {X : Str → List (Str × D) → List D → Prop} : vM (xcE x [(f, 0)] [a]) η Q X = vM a η (fun d η1 => Q (x, [(f, d.frz)]) η1) X := by
  refine vM_xcE.trans ?_
  show vM (seqC [mFrz a]) η _ X = _
  simp only [vM_sq1, vM_sq0, vM_frz]
  rfl
theorem pickSelf {a b : Arg} : pickAll [a, b] (plainShape 2).arr = some [a, b] := rfl
theorem pickKw {a b : Arg} {x : Str} : pickAll [a, b] (kwShape2 x).arr = some [a, b] := rfl
theorem hs_p2 : headSelf (plainShape 2).arr = true := rfl
theorem hs_k2 {x : Str} : headSelf (kwShape2 x).arr = true := rfl
theorem setA_1 {d : D} {η : List D} : setA C_Book___init__ (wayS 0) "_nodes" d (.node (.obj "Book" []) true [] :: η) = some (.node (.obj "Book" ["_nodes"]) true [d] :: η) := by kernel_rfl
theorem setA_2 {d n : D} {η : List D} : setA C_Book___init__ (wayS 0) "_worded" d (.node (.obj "Book" ["_nodes"]) true [n] :: η) = some (.node (.obj "Book" ["_nodes", "_worded"]) true [n, d] :: η) := by kernel_rfl
theorem wayA_1 {o : Bool} {n : D} {η : List D} : wayA C_Book___init__ (wayS 0) "_nodes" (.node (.obj "Book" ["_nodes"]) o [n] :: η) = some (0, [0], n) := by kernel_rfl
theorem wayA_2 {o : Bool} {n m : D} {η : List D} : wayA C_Book_nodes (wayS 0) "_nodes" (.node (.obj "Book" ["_nodes", "_worded"]) o [n, m] :: η) = some (0, [0], n) := by kernel_rfl
theorem mo_nodes : C__law_made.methOf "Book" "nodes" ["_nodes", "_worded"] = some F_Book_nodes := by kernel_rfl
theorem fs_nodes : findShape 1 [] F_Book_nodes.shapes = some (plainShape 1) := by kernel_rfl
local macro_rules | `(tactic| walk_at "z") => `(tactic| simp only [vM_bind, vM_pure, vM_opt, vM_frz, vM_sq0, vM_sq1, vM_eK, vM_eS, vM_eTup, vM_eLst, vM_eBin, vM_eNeg, vM_eNot, vM_eAnd, vM_eOr, vM_eIf, vM_eCmp, vM_eCmp2, vM_ptN, vM_ptE, vM_eCut, vM_eSub, vM_ePth, vM_aS, vM_aE, vM_callF, vM_eCall, vM_eLen, vM_eIsa, vM_eO, vM_eBf, vM_rR, vM_rO, vM_iE, vM_iR1, vM_iR3, vM_iEn, vM_iZp, vM_tAnd, vM_tOr, vM_tNot, vM_tE, vM_tY, vS_q0, vS_q1, vS_pass, vS_ret0, vS_ret, vS_retS, vS_exp, vS_asg, vS_unp, vS_par, vS_setI, vS_setA, vS_if, vS_for, vS_wh, vS_rs, vS_try, vO_some, vO_map, List.getElem?_cons_zero, List.getElem?_cons_succ, List.set_cons_zero, List.set_cons_succ, bd_int, bd_str, bd_bl, bd_non, bd_node, fr_int, fr_str, fr_bl, fr_non, fr_node, fr_unb, fr_fr, fr_map, sl_fr, bd_fr, all_still, sl_int, sl_str, sl_bl, sl_non, sl_own, sl_shd, wTk, wTk0, wTs, gb0, gb1, gb2, vPth, wayS_eq, wayI_w, wWay_n, wWay_n0, wWay_l, wWay_r, wWay_t, wWay_int, wWay_str, wIx_lit, pt_int, cut_lst, cut_rol, cut_take, cut_drop, cut5_1, cut5_4, true_or, or_true, false_or, or_false, and_self, true_and, and_true, reduceCtorEq, putAt1, mapM1, mapM0, tr_lst, fr_bls, bls_map, ncast, Int.reduceEq, Int.reduceLT, Int.reduceLE, eq_self, decide_true, decide_false, cx_is, cx_isn, cx_in, cx_nin, cx_ne, is_non, is_int, is_bl, is_str, is_node, isn_non, isn_int, isn_bl, isn_str, isn_node, Bool.not_true, Bool.not_false, cd_nil, cut5h1, cut5h2, cut5h3, cut5l2, cut5l3, cut5l4, cut5l5, Int.reduceAdd, co_lt, vM_eMeth, vM_eMethE, ownL_eq, wMe_l, wMe_o, wMe_n, ml_a, ml_p, ml_i, nilB0, nilB1, vM_eRg1, co_ll, co_lr, co_lt, co_tl, co_tr, co_al, co_an, ints_still, setFrzP_w, putAt_nil, sl_lt, sl_le, Nat.reduceLeDiff, it_lst, it_rol, it_tup, fr_ints, bS_eq, bT2, vM_lc, frzAt0, frzAt1, wipeD0, wipeD1, setFrz_w, backD0, backD1, xP_w, wXP_int, setI_w, wSet_lit, xK_eq, xNo_eq, wayN_eq, xS_eq, cx_int, cx_str, cx_bl, cx_non, cx_lst, cx_tup, cx_rol, cd_eq_int, cd_ne_int, cd_lt_int, cd_le_int, cd_gt_int, cd_ge_int, cd_eq_str, cd_ne_str, cd_eq_bl, cd_ne_bl, bin_add, bin_sub, bin_mul_l, bin_mod_l, bin_div_l, bin_10_18, bin_10_30, ln_lst, ln_rol, ln_tup, ks_lst, Nat.reducePow, List.length_map, tr_bl, tr_int, cb_int, cb_abs, cb_min, wA_T, wA_r, wB_T, wB_F, wPO_s, wPO_n, st_ok, wRes, List.cons_append, List.nil_append, List.append_nil, List.all_cons, List.all_nil, Bool.true_and, Bool.and_true, List.map_cons, List.map_nil, List.length_cons, List.length_nil, Nat.reduceAdd, Nat.reduceSub, Nat.reduceLT, Nat.lt_add_left_iff_pos, List.replicate, if_true, Bool.and_self, Option.map, pick1, pick2, pick3, pick4, kp_is_color_0, kp__is_child_0, kp__is_child_1, kp__is_node_0, kp__is_node_1, kp__parents_0, kp_worded_0, kp_Book___init___0, kp_Book___init___1, kp_Book_nodes_0, kp_Book___eq___0, kp_Book___eq___1, kp__law_bag_0, kp__law_draw_0, kp__law_draw_1, kp__law_of_0, kp__law_of_1, kp__law_same_0, kq__law_same_0, kp__law_same_1, kq__law_same_1, kp__law_placed_0, kp__law_placed_1, kp__law_free_0, kp__law_free_1, kp__law_grown_0, kp__law_grown_1, kp__law_shape_0, kp__law_shape_1, kp__law_net_0, kp__law_any_0, kp__law_any_1, kp__law_made_0, kp__law_made_1, kp__law_is_node_0, kp__law_is_node_1, kp__law_due_0, kp__law_bent_0, kp__law_bent_1, kp__law_bent_2, kp__law_bent_3, kp_law_0, isa_is_color_0_non, isa_is_color_0_bl, isa_is_color_0_int, isa_is_color_0_str, isa_is_color_0_lst, isa_is_color_0_rol, isa_is_color_0_tup, isa_is_color_0_oBook, isa__is_child_0_non, isa__is_child_0_bl, isa__is_child_0_int, isa__is_child_0_str, isa__is_child_0_lst, isa__is_child_0_rol, isa__is_child_0_tup, isa__is_child_0_oBook, isa__is_child_1_non, isa__is_child_1_bl, isa__is_child_1_int, isa__is_child_1_str, isa__is_child_1_lst, isa__is_child_1_rol, isa__is_child_1_tup, isa__is_child_1_oBook, isa__is_node_0_non, isa__is_node_0_bl, isa__is_node_0_int, isa__is_node_0_str, isa__is_node_0_lst, isa__is_node_0_rol, isa__is_node_0_tup, isa__is_node_0_oBook, isa__is_node_1_non, isa__is_node_1_bl, isa__is_node_1_int, isa__is_node_1_str, isa__is_node_1_lst, isa__is_node_1_rol, isa__is_node_1_tup, isa__is_node_1_oBook, isa_Book___init___0_non, isa_Book___init___0_bl, isa_Book___init___0_int, isa_Book___init___0_str, isa_Book___init___0_lst, isa_Book___init___0_rol, isa_Book___init___0_tup, isa_Book___init___0_oBook, isa_Book___eq___0_non, isa_Book___eq___0_bl, isa_Book___eq___0_int, isa_Book___eq___0_str, isa_Book___eq___0_lst, isa_Book___eq___0_rol, isa_Book___eq___0_tup, isa_Book___eq___0_oBook, isa__law_same_0_non, isa__law_same_0_bl, isa__law_same_0_int, isa__law_same_0_str, isa__law_same_0_lst, isa__law_same_0_rol, isa__law_same_0_tup, isa__law_same_0_oBook, isa__law_same_1_non, isa__law_same_1_bl, isa__law_same_1_int, isa__law_same_1_str, isa__law_same_1_lst, isa__law_same_1_rol, isa__law_same_1_tup, isa__law_same_1_oBook, isa__law_same_2_non, isa__law_same_2_bl, isa__law_same_2_int, isa__law_same_2_str, isa__law_same_2_lst, isa__law_same_2_rol, isa__law_same_2_tup, isa__law_same_2_oBook, isa__law_same_3_non, isa__law_same_3_bl, isa__law_same_3_int, isa__law_same_3_str, isa__law_same_3_lst, isa__law_same_3_rol, isa__law_same_3_tup, isa__law_same_3_oBook, isa__law_same_4_non, isa__law_same_4_bl, isa__law_same_4_int, isa__law_same_4_str, isa__law_same_4_lst, isa__law_same_4_rol, isa__law_same_4_tup, isa__law_same_4_oBook, isa__law_same_5_non, isa__law_same_5_bl, isa__law_same_5_int, isa__law_same_5_str, isa__law_same_5_lst, isa__law_same_5_rol, isa__law_same_5_tup, isa__law_same_5_oBook, isa__law_is_node_0_non, isa__law_is_node_0_bl, isa__law_is_node_0_int, isa__law_is_node_0_str, isa__law_is_node_0_lst, isa__law_is_node_0_rol, isa__law_is_node_0_tup, isa__law_is_node_0_oBook, isa__law_is_node_1_non, isa__law_is_node_1_bl, isa__law_is_node_1_int, isa__law_is_node_1_str, isa__law_is_node_1_lst, isa__law_is_node_1_rol, isa__law_is_node_1_tup, isa__law_is_node_1_oBook, isa__law_is_node_2_non, isa__law_is_node_2_bl, isa__law_is_node_2_int, isa__law_is_node_2_str, isa__law_is_node_2_lst, isa__law_is_node_2_rol, isa__law_is_node_2_tup, isa__law_is_node_2_oBook, isa__law_is_node_3_non, isa__law_is_node_3_bl, isa__law_is_node_3_int, isa__law_is_node_3_str, isa__law_is_node_3_lst, isa__law_is_node_3_rol, isa__law_is_node_3_tup, isa__law_is_node_3_oBook, isa__law_due_0_non, isa__law_due_0_bl, isa__law_due_0_int, isa__law_due_0_str, isa__law_due_0_lst, isa__law_due_0_rol, isa__law_due_0_tup, isa__law_due_0_oBook, vM_xc1, vM_eNew, vM_callC, pickSelf, pickKw, hs_p2, hs_k2, setA_1, setA_2, wayA_1, wayA_2, mo_nodes, fs_nodes])
local macro_rules | `(tactic| walk_at "zs") => `(tactic| simp only [vM_bind, vM_pure, vM_opt, vM_frz, vM_sq0, vM_sq1, vM_eK, vM_eS, vM_eTup, vM_eLst, vM_eBin, vM_eNeg, vM_eNot, vM_eAnd, vM_eOr, vM_eIf, vM_eCmp, vM_eCmp2, vM_ptN, vM_ptE, vM_eCut, vM_eSub, vM_ePth, vM_aS, vM_aE, vM_callF, vM_eCall, vM_eLen, vM_eIsa, vM_eO, vM_eBf, vM_rR, vM_rO, vM_iE, vM_iR1, vM_iR3, vM_iEn, vM_iZp, vM_tAnd, vM_tOr, vM_tNot, vM_tE, vM_tY, vS_q0, vS_q1, vS_pass, vS_ret0, vS_ret, vS_retS, vS_exp, vS_asg, vS_unp, vS_par, vS_setI, vS_setA, vS_if, vS_for, vS_wh, vS_rs, vS_try, vO_some, vO_map, List.getElem?_cons_zero, List.getElem?_cons_succ, List.set_cons_zero, List.set_cons_succ, bd_int, bd_str, bd_bl, bd_non, bd_node, fr_int, fr_str, fr_bl, fr_non, fr_node, fr_unb, fr_fr, fr_map, sl_fr, bd_fr, all_still, sl_int, sl_str, sl_bl, sl_non, sl_own, sl_shd, wTk, wTk0, wTs, gb0, gb1, gb2, vPth, wayS_eq, wayI_w, wWay_n, wWay_n0, wWay_l, wWay_r, wWay_t, wWay_int, wWay_str, wIx_lit, pt_int, cut_lst, cut_rol, cut_take, cut_drop, cut5_1, cut5_4, true_or, or_true, false_or, or_false, and_self, true_and, and_true, reduceCtorEq, putAt1, mapM1, mapM0, tr_lst, fr_bls, bls_map, ncast, Int.reduceEq, Int.reduceLT, Int.reduceLE, eq_self, decide_true, decide_false, cx_is, cx_isn, cx_in, cx_nin, cx_ne, is_non, is_int, is_bl, is_str, is_node, isn_non, isn_int, isn_bl, isn_str, isn_node, Bool.not_true, Bool.not_false, cd_nil, cut5h1, cut5h2, cut5h3, cut5l2, cut5l3, cut5l4, cut5l5, Int.reduceAdd, co_lt, vM_eMeth, vM_eMethE, ownL_eq, wMe_l, wMe_o, wMe_n, ml_a, ml_p, ml_i, nilB0, nilB1, vM_eRg1, co_ll, co_lr, co_lt, co_tl, co_tr, co_al, co_an, ints_still, setFrzP_w, putAt_nil, sl_lt, sl_le, Nat.reduceLeDiff, it_lst, it_rol, it_tup, fr_ints, bS_eq, bT2, vM_lc, frzAt0, frzAt1, wipeD0, wipeD1, setFrz_w, backD0, backD1, xP_w, wXP_int, setI_w, wSet_lit, xK_eq, xNo_eq, wayN_eq, xS_eq, cx_int, cx_str, cx_bl, cx_non, cx_lst, cx_tup, cx_rol, cd_eq_int, cd_ne_int, cd_lt_int, cd_le_int, cd_gt_int, cd_ge_int, cd_eq_str, cd_ne_str, cd_eq_bl, cd_ne_bl, bin_add, bin_sub, bin_mul_l, bin_mod_l, bin_div_l, bin_10_18, bin_10_30, ln_lst, ln_rol, ln_tup, ks_lst, Nat.reducePow, List.length_map, tr_bl, tr_int, cb_int, cb_abs, cb_min, wA_T, wA_r, wB_T, wB_F, wPO_s, wPO_n, st_ok, wRes, List.cons_append, List.nil_append, List.append_nil, List.all_cons, List.all_nil, Bool.true_and, Bool.and_true, List.map_cons, List.map_nil, List.length_cons, List.length_nil, Nat.reduceAdd, Nat.reduceSub, Nat.reduceLT, Nat.lt_add_left_iff_pos, List.replicate, if_true, Bool.and_self, Option.map, pick1, pick2, pick3, pick4, kp_is_color_0, kp__is_child_0, kp__is_child_1, kp__is_node_0, kp__is_node_1, kp__parents_0, kp_worded_0, kp_Book___init___0, kp_Book___init___1, kp_Book_nodes_0, kp_Book___eq___0, kp_Book___eq___1, kp__law_bag_0, kp__law_draw_0, kp__law_draw_1, kp__law_of_0, kp__law_of_1, kp__law_same_0, kq__law_same_0, kp__law_same_1, kq__law_same_1, kp__law_placed_0, kp__law_placed_1, kp__law_free_0, kp__law_free_1, kp__law_grown_0, kp__law_grown_1, kp__law_shape_0, kp__law_shape_1, kp__law_net_0, kp__law_any_0, kp__law_any_1, kp__law_made_0, kp__law_made_1, kp__law_is_node_0, kp__law_is_node_1, kp__law_due_0, kp__law_bent_0, kp__law_bent_1, kp__law_bent_2, kp__law_bent_3, kp_law_0, isa_is_color_0_non, isa_is_color_0_bl, isa_is_color_0_int, isa_is_color_0_str, isa_is_color_0_lst, isa_is_color_0_rol, isa_is_color_0_tup, isa_is_color_0_oBook, isa__is_child_0_non, isa__is_child_0_bl, isa__is_child_0_int, isa__is_child_0_str, isa__is_child_0_lst, isa__is_child_0_rol, isa__is_child_0_tup, isa__is_child_0_oBook, isa__is_child_1_non, isa__is_child_1_bl, isa__is_child_1_int, isa__is_child_1_str, isa__is_child_1_lst, isa__is_child_1_rol, isa__is_child_1_tup, isa__is_child_1_oBook, isa__is_node_0_non, isa__is_node_0_bl, isa__is_node_0_int, isa__is_node_0_str, isa__is_node_0_lst, isa__is_node_0_rol, isa__is_node_0_tup, isa__is_node_0_oBook, isa__is_node_1_non, isa__is_node_1_bl, isa__is_node_1_int, isa__is_node_1_str, isa__is_node_1_lst, isa__is_node_1_rol, isa__is_node_1_tup, isa__is_node_1_oBook, isa_Book___init___0_non, isa_Book___init___0_bl, isa_Book___init___0_int, isa_Book___init___0_str, isa_Book___init___0_lst, isa_Book___init___0_rol, isa_Book___init___0_tup, isa_Book___init___0_oBook, isa_Book___eq___0_non, isa_Book___eq___0_bl, isa_Book___eq___0_int, isa_Book___eq___0_str, isa_Book___eq___0_lst, isa_Book___eq___0_rol, isa_Book___eq___0_tup, isa_Book___eq___0_oBook, isa__law_same_0_non, isa__law_same_0_bl, isa__law_same_0_int, isa__law_same_0_str, isa__law_same_0_lst, isa__law_same_0_rol, isa__law_same_0_tup, isa__law_same_0_oBook, isa__law_same_1_non, isa__law_same_1_bl, isa__law_same_1_int, isa__law_same_1_str, isa__law_same_1_lst, isa__law_same_1_rol, isa__law_same_1_tup, isa__law_same_1_oBook, isa__law_same_2_non, isa__law_same_2_bl, isa__law_same_2_int, isa__law_same_2_str, isa__law_same_2_lst, isa__law_same_2_rol, isa__law_same_2_tup, isa__law_same_2_oBook, isa__law_same_3_non, isa__law_same_3_bl, isa__law_same_3_int, isa__law_same_3_str, isa__law_same_3_lst, isa__law_same_3_rol, isa__law_same_3_tup, isa__law_same_3_oBook, isa__law_same_4_non, isa__law_same_4_bl, isa__law_same_4_int, isa__law_same_4_str, isa__law_same_4_lst, isa__law_same_4_rol, isa__law_same_4_tup, isa__law_same_4_oBook, isa__law_same_5_non, isa__law_same_5_bl, isa__law_same_5_int, isa__law_same_5_str, isa__law_same_5_lst, isa__law_same_5_rol, isa__law_same_5_tup, isa__law_same_5_oBook, isa__law_is_node_0_non, isa__law_is_node_0_bl, isa__law_is_node_0_int, isa__law_is_node_0_str, isa__law_is_node_0_lst, isa__law_is_node_0_rol, isa__law_is_node_0_tup, isa__law_is_node_0_oBook, isa__law_is_node_1_non, isa__law_is_node_1_bl, isa__law_is_node_1_int, isa__law_is_node_1_str, isa__law_is_node_1_lst, isa__law_is_node_1_rol, isa__law_is_node_1_tup, isa__law_is_node_1_oBook, isa__law_is_node_2_non, isa__law_is_node_2_bl, isa__law_is_node_2_int, isa__law_is_node_2_str, isa__law_is_node_2_lst, isa__law_is_node_2_rol, isa__law_is_node_2_tup, isa__law_is_node_2_oBook, isa__law_is_node_3_non, isa__law_is_node_3_bl, isa__law_is_node_3_int, isa__law_is_node_3_str, isa__law_is_node_3_lst, isa__law_is_node_3_rol, isa__law_is_node_3_tup, isa__law_is_node_3_oBook, isa__law_due_0_non, isa__law_due_0_bl, isa__law_due_0_int, isa__law_due_0_str, isa__law_due_0_lst, isa__law_due_0_rol, isa__law_due_0_tup, isa__law_due_0_oBook, vM_xc1, vM_eNew, vM_callC, pickSelf, pickKw, hs_p2, hs_k2, setA_1, setA_2, wayA_1, wayA_2, mo_nodes, fs_nodes, *])
/-- the first place that is no node -/
def fb (xs : List D) : Option Nat := (List.range xs.length).find? fun k => !nodeB xs.length (xs.getD k .unb)
def okSeq : Kd → Bool
  | .lst => true
  | .tup => true
  | _ => false
/-- what making a book must give -/
def dueV : D → D
  | .node k _ xs => if okSeq k = true ∧ xs ≠ [] then (if 200 < xs.length then .node .tup false [.str "many", .int xs.length] else match fb xs with
      | some i => .node .tup false [.str "node", .int i]
      | none => .node .tup false [.str "made", .node .lst false (xs.map D.frz)]) else .node .tup false [.str "node", .int (-1)]
  | _ => .node .tup false [.str "node", .int (-1)]
theorem nodeB_fr {n : Int} {d : D} : nodeB n d.frz = nodeB n d := by
  cases d with
  | node k o xs =>
    rw [fr_node]
    cases k with
    | tup => rw [nodeB_tup, nodeB_tup, rowB_fr]
    | _ => rfl
  | _ => rfl
theorem fb_map {xs : List D} : fb (xs.map D.frz) = fb xs := by
  unfold fb
  rw [List.length_map]
  congr 1
  funext k
  rw [List.getD_eq_getElem?_getD, List.getD_eq_getElem?_getD, List.getElem?_map]
  cases xs[k]? with
  | none => rfl
  | some x => show (!nodeB xs.length x.frz) = !nodeB xs.length x; rw [nodeB_fr]
theorem fb_none {xs : List D} : fb xs = none ↔ ∀ x ∈ xs, nodeB xs.length x = true := by
  unfold fb
  rw [List.find?_eq_none]
  constructor
  · intro h x hx
    obtain ⟨k, hk, rfl⟩ := List.mem_iff_getElem.mp hx
    have := h k (List.mem_range.mpr hk)
    rw [List.getD_eq_getElem?_getD, List.getElem?_eq_getElem hk] at this
    simpa using this
  · intro h k hk
    have hk := List.mem_range.mp hk
    rw [List.getD_eq_getElem?_getD, List.getElem?_eq_getElem hk]
    simpa using h _ (List.getElem_mem hk)
theorem fb_some {xs : List D} {i : Nat} (hi : i < xs.length) (h1 : ∀ j, j < i → nodeB xs.length (xs.getD j .unb) = true) (h2 : nodeB xs.length (xs.getD i .unb) = false) : fb xs = some i := by
  unfold fb
  rw [List.find?_range_eq_some]
  exact ⟨by rw [h2]; rfl, List.mem_range.mpr hi, fun j hj => by rw [h1 j hj]; rfl⟩
theorem due_seq {k : Kd} {o : Bool} {xs : List D} (hk : k = .lst ∨ k = .tup) (hx : xs ≠ []) : dueV (.node k o xs) = if 200 < xs.length then .node .tup false [.str "many", .int xs.length] else match fb xs with
      | some i => .node .tup false [.str "node", .int i]
      | none => .node .tup false [.str "made", .node .lst false (xs.map D.frz)] := by
  rcases hk with rfl | rfl <;> exact if_pos ⟨rfl, hx⟩
theorem init_ok {v : D} {m : Nat} {Q : FRes → Prop} (hv : Pl m v)
    (h1 : ∀ s v' i, v'.frz = v.frz → v'.bound = true → dueV v = .node .tup false [.str "node", .int i] → Q (.exc "InvalidNode" [("at", .int i)] [s, v']))
    (h2 : ∀ s v' i, v'.frz = v.frz → v'.bound = true → dueV v = .node .tup false [.str "many", .int i] → Q (.exc "TooMany" [("count", .int i)] [s, v']))
    (h3 : ∀ v' xs w, v'.frz = v.frz → v'.bound = true → xs.all D.still = true → dueV v = .node .tup false [.str "made", .node .lst false xs] → Q (.ret .non [.node (.obj "Book" ["_nodes", "_worded"]) true [.node .lst false xs, w], v'])) :
    vF F_Book___init__.run [.node (.obj "Book" []) true [], v] Q := by
  refine vF_runC rfl ?_
  unfold S_Book___init__
  have vb := hv.bd
  have nd : ∀ {a b c : D}, dueV v = .node .tup false [.str "node", .int (-1)] → Q (.exc "InvalidNode" [("at", .int (-1))] (outD 2 P_Book___init__ [a, v, b, c])) := fun e => h1 _ _ _ rfl vb e
  have main : ∀ {k : Kd} {o : Bool} {xs : List D}, (k = .lst ∨ k = .tup) → v = .node k o xs → xs.length ≤ 1000 → (∀ x ∈ xs, Pl m x) → vS S_Book___init__ [.node (.obj "Book" []) true [], v, .unb, .unb] (fun f => match f with
      | .nx η => Q (.ret .non (outD 2 P_Book___init__ η))
      | .ret d η => Q (.ret d (outD 2 P_Book___init__ η))
      | .exc x fs η => Q (.exc x fs (outD 2 P_Book___init__ η))
      | _ => False) := by
    rintro k o xs hk rfl hl hx
    unfold S_Book___init__
    by_cases h0 : xs = []
    · subst h0
      have e0 : dueV (.node k o []) = .node .tup false [.str "node", .int (-1)] := by rcases hk with rfl | rfl <;> rfl
      rcases hk with rfl | rfl
      all_goals
        walk_at "z"
        exact nd e0
    have hl0 : 0 < xs.length := List.length_pos_iff.mpr h0
    have ed := due_seq (o := o) hk h0
    refine vS_cut (fun η => η = [.node (.obj "Book" []) true [], .node k o xs, .unb, .unb]) ?_ ?_
    · have hne : decide ((xs.length : Int) = 0) = false := decide_eq_false (by omega)
      rcases hk with rfl | rfl
      all_goals
        walk_at "z"
        rw [hne]
        walk_at "z"
    rintro _ rfl
    refine vS_cut (fun η => η = [.node (.obj "Book" []) true [], .node k o xs, .unb, .unb] ∧ xs.length ≤ 200) ?_ ?_
    · rcases hk with rfl | rfl
      all_goals
        walk_at "z"
        refine wB_i (fun e => ?_) (fun e => ?_)
        · simp only [decide_eq_true_eq] at e
          rw [if_pos (by omega)] at ed
          walk_at "z"
          exact h2 _ _ _ rfl rfl ed
        · simp only [decide_eq_false_iff_not] at e
          try walk_at "z"
          omega
    rintro _ ⟨rfl, h200⟩
    rw [if_neg (by omega)] at ed
    have hzm : ∀ x ∈ xs.map D.frz, Pl m x := fun x hx2 => by
      obtain ⟨y, hy, rfl⟩ := List.mem_map.mp hx2
      exact (hx y hy).frz
    have hzs : ∀ x ∈ xs.map D.frz, x.still = true := fun x hx2 => by
      obtain ⟨y, hy, rfl⟩ := List.mem_map.mp hx2
      exact sl_fr y
    have hzl : (xs.map D.frz).length = xs.length := List.length_map _
    have hfb : fb (xs.map D.frz) = fb xs := fb_map
    have hza : (xs.map D.frz).all D.still = true := all_still
    have hzz : (xs.map D.frz).map D.frz = xs.map D.frz := fr_map
    have hvf : (D.node k false (xs.map D.frz)).frz = (D.node k o xs).frz := by rw [fr_node, fr_node, hzz]
    rw [← hfb] at ed
    generalize hz : xs.map D.frz = zs at *
    refine vS_cut (fun η => ∃ (x2 x3 : D), η = [.node (.obj "Book" []) true [], .node k false zs, x2, x3] ∧ ∀ x ∈ zs, nodeB zs.length x = true) ?_ ?_
    · rcases hk with rfl | rfl
      · walk_at "zs"
        refine vO_for_inv (fun j η => ∃ (x2 x3 : D), η = [.node (.obj "Book" []) true [], .node .lst false zs, x2, x3] ∧ ∀ i, i < j → nodeB zs.length (zs.getD i .unb) = true) ⟨_, _, rfl, fun i hi => absurd hi (by omega)⟩ ?_ ?_
        · rintro j d _ hd ⟨x2, x3, rfl, hg⟩
          obtain ⟨x, hx3, rfl⟩ := enum_get hd
          have hxm := List.mem_of_getElem? hx3
          have hxl := (List.getElem?_eq_some_iff.mp hx3).1
          have hgd : zs.getD j .unb = x := by rw [List.getD_eq_getElem?_getD, hx3]; rfl
          have xb := (hzm x hxm).bd
          have xs2 := hzs x hxm
          walk_at "z"
          rw [xb]
          walk_at "z"
          rw [xb]
          walk_at "z"
          rw [xs2]
          walk_at "z"
          refine is_node_ok (hzm x hxm) xs2 ?_
          walk_at "z"
          refine wB_i (fun e => ?_) (fun e => ?_)
          · have e2 : nodeB zs.length x = false := by simpa using e
            have e3 : fb zs = some j := fb_some hxl hg (by rw [hgd, e2])
            rw [e3] at ed
            simp only at ed
            rw [show (j : Int) = ((0 + j : Nat) : Int) by rw [Nat.zero_add]] at ed
            walk_at "z"
            exact h1 _ _ _ hvf rfl ed
          · have e2 : nodeB zs.length x = true := by simpa using e
            try walk_at "z"
            refine ⟨_, _, rfl, fun i hi => ?_⟩
            by_cases hij : i = j
            · subst hij; rw [hgd, e2]
            · exact hg i (by omega)
        · rintro _ ⟨x2, x3, rfl, hg⟩
          rw [enum_len] at hg
          refine ⟨_, _, rfl, fun x hx3 => ?_⟩
          obtain ⟨i, hi, rfl⟩ := List.mem_iff_getElem.mp hx3
          have := hg i hi
          rw [List.getD_eq_getElem?_getD, List.getElem?_eq_getElem hi] at this
          exact this
      · walk_at "zs"
        refine vO_for_inv (fun j η => ∃ (x2 x3 : D), η = [.node (.obj "Book" []) true [], .node .tup false zs, x2, x3] ∧ ∀ i, i < j → nodeB zs.length (zs.getD i .unb) = true) ⟨_, _, rfl, fun i hi => absurd hi (by omega)⟩ ?_ ?_
        · rintro j d _ hd ⟨x2, x3, rfl, hg⟩
          obtain ⟨x, hx3, rfl⟩ := enum_get hd
          have hxm := List.mem_of_getElem? hx3
          have hxl := (List.getElem?_eq_some_iff.mp hx3).1
          have hgd : zs.getD j .unb = x := by rw [List.getD_eq_getElem?_getD, hx3]; rfl
          have xb := (hzm x hxm).bd
          have xs2 := hzs x hxm
          walk_at "z"
          rw [xb]
          walk_at "z"
          rw [xb]
          walk_at "z"
          rw [xs2]
          walk_at "z"
          refine is_node_ok (hzm x hxm) xs2 ?_
          walk_at "z"
          refine wB_i (fun e => ?_) (fun e => ?_)
          · have e2 : nodeB zs.length x = false := by simpa using e
            have e3 : fb zs = some j := fb_some hxl hg (by rw [hgd, e2])
            rw [e3] at ed
            simp only at ed
            rw [show (j : Int) = ((0 + j : Nat) : Int) by rw [Nat.zero_add]] at ed
            walk_at "z"
            exact h1 _ _ _ hvf rfl ed
          · have e2 : nodeB zs.length x = true := by simpa using e
            try walk_at "z"
            refine ⟨_, _, rfl, fun i hi => ?_⟩
            by_cases hij : i = j
            · subst hij; rw [hgd, e2]
            · exact hg i (by omega)
        · rintro _ ⟨x2, x3, rfl, hg⟩
          rw [enum_len] at hg
          refine ⟨_, _, rfl, fun x hx3 => ?_⟩
          obtain ⟨i, hi, rfl⟩ := List.mem_iff_getElem.mp hx3
          have := hg i hi
          rw [List.getD_eq_getElem?_getD, List.getElem?_eq_getElem hi] at this
          exact this
    rintro _ ⟨x2, x3, rfl, hall⟩
    rw [fb_none.mpr hall] at ed
    simp only at ed
    have hrows : Rows zs.length zs := ⟨rfl, by omega, by omega, hall, hzs⟩
    rcases hk with rfl | rfl
    all_goals
      walk_at "z"
      rw [hza]
      walk_at "z"
      rw [hzz]
      refine worded_ok hrows fun fs => ?_
      walk_at "z"
      exact h3 _ _ _ hvf rfl hza ed
  cases hv with
  | lst hl hx => exact main (.inl rfl) rfl hl fun x hx2 => (hx x hx2).up (by omega)
  | tup hl hx => exact main (.inr rfl) rfl hl fun x hx2 => (hx x hx2).up (by omega)
  | pb hp hb =>
    obtain ⟨o, xs, rfl⟩ := PB_node hp
    walk_at "z"
    exact nd rfl
  | _ =>
    walk_at "z"
    exact nd rfl
end Z

set_option Elab.async false
set_option linter.all false
set_option maxRecDepth 100000
set_option maxHeartbeats 4000000
namespace Z
open PySem PySem.Spec PyProof.Rows L2
local macro_rules | `(tactic| walk_at "z") => `(tactic| simp only [vM_bind, vM_pure, vM_opt, vM_frz, vM_sq0, vM_sq1, vM_eK, vM_eS, vM_eTup, vM_eLst, vM_eBin, vM_eNeg, vM_eNot, vM_eAnd, vM_eOr, vM_eIf, vM_eCmp, vM_eCmp2, vM_ptN, vM_ptE, vM_eCut, vM_eSub, vM_ePth, vM_aS, vM_aE, vM_callF, vM_eCall, vM_eLen, vM_eIsa, vM_eO, vM_eBf, vM_rR, vM_rO, vM_iE, vM_iR1, vM_iR3, vM_iEn, vM_iZp, vM_tAnd, vM_tOr, vM_tNot, vM_tE, vM_tY, vS_q0, vS_q1, vS_pass, vS_ret0, vS_ret, vS_retS, vS_exp, vS_asg, vS_unp, vS_par, vS_setI, vS_setA, vS_if, vS_for, vS_wh, vS_rs, vS_try, vO_some, vO_map, List.getElem?_cons_zero, List.getElem?_cons_succ, List.set_cons_zero, List.set_cons_succ, bd_int, bd_str, bd_bl, bd_non, bd_node, fr_int, fr_str, fr_bl, fr_non, fr_node, fr_unb, fr_fr, fr_map, sl_fr, bd_fr, all_still, sl_int, sl_str, sl_bl, sl_non, sl_own, sl_shd, wTk, wTk0, wTs, gb0, gb1, gb2, vPth, wayS_eq, wayI_w, wWay_n, wWay_n0, wWay_l, wWay_r, wWay_t, wWay_int, wWay_str, wIx_lit, pt_int, cut_lst, cut_rol, cut_take, cut_drop, cut5_1, cut5_4, true_or, or_true, false_or, or_false, and_self, true_and, and_true, reduceCtorEq, putAt1, mapM1, mapM0, tr_lst, fr_bls, bls_map, ncast, Int.reduceEq, Int.reduceLT, Int.reduceLE, eq_self, decide_true, decide_false, cx_is, cx_isn, cx_in, cx_nin, cx_ne, is_non, is_int, is_bl, is_str, is_node, isn_non, isn_int, isn_bl, isn_str, isn_node, Bool.not_true, Bool.not_false, cd_nil, cut5h1, cut5h2, cut5h3, cut5l2, cut5l3, cut5l4, cut5l5, Int.reduceAdd, co_lt, vM_eMeth, vM_eMethE, ownL_eq, wMe_l, wMe_o, wMe_n, ml_a, ml_p, ml_i, nilB0, nilB1, vM_eRg1, co_ll, co_lr, co_lt, co_tl, co_tr, co_al, co_an, ints_still, setFrzP_w, putAt_nil, sl_lt, sl_le, Nat.reduceLeDiff, it_lst, it_rol, it_tup, fr_ints, bS_eq, bT2, vM_lc, frzAt0, frzAt1, wipeD0, wipeD1, setFrz_w, backD0, backD1, xP_w, wXP_int, setI_w, wSet_lit, xK_eq, xNo_eq, wayN_eq, xS_eq, cx_int, cx_str, cx_bl, cx_non, cx_lst, cx_tup, cx_rol, cd_eq_int, cd_ne_int, cd_lt_int, cd_le_int, cd_gt_int, cd_ge_int, cd_eq_str, cd_ne_str, cd_eq_bl, cd_ne_bl, bin_add, bin_sub, bin_mul_l, bin_mod_l, bin_div_l, bin_10_18, bin_10_30, ln_lst, ln_rol, ln_tup, ks_lst, Nat.reducePow, List.length_map, tr_bl, tr_int, cb_int, cb_abs, cb_min, wA_T, wA_r, wB_T, wB_F, wPO_s, wPO_n, st_ok, wRes, List.cons_append, List.nil_append, List.append_nil, List.all_cons, List.all_nil, Bool.true_and, Bool.and_true, List.map_cons, List.map_nil, List.length_cons, List.length_nil, Nat.reduceAdd, Nat.reduceSub, Nat.reduceLT, Nat.lt_add_left_iff_pos, List.replicate, if_true, Bool.and_self, Option.map, pick1, pick2, pick3, pick4, kp_is_color_0, kp__is_child_0, kp__is_child_1, kp__is_node_0, kp__is_node_1, kp__parents_0, kp_worded_0, kp_Book___init___0, kp_Book___init___1, kp_Book_nodes_0, kp_Book___eq___0, kp_Book___eq___1, kp__law_bag_0, kp__law_draw_0, kp__law_draw_1, kp__law_of_0, kp__law_of_1, kp__law_same_0, kq__law_same_0, kp__law_same_1, kq__law_same_1, kp__law_placed_0, kp__law_placed_1, kp__law_free_0, kp__law_free_1, kp__law_grown_0, kp__law_grown_1, kp__law_shape_0, kp__law_shape_1, kp__law_net_0, kp__law_any_0, kp__law_any_1, kp__law_made_0, kp__law_made_1, kp__law_is_node_0, kp__law_is_node_1, kp__law_due_0, kp__law_bent_0, kp__law_bent_1, kp__law_bent_2, kp__law_bent_3, kp_law_0, isa_is_color_0_non, isa_is_color_0_bl, isa_is_color_0_int, isa_is_color_0_str, isa_is_color_0_lst, isa_is_color_0_rol, isa_is_color_0_tup, isa_is_color_0_oBook, isa__is_child_0_non, isa__is_child_0_bl, isa__is_child_0_int, isa__is_child_0_str, isa__is_child_0_lst, isa__is_child_0_rol, isa__is_child_0_tup, isa__is_child_0_oBook, isa__is_child_1_non, isa__is_child_1_bl, isa__is_child_1_int, isa__is_child_1_str, isa__is_child_1_lst, isa__is_child_1_rol, isa__is_child_1_tup, isa__is_child_1_oBook, isa__is_node_0_non, isa__is_node_0_bl, isa__is_node_0_int, isa__is_node_0_str, isa__is_node_0_lst, isa__is_node_0_rol, isa__is_node_0_tup, isa__is_node_0_oBook, isa__is_node_1_non, isa__is_node_1_bl, isa__is_node_1_int, isa__is_node_1_str, isa__is_node_1_lst, isa__is_node_1_rol, isa__is_node_1_tup, isa__is_node_1_oBook, isa_Book___init___0_non, isa_Book___init___0_bl, isa_Book___init___0_int, isa_Book___init___0_str, isa_Book___init___0_lst, isa_Book___init___0_rol, isa_Book___init___0_tup, isa_Book___init___0_oBook, isa_Book___eq___0_non, isa_Book___eq___0_bl, isa_Book___eq___0_int, isa_Book___eq___0_str, isa_Book___eq___0_lst, isa_Book___eq___0_rol, isa_Book___eq___0_tup, isa_Book___eq___0_oBook, isa__law_same_0_non, isa__law_same_0_bl, isa__law_same_0_int, isa__law_same_0_str, isa__law_same_0_lst, isa__law_same_0_rol, isa__law_same_0_tup, isa__law_same_0_oBook, isa__law_same_1_non, isa__law_same_1_bl, isa__law_same_1_int, isa__law_same_1_str, isa__law_same_1_lst, isa__law_same_1_rol, isa__law_same_1_tup, isa__law_same_1_oBook, isa__law_same_2_non, isa__law_same_2_bl, isa__law_same_2_int, isa__law_same_2_str, isa__law_same_2_lst, isa__law_same_2_rol, isa__law_same_2_tup, isa__law_same_2_oBook, isa__law_same_3_non, isa__law_same_3_bl, isa__law_same_3_int, isa__law_same_3_str, isa__law_same_3_lst, isa__law_same_3_rol, isa__law_same_3_tup, isa__law_same_3_oBook, isa__law_same_4_non, isa__law_same_4_bl, isa__law_same_4_int, isa__law_same_4_str, isa__law_same_4_lst, isa__law_same_4_rol, isa__law_same_4_tup, isa__law_same_4_oBook, isa__law_same_5_non, isa__law_same_5_bl, isa__law_same_5_int, isa__law_same_5_str, isa__law_same_5_lst, isa__law_same_5_rol, isa__law_same_5_tup, isa__law_same_5_oBook, isa__law_is_node_0_non, isa__law_is_node_0_bl, isa__law_is_node_0_int, isa__law_is_node_0_str, isa__law_is_node_0_lst, isa__law_is_node_0_rol, isa__law_is_node_0_tup, isa__law_is_node_0_oBook, isa__law_is_node_1_non, isa__law_is_node_1_bl, isa__law_is_node_1_int, isa__law_is_node_1_str, isa__law_is_node_1_lst, isa__law_is_node_1_rol, isa__law_is_node_1_tup, isa__law_is_node_1_oBook, isa__law_is_node_2_non, isa__law_is_node_2_bl, isa__law_is_node_2_int, isa__law_is_node_2_str, isa__law_is_node_2_lst, isa__law_is_node_2_rol, isa__law_is_node_2_tup, isa__law_is_node_2_oBook, isa__law_is_node_3_non, isa__law_is_node_3_bl, isa__law_is_node_3_int, isa__law_is_node_3_str, isa__law_is_node_3_lst, isa__law_is_node_3_rol, isa__law_is_node_3_tup, isa__law_is_node_3_oBook, isa__law_due_0_non, isa__law_due_0_bl, isa__law_due_0_int, isa__law_due_0_str, isa__law_due_0_lst, isa__law_due_0_rol, isa__law_due_0_tup, isa__law_due_0_oBook, List.isEmpty_nil, List.isEmpty_cons, vM_xc1, vM_eNew, vM_callC, pickSelf, pickKw, hs_p2, hs_k2, setA_1, setA_2, wayA_1, wayA_2, mo_nodes, fs_nodes])
local macro_rules | `(tactic| walk_at "zs") => `(tactic| simp only [vM_bind, vM_pure, vM_opt, vM_frz, vM_sq0, vM_sq1, vM_eK, vM_eS, vM_eTup, vM_eLst, vM_eBin, vM_eNeg, vM_eNot, vM_eAnd, vM_eOr, vM_eIf, vM_eCmp, vM_eCmp2, vM_ptN, vM_ptE, vM_eCut, vM_eSub, vM_ePth, vM_aS, vM_aE, vM_callF, vM_eCall, vM_eLen, vM_eIsa, vM_eO, vM_eBf, vM_rR, vM_rO, vM_iE, vM_iR1, vM_iR3, vM_iEn, vM_iZp, vM_tAnd, vM_tOr, vM_tNot, vM_tE, vM_tY, vS_q0, vS_q1, vS_pass, vS_ret0, vS_ret, vS_retS, vS_exp, vS_asg, vS_unp, vS_par, vS_setI, vS_setA, vS_if, vS_for, vS_wh, vS_rs, vS_try, vO_some, vO_map, List.getElem?_cons_zero, List.getElem?_cons_succ, List.set_cons_zero, List.set_cons_succ, bd_int, bd_str, bd_bl, bd_non, bd_node, fr_int, fr_str, fr_bl, fr_non, fr_node, fr_unb, fr_fr, fr_map, sl_fr, bd_fr, all_still, sl_int, sl_str, sl_bl, sl_non, sl_own, sl_shd, wTk, wTk0, wTs, gb0, gb1, gb2, vPth, wayS_eq, wayI_w, wWay_n, wWay_n0, wWay_l, wWay_r, wWay_t, wWay_int, wWay_str, wIx_lit, pt_int, cut_lst, cut_rol, cut_take, cut_drop, cut5_1, cut5_4, true_or, or_true, false_or, or_false, and_self, true_and, and_true, reduceCtorEq, putAt1, mapM1, mapM0, tr_lst, fr_bls, bls_map, ncast, Int.reduceEq, Int.reduceLT, Int.reduceLE, eq_self, decide_true, decide_false, cx_is, cx_isn, cx_in, cx_nin, cx_ne, is_non, is_int, is_bl, is_str, is_node, isn_non, isn_int, isn_bl, isn_str, isn_node, Bool.not_true, Bool.not_false, cd_nil, cut5h1, cut5h2, cut5h3, cut5l2, cut5l3, cut5l4, cut5l5, Int.reduceAdd, co_lt, vM_eMeth, vM_eMethE, ownL_eq, wMe_l, wMe_o, wMe_n, ml_a, ml_p, ml_i, nilB0, nilB1, vM_eRg1, co_ll, co_lr, co_lt, co_tl, co_tr, co_al, co_an, ints_still, setFrzP_w, putAt_nil, sl_lt, sl_le, Nat.reduceLeDiff, it_lst, it_rol, it_tup, fr_ints, bS_eq, bT2, vM_lc, frzAt0, frzAt1, wipeD0, wipeD1, setFrz_w, backD0, backD1, xP_w, wXP_int, setI_w, wSet_lit, xK_eq, xNo_eq, wayN_eq, xS_eq, cx_int, cx_str, cx_bl, cx_non, cx_lst, cx_tup, cx_rol, cd_eq_int, cd_ne_int, cd_lt_int, cd_le_int, cd_gt_int, cd_ge_int, cd_eq_str, cd_ne_str, cd_eq_bl, cd_ne_bl, bin_add, bin_sub, bin_mul_l, bin_mod_l, bin_div_l, bin_10_18, bin_10_30, ln_lst, ln_rol, ln_tup, ks_lst, Nat.reducePow, List.length_map, tr_bl, tr_int, cb_int, cb_abs, cb_min, wA_T, wA_r, wB_T, wB_F, wPO_s, wPO_n, st_ok, wRes, List.cons_append, List.nil_append, List.append_nil, List.all_cons, List.all_nil, Bool.true_and, Bool.and_true, List.map_cons, List.map_nil, List.length_cons, List.length_nil, Nat.reduceAdd, Nat.reduceSub, Nat.reduceLT, Nat.lt_add_left_iff_pos, List.replicate, if_true, Bool.and_self, Option.map, pick1, pick2, pick3, pick4, kp_is_color_0, kp__is_child_0, kp__is_child_1, kp__is_node_0, kp__is_node_1, kp__parents_0, kp_worded_0, kp_Book___init___0, kp_Book___init___1, kp_Book_nodes_0, kp_Book___eq___0, kp_Book___eq___1, kp__law_bag_0, kp__law_draw_0, kp__law_draw_1, kp__law_of_0, kp__law_of_1, kp__law_same_0, kq__law_same_0, kp__law_same_1, kq__law_same_1, kp__law_placed_0, kp__law_placed_1, kp__law_free_0, kp__law_free_1, kp__law_grown_0, kp__law_grown_1, kp__law_shape_0, kp__law_shape_1, kp__law_net_0, kp__law_any_0, kp__law_any_1, kp__law_made_0, kp__law_made_1, kp__law_is_node_0, kp__law_is_node_1, kp__law_due_0, kp__law_bent_0, kp__law_bent_1, kp__law_bent_2, kp__law_bent_3, kp_law_0, isa_is_color_0_non, isa_is_color_0_bl, isa_is_color_0_int, isa_is_color_0_str, isa_is_color_0_lst, isa_is_color_0_rol, isa_is_color_0_tup, isa_is_color_0_oBook, isa__is_child_0_non, isa__is_child_0_bl, isa__is_child_0_int, isa__is_child_0_str, isa__is_child_0_lst, isa__is_child_0_rol, isa__is_child_0_tup, isa__is_child_0_oBook, isa__is_child_1_non, isa__is_child_1_bl, isa__is_child_1_int, isa__is_child_1_str, isa__is_child_1_lst, isa__is_child_1_rol, isa__is_child_1_tup, isa__is_child_1_oBook, isa__is_node_0_non, isa__is_node_0_bl, isa__is_node_0_int, isa__is_node_0_str, isa__is_node_0_lst, isa__is_node_0_rol, isa__is_node_0_tup, isa__is_node_0_oBook, isa__is_node_1_non, isa__is_node_1_bl, isa__is_node_1_int, isa__is_node_1_str, isa__is_node_1_lst, isa__is_node_1_rol, isa__is_node_1_tup, isa__is_node_1_oBook, isa_Book___init___0_non, isa_Book___init___0_bl, isa_Book___init___0_int, isa_Book___init___0_str, isa_Book___init___0_lst, isa_Book___init___0_rol, isa_Book___init___0_tup, isa_Book___init___0_oBook, isa_Book___eq___0_non, isa_Book___eq___0_bl, isa_Book___eq___0_int, isa_Book___eq___0_str, isa_Book___eq___0_lst, isa_Book___eq___0_rol, isa_Book___eq___0_tup, isa_Book___eq___0_oBook, isa__law_same_0_non, isa__law_same_0_bl, isa__law_same_0_int, isa__law_same_0_str, isa__law_same_0_lst, isa__law_same_0_rol, isa__law_same_0_tup, isa__law_same_0_oBook, isa__law_same_1_non, isa__law_same_1_bl, isa__law_same_1_int, isa__law_same_1_str, isa__law_same_1_lst, isa__law_same_1_rol, isa__law_same_1_tup, isa__law_same_1_oBook, isa__law_same_2_non, isa__law_same_2_bl, isa__law_same_2_int, isa__law_same_2_str, isa__law_same_2_lst, isa__law_same_2_rol, isa__law_same_2_tup, isa__law_same_2_oBook, isa__law_same_3_non, isa__law_same_3_bl, isa__law_same_3_int, isa__law_same_3_str, isa__law_same_3_lst, isa__law_same_3_rol, isa__law_same_3_tup, isa__law_same_3_oBook, isa__law_same_4_non, isa__law_same_4_bl, isa__law_same_4_int, isa__law_same_4_str, isa__law_same_4_lst, isa__law_same_4_rol, isa__law_same_4_tup, isa__law_same_4_oBook, isa__law_same_5_non, isa__law_same_5_bl, isa__law_same_5_int, isa__law_same_5_str, isa__law_same_5_lst, isa__law_same_5_rol, isa__law_same_5_tup, isa__law_same_5_oBook, isa__law_is_node_0_non, isa__law_is_node_0_bl, isa__law_is_node_0_int, isa__law_is_node_0_str, isa__law_is_node_0_lst, isa__law_is_node_0_rol, isa__law_is_node_0_tup, isa__law_is_node_0_oBook, isa__law_is_node_1_non, isa__law_is_node_1_bl, isa__law_is_node_1_int, isa__law_is_node_1_str, isa__law_is_node_1_lst, isa__law_is_node_1_rol, isa__law_is_node_1_tup, isa__law_is_node_1_oBook, isa__law_is_node_2_non, isa__law_is_node_2_bl, isa__law_is_node_2_int, isa__law_is_node_2_str, isa__law_is_node_2_lst, isa__law_is_node_2_rol, isa__law_is_node_2_tup, isa__law_is_node_2_oBook, isa__law_is_node_3_non, isa__law_is_node_3_bl, isa__law_is_node_3_int, isa__law_is_node_3_str, isa__law_is_node_3_lst, isa__law_is_node_3_rol, isa__law_is_node_3_tup, isa__law_is_node_3_oBook, isa__law_due_0_non, isa__law_due_0_bl, isa__law_due_0_int, isa__law_due_0_str, isa__law_due_0_lst, isa__law_due_0_rol, isa__law_due_0_tup, isa__law_due_0_oBook, List.isEmpty_nil, List.isEmpty_cons, vM_xc1, vM_eNew, vM_callC, pickSelf, pickKw, hs_p2, hs_k2, setA_1, setA_2, wayA_1, wayA_2, mo_nodes, fs_nodes, *])
theorem nodes_ok {xs : List D} {w : D} {Q : FRes → Prop} (hs : xs.all D.still = true) (h : ∀ e, Q (.ret (.node .lst true xs) [e])) : vF F_Book_nodes.run [.node (.obj "Book" ["_nodes", "_worded"]) true [.node .lst false xs, w]] Q := by
  refine vF_runC rfl ?_
  unfold S_Book_nodes
  walk_at "zs"
  exact h _
theorem tryH_1 {a b c d : D} : tryH C__law_made 58 (stH (stN (defBody s__law_made) 0)) "InvalidNode" [("at", d)] [a, b, c] = some (.ret (.node .tup true [.str "node", d]) [a, b, .unb]) := by kernel_rfl
theorem tryH_2 {a b c d : D} : tryH C__law_made 58 (stH (stN (defBody s__law_made) 0)) "TooMany" [("count", d)] [a, b, c] = some (.ret (.node .tup true [.str "many", d]) [a, b, .unb]) := by kernel_rfl
theorem all_fr {xs : List D} (h : xs.all D.still = true) : xs.map D.frz = xs :=
  (List.map_congr_left fun d hd => fr_still (List.all_eq_true.mp h d hd)).trans (List.map_id'' (fun _ => rfl) xs)
theorem made_ok {v : D} {m : Nat} {b : Bool} {Q : FRes → Prop} (hv : Pl m v) (h : ∀ d v' e, d.frz = dueV v → d.bound = true → v'.frz = v.frz → v'.bound = true → Q (.ret d [v', e])) : vF F__law_made.run [v, .bl b] Q := by
  refine vF_runC rfl ?_
  unfold S__law_made
  have vb := hv.bd
  have ex1 : ∀ {v' : D} {i : Int} {η : List D}, v'.frz = v.frz → v'.bound = true → dueV v = .node .tup false [.str "node", .int i] → η = [v', .bl b, .unb] → vS (tryH C__law_made 58 (stH (stN (defBody s__law_made) 0)) "InvalidNode" [("at", .int i)]) η (fun f => match f with
      | .nx η => Q (.ret .non (outD 2 P__law_made η))
      | .ret d η => Q (.ret d (outD 2 P__law_made η))
      | .exc x fs η => Q (.exc x fs (outD 2 P__law_made η))
      | _ => False) := by
    rintro v' i _ h1 h2 h3 rfl
    exact wS_of tryH_1 (h _ _ _ (by rw [h3]; simp only [fr_node, List.map_cons, List.map_nil, fr_str, fr_int]) rfl h1 h2)
  have ex2 : ∀ {v' : D} {i : Int} {η : List D}, v'.frz = v.frz → v'.bound = true → dueV v = .node .tup false [.str "many", .int i] → η = [v', .bl b, .unb] → vS (tryH C__law_made 58 (stH (stN (defBody s__law_made) 0)) "TooMany" [("count", .int i)]) η (fun f => match f with
      | .nx η => Q (.ret .non (outD 2 P__law_made η))
      | .ret d η => Q (.ret d (outD 2 P__law_made η))
      | .exc x fs η => Q (.exc x fs (outD 2 P__law_made η))
      | _ => False) := by
    rintro v' i _ h1 h2 h3 rfl
    exact wS_of tryH_2 (h _ _ _ (by rw [h3]; simp only [fr_node, List.map_cons, List.map_nil, fr_str, fr_int]) rfl h1 h2)
  walk_at "z"
  refine wB_i (fun eb => ?_) (fun eb => ?_)
  all_goals
    walk_at "z"
    rw [vb]
    walk_at "z"
    rw [vb]
    walk_at "z"
    refine wB_i (fun es => ?_) (fun es => ?_)
    all_goals
      try walk_at "z"
      refine init_ok hv ?_ ?_ ?_
      · intro s v' i g1 g2 g3
        simp only [wNew, gb0, gb1, gb2, List.set_cons_zero, List.set_cons_succ]
        first | exact ex1 g1 g2 g3 rfl | exact ex1 rfl vb g3 rfl
      · intro s v' i g1 g2 g3
        simp only [wNew, gb0, gb1, gb2, List.set_cons_zero, List.set_cons_succ]
        first | exact ex2 g1 g2 g3 rfl | exact ex2 rfl vb g3 rfl
      · intro v' xs w g1 g2 g3 g4
        simp only [wNew]
        walk_at "z"
        refine nodes_ok g3 fun e => ?_
        walk_at "z"
        have hd : (D.node .tup true [.str "made", .node .lst true xs]).frz = dueV v := by rw [g4]; simp only [fr_node, List.map_cons, List.map_nil, fr_str, all_fr g3]
        first | exact h _ _ _ hd rfl g1 g2 | exact h _ _ _ hd rfl rfl vb
theorem due_ok {v : D} {m : Nat} {Q : FRes → Prop} (hv : Pl m v) (h : ∀ d v', d.frz = dueV v → d.bound = true → v'.frz = v.frz → v'.bound = true → Q (.ret d [v'])) : vF F__law_due.run [v] Q := by
  refine vF_runC rfl ?_
  have vb := hv.bd
  have nd : ∀ {b c : D}, dueV v = .node .tup false [.str "node", .int (-1)] → Q (.ret (.node .tup true [.str "node", .int (-1)]) (outD 1 P__law_due [v, b, c])) := fun e => h _ _ (by rw [e]; simp only [fr_node, List.map_cons, List.map_nil, fr_str, fr_int]) rfl rfl vb
  have main : ∀ {k : Kd} {o : Bool} {xs : List D}, (k = .lst ∨ k = .tup) → v = .node k o xs → xs.length ≤ 1000 → (∀ x ∈ xs, Pl m x) → vS S__law_due [v, .unb, .unb] (fun f => match f with
      | .nx η => Q (.ret .non (outD 1 P__law_due η))
      | .ret d η => Q (.ret d (outD 1 P__law_due η))
      | .exc x fs η => Q (.exc x fs (outD 1 P__law_due η))
      | _ => False) := by
    rintro k o xs hk rfl hl hx
    unfold S__law_due
    by_cases h0 : xs = []
    · subst h0
      have e0 : dueV (.node k o []) = .node .tup false [.str "node", .int (-1)] := by rcases hk with rfl | rfl <;> rfl
      rcases hk with rfl | rfl
      all_goals
        walk_at "z"
        exact nd e0
    have hl0 : 0 < xs.length := List.length_pos_iff.mpr h0
    have ed := due_seq (o := o) hk h0
    refine vS_cut (fun η => η = [.node k o xs, .unb, .unb]) ?_ ?_
    · have hne : decide ((xs.length : Int) = 0) = false := decide_eq_false (by omega)
      rcases hk with rfl | rfl
      all_goals
        walk_at "z"
        rw [hne]
        walk_at "z"
    rintro _ rfl
    refine vS_cut (fun η => η = [.node k o xs, .unb, .unb] ∧ xs.length ≤ 200) ?_ ?_
    · rcases hk with rfl | rfl
      all_goals
        walk_at "z"
        refine wB_i (fun e => ?_) (fun e => ?_)
        · simp only [decide_eq_true_eq] at e
          rw [if_pos (by omega)] at ed
          walk_at "z"
          exact h _ _ (by rw [ed]; simp only [fr_node, List.map_cons, List.map_nil, fr_str, fr_int]) rfl rfl vb
        · simp only [decide_eq_false_iff_not] at e
          try walk_at "z"
          omega
    rintro _ ⟨rfl, h200⟩
    rw [if_neg (by omega)] at ed
    have hzm : ∀ x ∈ xs.map D.frz, Pl m x := fun x hx2 => by
      obtain ⟨y, hy, rfl⟩ := List.mem_map.mp hx2
      exact (hx y hy).frz
    have hzl : (xs.map D.frz).length = xs.length := List.length_map _
    have hfb : fb (xs.map D.frz) = fb xs := fb_map
    have hzz : (xs.map D.frz).map D.frz = xs.map D.frz := fr_map
    rw [← hfb] at ed
    have hfl : fb (xs.map D.frz) = ((List.range xs.length).filter fun i => !nodeB xs.length ((xs.map D.frz).getD i .unb)).head? := by
      rw [List.head?_filter]
      unfold fb
      rw [hzl]
    rw [hfl] at ed
    refine vS_cut (fun η => ∃ (ys : List D) (x2 : D), η = [.node k o ys, .node .lst true (((List.range xs.length).filter fun i => !nodeB xs.length ((xs.map D.frz).getD i .unb)).map fun i => .int (i : Nat)), x2] ∧ ys.map D.frz = xs.map D.frz) ?_ ?_
    · rcases hk with rfl | rfl
      · walk_at "z"
        rw [rg_1 (by omega) (by omega)]
        walk_at "z"
        refine vO_lc (fun j acc η => ∃ (ys : List D) (x2 : D), η = [.node .lst o ys, .unb, x2] ∧ ys.map D.frz = xs.map D.frz ∧ acc = ((List.range j).filter fun i => !nodeB xs.length ((xs.map D.frz).getD i .unb)).map fun i => .int (i : Nat)) ⟨_, _, rfl, rfl, rfl⟩ (by rw [sl_le]; simp; omega) ?_ ?_
        · rintro j d acc _ hj ⟨ys, x2, rfl, hys, rfl⟩
          have hj2 := (List.getElem?_eq_some_iff.mp hj).1
          rw [List.length_map, List.length_range, Int.toNat_natCast] at hj2
          rw [List.getElem?_map, Int.toNat_natCast, List.getElem?_range hj2] at hj
          cases hj
          have hyl : ys.length = xs.length := by have := congrArg List.length hys; simpa using this
          have hjy : j < ys.length := by omega
          have hyj : ys[j]? = some ys[j] := List.getElem?_eq_getElem hjy
          have hfz : (xs.map D.frz)[j]? = some ys[j].frz := by rw [← hys, List.getElem?_map, hyj]; rfl
          have hpl : Pl m ys[j].frz := hzm _ (List.mem_of_getElem? hfz)
          have hgd : (xs.map D.frz).getD j .unb = ys[j].frz := by rw [List.getD_eq_getElem?_getD, hfz]; rfl
          have hbf : ys[j].frz.bound = true := hpl.bd
          rw [bd_fr] at hbf
          walk_at "z"
          rw [wIx_eq (m := (j : Int)) rfl hyj]
          walk_at "z"
          have hset : (ys.set j ys[j].frz).map D.frz = xs.map D.frz := by
            rw [List.map_set, fr_fr, ← hys]
            have e := List.set_getElem_self (as := ys.map D.frz) (i := j) (by rw [List.length_map]; exact hjy)
            rw [List.getElem_map] at e
            exact e
          have e0 : ∀ b : Bool, b = (!nodeB xs.length ys[j].frz) → ((List.range (j + 1)).filter fun i => !nodeB xs.length ((xs.map D.frz).getD i .unb)).map (fun i => D.int (i : Nat)) = ((List.range j).filter fun i => !nodeB xs.length ((xs.map D.frz).getD i .unb)).map (fun i => D.int (i : Nat)) ++ (if b = true then [D.int (j : Nat)] else []) := by
            intro b hb
            rw [List.range_succ, List.filter_append, List.map_append]
            congr 1
            rw [List.filter_cons, hgd, ← hb]
            cases b <;> rfl
          refine wB_i (fun es => ?_) (fun es => ?_)
          · have hfe := fr_still es
            walk_at "z"
            rw [hyl]
            refine law_is_node_ok (by rw [← hfe]; exact hpl) es ?_
            walk_at "z"
            refine wB_i (fun e1 => ?_) (fun e1 => ?_)
            · have := e0 true (by rw [hfe]; exact e1.symm)
              rw [if_pos rfl] at this
              walk_at "z"
              exact ⟨_, _, rfl, hys, this.symm⟩
            · have := e0 false (by rw [hfe]; exact e1.symm)
              rw [if_neg (by decide), List.append_nil] at this
              try walk_at "z"
              exact ⟨_, _, rfl, hys, this.symm⟩
          · walk_at "z"
            rw [List.length_set, hyl]
            refine law_is_node_ok hpl (sl_fr _) ?_
            walk_at "z"
            refine wB_i (fun e1 => ?_) (fun e1 => ?_)
            · have := e0 true e1.symm
              rw [if_pos rfl] at this
              walk_at "z"
              exact ⟨_, _, rfl, hset, this.symm⟩
            · have := e0 false e1.symm
              rw [if_neg (by decide), List.append_nil] at this
              try walk_at "z"
              exact ⟨_, _, rfl, hset, this.symm⟩
        · rintro acc _ ⟨ys, x2, rfl, hys, rfl⟩
          rw [List.length_map, List.length_range, Int.toNat_natCast]
          walk_at "z"
          exact ⟨_, _, rfl, hys⟩
      · walk_at "z"
        rw [rg_1 (by omega) (by omega)]
        walk_at "z"
        refine vO_lc (fun j acc η => ∃ (ys : List D) (x2 : D), η = [.node .tup o ys, .unb, x2] ∧ ys.map D.frz = xs.map D.frz ∧ acc = ((List.range j).filter fun i => !nodeB xs.length ((xs.map D.frz).getD i .unb)).map fun i => .int (i : Nat)) ⟨_, _, rfl, rfl, rfl⟩ (by rw [sl_le]; simp; omega) ?_ ?_
        · rintro j d acc _ hj ⟨ys, x2, rfl, hys, rfl⟩
          have hj2 := (List.getElem?_eq_some_iff.mp hj).1
          rw [List.length_map, List.length_range, Int.toNat_natCast] at hj2
          rw [List.getElem?_map, Int.toNat_natCast, List.getElem?_range hj2] at hj
          cases hj
          have hyl : ys.length = xs.length := by have := congrArg List.length hys; simpa using this
          have hjy : j < ys.length := by omega
          have hyj : ys[j]? = some ys[j] := List.getElem?_eq_getElem hjy
          have hfz : (xs.map D.frz)[j]? = some ys[j].frz := by rw [← hys, List.getElem?_map, hyj]; rfl
          have hpl : Pl m ys[j].frz := hzm _ (List.mem_of_getElem? hfz)
          have hgd : (xs.map D.frz).getD j .unb = ys[j].frz := by rw [List.getD_eq_getElem?_getD, hfz]; rfl
          have hbf : ys[j].frz.bound = true := hpl.bd
          rw [bd_fr] at hbf
          walk_at "z"
          rw [wIx_eq (m := (j : Int)) rfl hyj]
          walk_at "z"
          have hset : (ys.set j ys[j].frz).map D.frz = xs.map D.frz := by
            rw [List.map_set, fr_fr, ← hys]
            have e := List.set_getElem_self (as := ys.map D.frz) (i := j) (by rw [List.length_map]; exact hjy)
            rw [List.getElem_map] at e
            exact e
          have e0 : ∀ b : Bool, b = (!nodeB xs.length ys[j].frz) → ((List.range (j + 1)).filter fun i => !nodeB xs.length ((xs.map D.frz).getD i .unb)).map (fun i => D.int (i : Nat)) = ((List.range j).filter fun i => !nodeB xs.length ((xs.map D.frz).getD i .unb)).map (fun i => D.int (i : Nat)) ++ (if b = true then [D.int (j : Nat)] else []) := by
            intro b hb
            rw [List.range_succ, List.filter_append, List.map_append]
            congr 1
            rw [List.filter_cons, hgd, ← hb]
            cases b <;> rfl
          refine wB_i (fun es => ?_) (fun es => ?_)
          · have hfe := fr_still es
            walk_at "z"
            rw [hyl]
            refine law_is_node_ok (by rw [← hfe]; exact hpl) es ?_
            walk_at "z"
            refine wB_i (fun e1 => ?_) (fun e1 => ?_)
            · have := e0 true (by rw [hfe]; exact e1.symm)
              rw [if_pos rfl] at this
              walk_at "z"
              exact ⟨_, _, rfl, hys, this.symm⟩
            · have := e0 false (by rw [hfe]; exact e1.symm)
              rw [if_neg (by decide), List.append_nil] at this
              try walk_at "z"
              exact ⟨_, _, rfl, hys, this.symm⟩
          · walk_at "z"
            rw [List.length_set, hyl]
            refine law_is_node_ok hpl (sl_fr _) ?_
            walk_at "z"
            refine wB_i (fun e1 => ?_) (fun e1 => ?_)
            · have := e0 true e1.symm
              rw [if_pos rfl] at this
              walk_at "z"
              exact ⟨_, _, rfl, hset, this.symm⟩
            · have := e0 false e1.symm
              rw [if_neg (by decide), List.append_nil] at this
              try walk_at "z"
              exact ⟨_, _, rfl, hset, this.symm⟩
        · rintro acc _ ⟨ys, x2, rfl, hys, rfl⟩
          rw [List.length_map, List.length_range, Int.toNat_natCast]
          walk_at "z"
          exact ⟨_, _, rfl, hys⟩
    rintro _ ⟨ys, x2, rfl, hys⟩
    have hv1 : (D.node k o ys).frz = (D.node k o xs).frz := by rw [fr_node, fr_node, hys]
    have hv2 : (D.node k false (xs.map D.frz)).frz = (D.node k o xs).frz := by rw [fr_node, fr_node, hzz]
    generalize (List.range xs.length).filter (fun i => !nodeB xs.length ((xs.map D.frz).getD i .unb)) = fl at ed ⊢
    cases fl with
    | nil =>
      have eb : (D.node .tup true [.str "made", .node .lst true (xs.map D.frz)]).frz = dueV (.node k o xs) := by rw [ed]; simp only [fr_node, List.map_cons, List.map_nil, fr_str, hzz]; rfl
      have ea : (D.node .tup true [.str "made", .node .lst true ys]).frz = dueV (.node k o xs) := by rw [ed]; simp only [fr_node, List.map_cons, List.map_nil, fr_str, hys]; rfl
      rcases hk with rfl | rfl
      all_goals
        walk_at "z"
        refine wB_i (fun e1 => ?_) (fun e1 => ?_)
        · walk_at "z"
          first | exact h _ _ ea rfl hv1 rfl | exact h _ _ ea rfl hv2 rfl
        · walk_at "z"
          rw [hys]
          try walk_at "z"
          exact h _ _ eb rfl hv2 rfl
    | cons i r =>
      have ea : (D.node .tup true [.str "node", .int i]).frz = dueV (.node k o xs) := by rw [ed]; simp only [fr_node, List.map_cons, List.map_nil, fr_str, fr_int]; rfl
      rcases hk with rfl | rfl
      all_goals
        walk_at "z"
        first | exact h _ _ ea rfl hv1 rfl | exact h _ _ ea rfl hv2 rfl
  cases hv with
  | lst hl hx => exact main (.inl rfl) rfl hl fun x hx2 => (hx x hx2).up (by omega)
  | tup hl hx => exact main (.inr rfl) rfl hl fun x hx2 => (hx x hx2).up (by omega)
  | pb hp hb =>
    obtain ⟨o, xs, rfl⟩ := PB_node hp
    unfold S__law_due
    walk_at "z"
    exact nd rfl
  | _ =>
    unfold S__law_due
    walk_at "z"
    exact nd rfl
end Z

set_option Elab.async false
set_option linter.all false
set_option maxRecDepth 100000
set_option maxHeartbeats 4000000
namespace Z
open PySem PySem.Spec PyProof.Rows L2
local macro_rules | `(tactic| walk_at "z") => `(tactic| simp only [vM_bind, vM_pure, vM_opt, vM_frz, vM_sq0, vM_sq1, vM_eK, vM_eS, vM_eTup, vM_eLst, vM_eBin, vM_eNeg, vM_eNot, vM_eAnd, vM_eOr, vM_eIf, vM_eCmp, vM_eCmp2, vM_ptN, vM_ptE, vM_eCut, vM_eSub, vM_ePth, vM_aS, vM_aE, vM_callF, vM_eCall, vM_eLen, vM_eIsa, vM_eO, vM_eBf, vM_rR, vM_rO, vM_iE, vM_iR1, vM_iR3, vM_iEn, vM_iZp, vM_tAnd, vM_tOr, vM_tNot, vM_tE, vM_tY, vS_q0, vS_q1, vS_pass, vS_ret0, vS_ret, vS_retS, vS_exp, vS_asg, vS_unp, vS_par, vS_setI, vS_setA, vS_if, vS_for, vS_wh, vS_rs, vS_try, vO_some, vO_map, List.getElem?_cons_zero, List.getElem?_cons_succ, List.set_cons_zero, List.set_cons_succ, bd_int, bd_str, bd_bl, bd_non, bd_node, fr_int, fr_str, fr_bl, fr_non, fr_node, fr_unb, fr_fr, fr_map, sl_fr, bd_fr, all_still, sl_int, sl_str, sl_bl, sl_non, sl_own, sl_shd, wTk, wTk0, wTs, gb0, gb1, gb2, vPth, wayS_eq, wayI_w, wWay_n, wWay_n0, wWay_l, wWay_r, wWay_t, wWay_int, wWay_str, wIx_lit, pt_int, cut_lst, cut_rol, cut_take, cut_drop, cut5_1, cut5_4, true_or, or_true, false_or, or_false, and_self, true_and, and_true, reduceCtorEq, putAt1, mapM1, mapM0, tr_lst, fr_bls, bls_map, ncast, Int.reduceEq, Int.reduceLT, Int.reduceLE, eq_self, decide_true, decide_false, cx_is, cx_isn, cx_in, cx_nin, cx_ne, is_non, is_int, is_bl, is_str, is_node, isn_non, isn_int, isn_bl, isn_str, isn_node, Bool.not_true, Bool.not_false, cd_nil, cut5h1, cut5h2, cut5h3, cut5l2, cut5l3, cut5l4, cut5l5, Int.reduceAdd, co_lt, vM_eMeth, vM_eMethE, ownL_eq, wMe_l, wMe_o, wMe_n, ml_a, ml_p, ml_i, nilB0, nilB1, vM_eRg1, co_ll, co_lr, co_lt, co_tl, co_tr, co_al, co_an, ints_still, setFrzP_w, putAt_nil, sl_lt, sl_le, Nat.reduceLeDiff, it_lst, it_rol, it_tup, fr_ints, bS_eq, bT2, vM_lc, frzAt0, frzAt1, wipeD0, wipeD1, setFrz_w, backD0, backD1, xP_w, wXP_int, setI_w, wSet_lit, xK_eq, xNo_eq, wayN_eq, xS_eq, cx_int, cx_str, cx_bl, cx_non, cx_lst, cx_tup, cx_rol, cd_eq_int, cd_ne_int, cd_lt_int, cd_le_int, cd_gt_int, cd_ge_int, cd_eq_str, cd_ne_str, cd_eq_bl, cd_ne_bl, bin_add, bin_sub, bin_mul_l, bin_mod_l, bin_div_l, bin_10_18, bin_10_30, ln_lst, ln_rol, ln_tup, ks_lst, Nat.reducePow, List.length_map, tr_bl, tr_int, cb_int, cb_abs, cb_min, wA_T, wA_r, wB_T, wB_F, wPO_s, wPO_n, st_ok, wRes, List.cons_append, List.nil_append, List.append_nil, List.all_cons, List.all_nil, Bool.true_and, Bool.and_true, List.map_cons, List.map_nil, List.length_cons, List.length_nil, Nat.reduceAdd, Nat.reduceSub, Nat.reduceLT, Nat.lt_add_left_iff_pos, List.replicate, if_true, Bool.and_self, Option.map, pick1, pick2, pick3, pick4, kp_is_color_0, kp__is_child_0, kp__is_child_1, kp__is_node_0, kp__is_node_1, kp__parents_0, kp_worded_0, kp_Book___init___0, kp_Book___init___1, kp_Book_nodes_0, kp_Book___eq___0, kp_Book___eq___1, kp__law_bag_0, kp__law_draw_0, kp__law_draw_1, kp__law_of_0, kp__law_of_1, kp__law_same_0, kq__law_same_0, kp__law_same_1, kq__law_same_1, kp__law_placed_0, kp__law_placed_1, kp__law_free_0, kp__law_free_1, kp__law_grown_0, kp__law_grown_1, kp__law_shape_0, kp__law_shape_1, kp__law_net_0, kp__law_any_0, kp__law_any_1, kp__law_made_0, kp__law_made_1, kp__law_is_node_0, kp__law_is_node_1, kp__law_due_0, kp__law_bent_0, kp__law_bent_1, kp__law_bent_2, kp__law_bent_3, kp_law_0, isa_is_color_0_non, isa_is_color_0_bl, isa_is_color_0_int, isa_is_color_0_str, isa_is_color_0_lst, isa_is_color_0_rol, isa_is_color_0_tup, isa_is_color_0_oBook, isa__is_child_0_non, isa__is_child_0_bl, isa__is_child_0_int, isa__is_child_0_str, isa__is_child_0_lst, isa__is_child_0_rol, isa__is_child_0_tup, isa__is_child_0_oBook, isa__is_child_1_non, isa__is_child_1_bl, isa__is_child_1_int, isa__is_child_1_str, isa__is_child_1_lst, isa__is_child_1_rol, isa__is_child_1_tup, isa__is_child_1_oBook, isa__is_node_0_non, isa__is_node_0_bl, isa__is_node_0_int, isa__is_node_0_str, isa__is_node_0_lst, isa__is_node_0_rol, isa__is_node_0_tup, isa__is_node_0_oBook, isa__is_node_1_non, isa__is_node_1_bl, isa__is_node_1_int, isa__is_node_1_str, isa__is_node_1_lst, isa__is_node_1_rol, isa__is_node_1_tup, isa__is_node_1_oBook, isa_Book___init___0_non, isa_Book___init___0_bl, isa_Book___init___0_int, isa_Book___init___0_str, isa_Book___init___0_lst, isa_Book___init___0_rol, isa_Book___init___0_tup, isa_Book___init___0_oBook, isa_Book___eq___0_non, isa_Book___eq___0_bl, isa_Book___eq___0_int, isa_Book___eq___0_str, isa_Book___eq___0_lst, isa_Book___eq___0_rol, isa_Book___eq___0_tup, isa_Book___eq___0_oBook, isa__law_same_0_non, isa__law_same_0_bl, isa__law_same_0_int, isa__law_same_0_str, isa__law_same_0_lst, isa__law_same_0_rol, isa__law_same_0_tup, isa__law_same_0_oBook, isa__law_same_1_non, isa__law_same_1_bl, isa__law_same_1_int, isa__law_same_1_str, isa__law_same_1_lst, isa__law_same_1_rol, isa__law_same_1_tup, isa__law_same_1_oBook, isa__law_same_2_non, isa__law_same_2_bl, isa__law_same_2_int, isa__law_same_2_str, isa__law_same_2_lst, isa__law_same_2_rol, isa__law_same_2_tup, isa__law_same_2_oBook, isa__law_same_3_non, isa__law_same_3_bl, isa__law_same_3_int, isa__law_same_3_str, isa__law_same_3_lst, isa__law_same_3_rol, isa__law_same_3_tup, isa__law_same_3_oBook, isa__law_same_4_non, isa__law_same_4_bl, isa__law_same_4_int, isa__law_same_4_str, isa__law_same_4_lst, isa__law_same_4_rol, isa__law_same_4_tup, isa__law_same_4_oBook, isa__law_same_5_non, isa__law_same_5_bl, isa__law_same_5_int, isa__law_same_5_str, isa__law_same_5_lst, isa__law_same_5_rol, isa__law_same_5_tup, isa__law_same_5_oBook, isa__law_is_node_0_non, isa__law_is_node_0_bl, isa__law_is_node_0_int, isa__law_is_node_0_str, isa__law_is_node_0_lst, isa__law_is_node_0_rol, isa__law_is_node_0_tup, isa__law_is_node_0_oBook, isa__law_is_node_1_non, isa__law_is_node_1_bl, isa__law_is_node_1_int, isa__law_is_node_1_str, isa__law_is_node_1_lst, isa__law_is_node_1_rol, isa__law_is_node_1_tup, isa__law_is_node_1_oBook, isa__law_is_node_2_non, isa__law_is_node_2_bl, isa__law_is_node_2_int, isa__law_is_node_2_str, isa__law_is_node_2_lst, isa__law_is_node_2_rol, isa__law_is_node_2_tup, isa__law_is_node_2_oBook, isa__law_is_node_3_non, isa__law_is_node_3_bl, isa__law_is_node_3_int, isa__law_is_node_3_str, isa__law_is_node_3_lst, isa__law_is_node_3_rol, isa__law_is_node_3_tup, isa__law_is_node_3_oBook, isa__law_due_0_non, isa__law_due_0_bl, isa__law_due_0_int, isa__law_due_0_str, isa__law_due_0_lst, isa__law_due_0_rol, isa__law_due_0_tup, isa__law_due_0_oBook, List.isEmpty_nil, List.isEmpty_cons, vM_xc1, vM_eNew, vM_callC, pickSelf, pickKw, hs_p2, hs_k2, setA_1, setA_2, wayA_1, wayA_2, mo_nodes, fs_nodes])
local macro_rules | `(tactic| walk_at "zs") => `(tactic| simp only [vM_bind, vM_pure, vM_opt, vM_frz, vM_sq0, vM_sq1, vM_eK, vM_eS, vM_eTup, vM_eLst, vM_eBin, vM_eNeg, vM_eNot, vM_eAnd, vM_eOr, vM_eIf, vM_eCmp, vM_eCmp2, vM_ptN, vM_ptE, vM_eCut, vM_eSub, vM_ePth, vM_aS, vM_aE, vM_callF, vM_eCall, vM_eLen, vM_eIsa, vM_eO, vM_eBf, vM_rR, vM_rO, vM_iE, vM_iR1, vM_iR3, vM_iEn, vM_iZp, vM_tAnd, vM_tOr, vM_tNot, vM_tE, vM_tY, vS_q0, vS_q1, vS_pass, vS_ret0, vS_ret, vS_retS, vS_exp, vS_asg, vS_unp, vS_par, vS_setI, vS_setA, vS_if, vS_for, vS_wh, vS_rs, vS_try, vO_some, vO_map, List.getElem?_cons_zero, List.getElem?_cons_succ, List.set_cons_zero, List.set_cons_succ, bd_int, bd_str, bd_bl, bd_non, bd_node, fr_int, fr_str, fr_bl, fr_non, fr_node, fr_unb, fr_fr, fr_map, sl_fr, bd_fr, all_still, sl_int, sl_str, sl_bl, sl_non, sl_own, sl_shd, wTk, wTk0, wTs, gb0, gb1, gb2, vPth, wayS_eq, wayI_w, wWay_n, wWay_n0, wWay_l, wWay_r, wWay_t, wWay_int, wWay_str, wIx_lit, pt_int, cut_lst, cut_rol, cut_take, cut_drop, cut5_1, cut5_4, true_or, or_true, false_or, or_false, and_self, true_and, and_true, reduceCtorEq, putAt1, mapM1, mapM0, tr_lst, fr_bls, bls_map, ncast, Int.reduceEq, Int.reduceLT, Int.reduceLE, eq_self, decide_true, decide_false, cx_is, cx_isn, cx_in, cx_nin, cx_ne, is_non, is_int, is_bl, is_str, is_node, isn_non, isn_int, isn_bl, isn_str, isn_node, Bool.not_true, Bool.not_false, cd_nil, cut5h1, cut5h2, cut5h3, cut5l2, cut5l3, cut5l4, cut5l5, Int.reduceAdd, co_lt, vM_eMeth, vM_eMethE, ownL_eq, wMe_l, wMe_o, wMe_n, ml_a, ml_p, ml_i, nilB0, nilB1, vM_eRg1, co_ll, co_lr, co_lt, co_tl, co_tr, co_al, co_an, ints_still, setFrzP_w, putAt_nil, sl_lt, sl_le, Nat.reduceLeDiff, it_lst, it_rol, it_tup, fr_ints, bS_eq, bT2, vM_lc, frzAt0, frzAt1, wipeD0, wipeD1, setFrz_w, backD0, backD1, xP_w, wXP_int, setI_w, wSet_lit, xK_eq, xNo_eq, wayN_eq, xS_eq, cx_int, cx_str, cx_bl, cx_non, cx_lst, cx_tup, cx_rol, cd_eq_int, cd_ne_int, cd_lt_int, cd_le_int, cd_gt_int, cd_ge_int, cd_eq_str, cd_ne_str, cd_eq_bl, cd_ne_bl, bin_add, bin_sub, bin_mul_l, bin_mod_l, bin_div_l, bin_10_18, bin_10_30, ln_lst, ln_rol, ln_tup, ks_lst, Nat.reducePow, List.length_map, tr_bl, tr_int, cb_int, cb_abs, cb_min, wA_T, wA_r, wB_T, wB_F, wPO_s, wPO_n, st_ok, wRes, List.cons_append, List.nil_append, List.append_nil, List.all_cons, List.all_nil, Bool.true_and, Bool.and_true, List.map_cons, List.map_nil, List.length_cons, List.length_nil, Nat.reduceAdd, Nat.reduceSub, Nat.reduceLT, Nat.lt_add_left_iff_pos, List.replicate, if_true, Bool.and_self, Option.map, pick1, pick2, pick3, pick4, kp_is_color_0, kp__is_child_0, kp__is_child_1, kp__is_node_0, kp__is_node_1, kp__parents_0, kp_worded_0, kp_Book___init___0, kp_Book___init___1, kp_Book_nodes_0, kp_Book___eq___0, kp_Book___eq___1, kp__law_bag_0, kp__law_draw_0, kp__law_draw_1, kp__law_of_0, kp__law_of_1, kp__law_same_0, kq__law_same_0, kp__law_same_1, kq__law_same_1, kp__law_placed_0, kp__law_placed_1, kp__law_free_0, kp__law_free_1, kp__law_grown_0, kp__law_grown_1, kp__law_shape_0, kp__law_shape_1, kp__law_net_0, kp__law_any_0, kp__law_any_1, kp__law_made_0, kp__law_made_1, kp__law_is_node_0, kp__law_is_node_1, kp__law_due_0, kp__law_bent_0, kp__law_bent_1, kp__law_bent_2, kp__law_bent_3, kp_law_0, isa_is_color_0_non, isa_is_color_0_bl, isa_is_color_0_int, isa_is_color_0_str, isa_is_color_0_lst, isa_is_color_0_rol, isa_is_color_0_tup, isa_is_color_0_oBook, isa__is_child_0_non, isa__is_child_0_bl, isa__is_child_0_int, isa__is_child_0_str, isa__is_child_0_lst, isa__is_child_0_rol, isa__is_child_0_tup, isa__is_child_0_oBook, isa__is_child_1_non, isa__is_child_1_bl, isa__is_child_1_int, isa__is_child_1_str, isa__is_child_1_lst, isa__is_child_1_rol, isa__is_child_1_tup, isa__is_child_1_oBook, isa__is_node_0_non, isa__is_node_0_bl, isa__is_node_0_int, isa__is_node_0_str, isa__is_node_0_lst, isa__is_node_0_rol, isa__is_node_0_tup, isa__is_node_0_oBook, isa__is_node_1_non, isa__is_node_1_bl, isa__is_node_1_int, isa__is_node_1_str, isa__is_node_1_lst, isa__is_node_1_rol, isa__is_node_1_tup, isa__is_node_1_oBook, isa_Book___init___0_non, isa_Book___init___0_bl, isa_Book___init___0_int, isa_Book___init___0_str, isa_Book___init___0_lst, isa_Book___init___0_rol, isa_Book___init___0_tup, isa_Book___init___0_oBook, isa_Book___eq___0_non, isa_Book___eq___0_bl, isa_Book___eq___0_int, isa_Book___eq___0_str, isa_Book___eq___0_lst, isa_Book___eq___0_rol, isa_Book___eq___0_tup, isa_Book___eq___0_oBook, isa__law_same_0_non, isa__law_same_0_bl, isa__law_same_0_int, isa__law_same_0_str, isa__law_same_0_lst, isa__law_same_0_rol, isa__law_same_0_tup, isa__law_same_0_oBook, isa__law_same_1_non, isa__law_same_1_bl, isa__law_same_1_int, isa__law_same_1_str, isa__law_same_1_lst, isa__law_same_1_rol, isa__law_same_1_tup, isa__law_same_1_oBook, isa__law_same_2_non, isa__law_same_2_bl, isa__law_same_2_int, isa__law_same_2_str, isa__law_same_2_lst, isa__law_same_2_rol, isa__law_same_2_tup, isa__law_same_2_oBook, isa__law_same_3_non, isa__law_same_3_bl, isa__law_same_3_int, isa__law_same_3_str, isa__law_same_3_lst, isa__law_same_3_rol, isa__law_same_3_tup, isa__law_same_3_oBook, isa__law_same_4_non, isa__law_same_4_bl, isa__law_same_4_int, isa__law_same_4_str, isa__law_same_4_lst, isa__law_same_4_rol, isa__law_same_4_tup, isa__law_same_4_oBook, isa__law_same_5_non, isa__law_same_5_bl, isa__law_same_5_int, isa__law_same_5_str, isa__law_same_5_lst, isa__law_same_5_rol, isa__law_same_5_tup, isa__law_same_5_oBook, isa__law_is_node_0_non, isa__law_is_node_0_bl, isa__law_is_node_0_int, isa__law_is_node_0_str, isa__law_is_node_0_lst, isa__law_is_node_0_rol, isa__law_is_node_0_tup, isa__law_is_node_0_oBook, isa__law_is_node_1_non, isa__law_is_node_1_bl, isa__law_is_node_1_int, isa__law_is_node_1_str, isa__law_is_node_1_lst, isa__law_is_node_1_rol, isa__law_is_node_1_tup, isa__law_is_node_1_oBook, isa__law_is_node_2_non, isa__law_is_node_2_bl, isa__law_is_node_2_int, isa__law_is_node_2_str, isa__law_is_node_2_lst, isa__law_is_node_2_rol, isa__law_is_node_2_tup, isa__law_is_node_2_oBook, isa__law_is_node_3_non, isa__law_is_node_3_bl, isa__law_is_node_3_int, isa__law_is_node_3_str, isa__law_is_node_3_lst, isa__law_is_node_3_rol, isa__law_is_node_3_tup, isa__law_is_node_3_oBook, isa__law_due_0_non, isa__law_due_0_bl, isa__law_due_0_int, isa__law_due_0_str, isa__law_due_0_lst, isa__law_due_0_rol, isa__law_due_0_tup, isa__law_due_0_oBook, List.isEmpty_nil, List.isEmpty_cons, vM_xc1, vM_eNew, vM_callC, pickSelf, pickKw, hs_p2, hs_k2, setA_1, setA_2, wayA_1, wayA_2, mo_nodes, fs_nodes, *])
theorem Pl.of_frz : ∀ {m : Nat} {d : D}, Pl m d.frz → Pl m d := by
  intro m
  induction m with
  | zero =>
    intro d h
    cases d with
    | unb => cases h
    | non => exact .non
    | bl b => exact .bl
    | int i => exact .int
    | str s => rw [fr_str] at h; exact h
    | ty n => cases h
    | node k o xs => rw [fr_node] at h; cases h
  | succ m ih =>
    intro d h
    cases d with
    | unb => cases h with
      | pb h hb => cases hb
    | non => exact .non
    | bl b => exact .bl
    | int i => exact .int
    | str s => rw [fr_str] at h; exact h
    | ty n => cases h with
      | pb h hb => cases h
    | node k o xs =>
      rw [fr_node] at h
      cases h with
      | lst hl hx =>
        rw [List.length_map] at hl
        exact .lst hl fun x hx2 => ih (hx _ (List.mem_map.mpr ⟨x, hx2, rfl⟩))
      | tup hl hx =>
        rw [List.length_map] at hl
        exact .tup hl fun x hx2 => ih (hx _ (List.mem_map.mpr ⟨x, hx2, rfl⟩))
      | pb h hb =>
        refine .pb ?_ rfl
        rw [← h, fr_node, fr_node, fr_map]
theorem dueV_fr {d : D} : dueV d.frz = dueV d := by
  cases d with
  | node k o xs =>
    rw [fr_node]
    unfold dueV
    simp only [List.length_map, fb_map, fr_map, ne_eq, List.map_eq_nil_iff]
  | _ => rfl
theorem dueV_eq {d e : D} (h : d.frz = e.frz) : dueV d = dueV e := by rw [← dueV_fr, h, dueV_fr]
/-- what is due is plain -/
theorem dueV_pl {v : D} (hv : Pl 4 v) : ∃ xs, dueV v = .node .tup false xs ∧ xs.length ≤ 1000 ∧ ∀ x ∈ xs, Pl 4 x := by
  have nd : ∀ i : Int, ∀ x ∈ ([.str "node", .int i] : List D), Pl 4 x := fun i x hx => by
    simp only [List.mem_cons, List.not_mem_nil, or_false] at hx
    rcases hx with rfl | rfl
    · exact .str (by decide +kernel)
    · exact .int
  have main : ∀ {k : Kd} {o : Bool} {xs : List D}, (k = .lst ∨ k = .tup) → xs.length ≤ 1000 → (∀ x ∈ xs, Pl 3 x) → ∃ ys, dueV (.node k o xs) = .node .tup false ys ∧ ys.length ≤ 1000 ∧ ∀ x ∈ ys, Pl 4 x := by
    intro k o xs hk hl hx
    by_cases h0 : xs = []
    · subst h0
      refine ⟨[.str "node", .int (-1)], ?_, by simp, nd _⟩
      rcases hk with rfl | rfl <;> rfl
    · rw [due_seq hk h0]
      split
      · refine ⟨_, rfl, by simp, fun x hx => ?_⟩
        simp only [List.mem_cons, List.not_mem_nil, or_false] at hx
        rcases hx with rfl | rfl
        · exact .str (by decide +kernel)
        · exact .int
      · split
        · exact ⟨_, rfl, by simp, nd _⟩
        · refine ⟨_, rfl, by simp, fun x hx2 => ?_⟩
          simp only [List.mem_cons, List.not_mem_nil, or_false] at hx2
          rcases hx2 with rfl | rfl
          · exact .str (by decide +kernel)
          · refine .lst (by rw [List.length_map]; exact hl) fun x hx3 => ?_
            obtain ⟨y, hy, rfl⟩ := List.mem_map.mp hx3
            exact (hx y hy).frz
  cases hv with
  | lst hl hx => exact main (.inl rfl) hl hx
  | tup hl hx => exact main (.inr rfl) hl hx
  | pb hp hb =>
    obtain ⟨o, xs, rfl⟩ := PB_node hp
    exact ⟨_, rfl, by simp, nd _⟩
  | _ => exact ⟨_, rfl, by simp, nd _⟩
theorem frz_tup {d : D} {xs : List D} (h : d.frz = .node .tup false xs) : ∃ o ys, d = .node .tup o ys ∧ ys.map D.frz = xs := by
  cases d with
  | node k o ys =>
    rw [fr_node] at h
    injection h with h1 h2 h3
    exact ⟨o, ys, by rw [h1], h3⟩
  | _ => cases h
/-- what is made is the same as what is due -/
theorem same_due {v d1 d2 : D} {Q : FRes → Prop} (hv : Pl 4 v) (h1 : d1.frz = dueV v) (h2 : d2.frz = dueV v) (h : ∀ d e, Q (.ret (.bl true) [d, e])) : vF (L__law_same 6) [d1, d2] Q := by
  obtain ⟨xs, e, hl, hx⟩ := dueV_pl hv
  rw [e] at h1 h2
  obtain ⟨o, ys, rfl, e1⟩ := frz_tup h1
  obtain ⟨p, zs, rfl, e2⟩ := frz_tup h2
  refine same_ok2 (k := 4) (.inr rfl) (by decide) (e1.trans e2.symm) ?_ ?_ h
  · have := congrArg List.length e1
    rw [List.length_map] at this
    omega
  · intro x hx2
    exact Pl.of_frz (hx _ (by rw [← e1]; exact List.mem_map.mpr ⟨x, hx2, rfl⟩))
end Z

set_option Elab.async false
set_option linter.all false
set_option maxRecDepth 100000
set_option maxHeartbeats 4000000
namespace Z
open PySem PySem.Spec PyProof.Rows L2
theorem same_run : F__law_same.run = L__law_same 6 := rfl
local macro_rules | `(tactic| walk_at "z") => `(tactic| simp only [vM_bind, vM_pure, vM_opt, vM_frz, vM_sq0, vM_sq1, vM_eK, vM_eS, vM_eTup, vM_eLst, vM_eBin, vM_eNeg, vM_eNot, vM_eAnd, vM_eOr, vM_eIf, vM_eCmp, vM_eCmp2, vM_ptN, vM_ptE, vM_eCut, vM_eSub, vM_ePth, vM_aS, vM_aE, vM_callF, vM_eCall, vM_eLen, vM_eIsa, vM_eO, vM_eBf, vM_rR, vM_rO, vM_iE, vM_iR1, vM_iR3, vM_iEn, vM_iZp, vM_tAnd, vM_tOr, vM_tNot, vM_tE, vM_tY, vS_q0, vS_q1, vS_pass, vS_ret0, vS_ret, vS_retS, vS_exp, vS_asg, vS_unp, vS_par, vS_setI, vS_setA, vS_if, vS_for, vS_wh, vS_rs, vS_try, vO_some, vO_map, List.getElem?_cons_zero, List.getElem?_cons_succ, List.set_cons_zero, List.set_cons_succ, bd_int, bd_str, bd_bl, bd_non, bd_node, fr_int, fr_str, fr_bl, fr_non, fr_node, fr_unb, fr_fr, fr_map, sl_fr, bd_fr, all_still, sl_int, sl_str, sl_bl, sl_non, sl_own, sl_shd, wTk, wTk0, wTs, gb0, gb1, gb2, vPth, wayS_eq, wayI_w, wWay_n, wWay_n0, wWay_l, wWay_r, wWay_t, wWay_int, wWay_str, wIx_lit, pt_int, cut_lst, cut_rol, cut_take, cut_drop, cut5_1, cut5_4, true_or, or_true, false_or, or_false, and_self, true_and, and_true, reduceCtorEq, putAt1, mapM1, mapM0, tr_lst, fr_bls, bls_map, ncast, Int.reduceEq, Int.reduceLT, Int.reduceLE, eq_self, decide_true, decide_false, cx_is, cx_isn, cx_in, cx_nin, cx_ne, is_non, is_int, is_bl, is_str, is_node, isn_non, isn_int, isn_bl, isn_str, isn_node, Bool.not_true, Bool.not_false, cd_nil, cut5h1, cut5h2, cut5h3, cut5l2, cut5l3, cut5l4, cut5l5, Int.reduceAdd, co_lt, vM_eMeth, vM_eMethE, ownL_eq, wMe_l, wMe_o, wMe_n, ml_a, ml_p, ml_i, nilB0, nilB1, vM_eRg1, co_ll, co_lr, co_lt, co_tl, co_tr, co_al, co_an, ints_still, setFrzP_w, putAt_nil, sl_lt, sl_le, Nat.reduceLeDiff, it_lst, it_rol, it_tup, fr_ints, bS_eq, bT2, vM_lc, frzAt0, frzAt1, wipeD0, wipeD1, setFrz_w, backD0, backD1, xP_w, wXP_int, setI_w, wSet_lit, xK_eq, xNo_eq, wayN_eq, xS_eq, cx_int, cx_str, cx_bl, cx_non, cx_lst, cx_tup, cx_rol, cd_eq_int, cd_ne_int, cd_lt_int, cd_le_int, cd_gt_int, cd_ge_int, cd_eq_str, cd_ne_str, cd_eq_bl, cd_ne_bl, bin_add, bin_sub, bin_mul_l, bin_mod_l, bin_div_l, bin_10_18, bin_10_30, ln_lst, ln_rol, ln_tup, ks_lst, Nat.reducePow, List.length_map, tr_bl, tr_int, cb_int, cb_abs, cb_min, wA_T, wA_r, wB_T, wB_F, wPO_s, wPO_n, st_ok, wRes, List.cons_append, List.nil_append, List.append_nil, List.all_cons, List.all_nil, Bool.true_and, Bool.and_true, List.map_cons, List.map_nil, List.length_cons, List.length_nil, Nat.reduceAdd, Nat.reduceSub, Nat.reduceLT, Nat.lt_add_left_iff_pos, List.replicate, if_true, Bool.and_self, Option.map, pick1, pick2, pick3, pick4, kp_is_color_0, kp__is_child_0, kp__is_child_1, kp__is_node_0, kp__is_node_1, kp__parents_0, kp_worded_0, kp_Book___init___0, kp_Book___init___1, kp_Book_nodes_0, kp_Book___eq___0, kp_Book___eq___1, kp__law_bag_0, kp__law_draw_0, kp__law_draw_1, kp__law_of_0, kp__law_of_1, kp__law_same_0, kq__law_same_0, kp__law_same_1, kq__law_same_1, kp__law_placed_0, kp__law_placed_1, kp__law_free_0, kp__law_free_1, kp__law_grown_0, kp__law_grown_1, kp__law_shape_0, kp__law_shape_1, kp__law_net_0, kp__law_any_0, kp__law_any_1, kp__law_made_0, kp__law_made_1, kp__law_is_node_0, kp__law_is_node_1, kp__law_due_0, kp__law_bent_0, kp__law_bent_1, kp__law_bent_2, kp__law_bent_3, kp_law_0, isa_is_color_0_non, isa_is_color_0_bl, isa_is_color_0_int, isa_is_color_0_str, isa_is_color_0_lst, isa_is_color_0_rol, isa_is_color_0_tup, isa_is_color_0_oBook, isa__is_child_0_non, isa__is_child_0_bl, isa__is_child_0_int, isa__is_child_0_str, isa__is_child_0_lst, isa__is_child_0_rol, isa__is_child_0_tup, isa__is_child_0_oBook, isa__is_child_1_non, isa__is_child_1_bl, isa__is_child_1_int, isa__is_child_1_str, isa__is_child_1_lst, isa__is_child_1_rol, isa__is_child_1_tup, isa__is_child_1_oBook, isa__is_node_0_non, isa__is_node_0_bl, isa__is_node_0_int, isa__is_node_0_str, isa__is_node_0_lst, isa__is_node_0_rol, isa__is_node_0_tup, isa__is_node_0_oBook, isa__is_node_1_non, isa__is_node_1_bl, isa__is_node_1_int, isa__is_node_1_str, isa__is_node_1_lst, isa__is_node_1_rol, isa__is_node_1_tup, isa__is_node_1_oBook, isa_Book___init___0_non, isa_Book___init___0_bl, isa_Book___init___0_int, isa_Book___init___0_str, isa_Book___init___0_lst, isa_Book___init___0_rol, isa_Book___init___0_tup, isa_Book___init___0_oBook, isa_Book___eq___0_non, isa_Book___eq___0_bl, isa_Book___eq___0_int, isa_Book___eq___0_str, isa_Book___eq___0_lst, isa_Book___eq___0_rol, isa_Book___eq___0_tup, isa_Book___eq___0_oBook, isa__law_same_0_non, isa__law_same_0_bl, isa__law_same_0_int, isa__law_same_0_str, isa__law_same_0_lst, isa__law_same_0_rol, isa__law_same_0_tup, isa__law_same_0_oBook, isa__law_same_1_non, isa__law_same_1_bl, isa__law_same_1_int, isa__law_same_1_str, isa__law_same_1_lst, isa__law_same_1_rol, isa__law_same_1_tup, isa__law_same_1_oBook, isa__law_same_2_non, isa__law_same_2_bl, isa__law_same_2_int, isa__law_same_2_str, isa__law_same_2_lst, isa__law_same_2_rol, isa__law_same_2_tup, isa__law_same_2_oBook, isa__law_same_3_non, isa__law_same_3_bl, isa__law_same_3_int, isa__law_same_3_str, isa__law_same_3_lst, isa__law_same_3_rol, isa__law_same_3_tup, isa__law_same_3_oBook, isa__law_same_4_non, isa__law_same_4_bl, isa__law_same_4_int, isa__law_same_4_str, isa__law_same_4_lst, isa__law_same_4_rol, isa__law_same_4_tup, isa__law_same_4_oBook, isa__law_same_5_non, isa__law_same_5_bl, isa__law_same_5_int, isa__law_same_5_str, isa__law_same_5_lst, isa__law_same_5_rol, isa__law_same_5_tup, isa__law_same_5_oBook, isa__law_is_node_0_non, isa__law_is_node_0_bl, isa__law_is_node_0_int, isa__law_is_node_0_str, isa__law_is_node_0_lst, isa__law_is_node_0_rol, isa__law_is_node_0_tup, isa__law_is_node_0_oBook, isa__law_is_node_1_non, isa__law_is_node_1_bl, isa__law_is_node_1_int, isa__law_is_node_1_str, isa__law_is_node_1_lst, isa__law_is_node_1_rol, isa__law_is_node_1_tup, isa__law_is_node_1_oBook, isa__law_is_node_2_non, isa__law_is_node_2_bl, isa__law_is_node_2_int, isa__law_is_node_2_str, isa__law_is_node_2_lst, isa__law_is_node_2_rol, isa__law_is_node_2_tup, isa__law_is_node_2_oBook, isa__law_is_node_3_non, isa__law_is_node_3_bl, isa__law_is_node_3_int, isa__law_is_node_3_str, isa__law_is_node_3_lst, isa__law_is_node_3_rol, isa__law_is_node_3_tup, isa__law_is_node_3_oBook, isa__law_due_0_non, isa__law_due_0_bl, isa__law_due_0_int, isa__law_due_0_str, isa__law_due_0_lst, isa__law_due_0_rol, isa__law_due_0_tup, isa__law_due_0_oBook, same_run, List.isEmpty_nil, List.isEmpty_cons, vM_xc1, vM_eNew, vM_callC, pickSelf, pickKw, hs_p2, hs_k2, setA_1, setA_2, wayA_1, wayA_2, mo_nodes, fs_nodes])
local macro_rules | `(tactic| walk_at "zs") => `(tactic| simp only [vM_bind, vM_pure, vM_opt, vM_frz, vM_sq0, vM_sq1, vM_eK, vM_eS, vM_eTup, vM_eLst, vM_eBin, vM_eNeg, vM_eNot, vM_eAnd, vM_eOr, vM_eIf, vM_eCmp, vM_eCmp2, vM_ptN, vM_ptE, vM_eCut, vM_eSub, vM_ePth, vM_aS, vM_aE, vM_callF, vM_eCall, vM_eLen, vM_eIsa, vM_eO, vM_eBf, vM_rR, vM_rO, vM_iE, vM_iR1, vM_iR3, vM_iEn, vM_iZp, vM_tAnd, vM_tOr, vM_tNot, vM_tE, vM_tY, vS_q0, vS_q1, vS_pass, vS_ret0, vS_ret, vS_retS, vS_exp, vS_asg, vS_unp, vS_par, vS_setI, vS_setA, vS_if, vS_for, vS_wh, vS_rs, vS_try, vO_some, vO_map, List.getElem?_cons_zero, List.getElem?_cons_succ, List.set_cons_zero, List.set_cons_succ, bd_int, bd_str, bd_bl, bd_non, bd_node, fr_int, fr_str, fr_bl, fr_non, fr_node, fr_unb, fr_fr, fr_map, sl_fr, bd_fr, all_still, sl_int, sl_str, sl_bl, sl_non, sl_own, sl_shd, wTk, wTk0, wTs, gb0, gb1, gb2, vPth, wayS_eq, wayI_w, wWay_n, wWay_n0, wWay_l, wWay_r, wWay_t, wWay_int, wWay_str, wIx_lit, pt_int, cut_lst, cut_rol, cut_take, cut_drop, cut5_1, cut5_4, true_or, or_true, false_or, or_false, and_self, true_and, and_true, reduceCtorEq, putAt1, mapM1, mapM0, tr_lst, fr_bls, bls_map, ncast, Int.reduceEq, Int.reduceLT, Int.reduceLE, eq_self, decide_true, decide_false, cx_is, cx_isn, cx_in, cx_nin, cx_ne, is_non, is_int, is_bl, is_str, is_node, isn_non, isn_int, isn_bl, isn_str, isn_node, Bool.not_true, Bool.not_false, cd_nil, cut5h1, cut5h2, cut5h3, cut5l2, cut5l3, cut5l4, cut5l5, Int.reduceAdd, co_lt, vM_eMeth, vM_eMethE, ownL_eq, wMe_l, wMe_o, wMe_n, ml_a, ml_p, ml_i, nilB0, nilB1, vM_eRg1, co_ll, co_lr, co_lt, co_tl, co_tr, co_al, co_an, ints_still, setFrzP_w, putAt_nil, sl_lt, sl_le, Nat.reduceLeDiff, it_lst, it_rol, it_tup, fr_ints, bS_eq, bT2, vM_lc, frzAt0, frzAt1, wipeD0, wipeD1, setFrz_w, backD0, backD1, xP_w, wXP_int, setI_w, wSet_lit, xK_eq, xNo_eq, wayN_eq, xS_eq, cx_int, cx_str, cx_bl, cx_non, cx_lst, cx_tup, cx_rol, cd_eq_int, cd_ne_int, cd_lt_int, cd_le_int, cd_gt_int, cd_ge_int, cd_eq_str, cd_ne_str, cd_eq_bl, cd_ne_bl, bin_add, bin_sub, bin_mul_l, bin_mod_l, bin_div_l, bin_10_18, bin_10_30, ln_lst, ln_rol, ln_tup, ks_lst, Nat.reducePow, List.length_map, tr_bl, tr_int, cb_int, cb_abs, cb_min, wA_T, wA_r, wB_T, wB_F, wPO_s, wPO_n, st_ok, wRes, List.cons_append, List.nil_append, List.append_nil, List.all_cons, List.all_nil, Bool.true_and, Bool.and_true, List.map_cons, List.map_nil, List.length_cons, List.length_nil, Nat.reduceAdd, Nat.reduceSub, Nat.reduceLT, Nat.lt_add_left_iff_pos, List.replicate, if_true, Bool.and_self, Option.map, pick1, pick2, pick3, pick4, kp_is_color_0, kp__is_child_0, kp__is_child_1, kp__is_node_0, kp__is_node_1, kp__parents_0, kp_worded_0, kp_Book___init___0, kp_Book___init___1, kp_Book_nodes_0, kp_Book___eq___0, kp_Book___eq___1, kp__law_bag_0, kp__law_draw_0, kp__law_draw_1, kp__law_of_0, kp__law_of_1, kp__law_same_0, kq__law_same_0, kp__law_same_1, kq__law_same_1, kp__law_placed_0, kp__law_placed_1, kp__law_free_0, kp__law_free_1, kp__law_grown_0, kp__law_grown_1, kp__law_shape_0, kp__law_shape_1, kp__law_net_0, kp__law_any_0, kp__law_any_1, kp__law_made_0, kp__law_made_1, kp__law_is_node_0, kp__law_is_node_1, kp__law_due_0, kp__law_bent_0, kp__law_bent_1, kp__law_bent_2, kp__law_bent_3, kp_law_0, isa_is_color_0_non, isa_is_color_0_bl, isa_is_color_0_int, isa_is_color_0_str, isa_is_color_0_lst, isa_is_color_0_rol, isa_is_color_0_tup, isa_is_color_0_oBook, isa__is_child_0_non, isa__is_child_0_bl, isa__is_child_0_int, isa__is_child_0_str, isa__is_child_0_lst, isa__is_child_0_rol, isa__is_child_0_tup, isa__is_child_0_oBook, isa__is_child_1_non, isa__is_child_1_bl, isa__is_child_1_int, isa__is_child_1_str, isa__is_child_1_lst, isa__is_child_1_rol, isa__is_child_1_tup, isa__is_child_1_oBook, isa__is_node_0_non, isa__is_node_0_bl, isa__is_node_0_int, isa__is_node_0_str, isa__is_node_0_lst, isa__is_node_0_rol, isa__is_node_0_tup, isa__is_node_0_oBook, isa__is_node_1_non, isa__is_node_1_bl, isa__is_node_1_int, isa__is_node_1_str, isa__is_node_1_lst, isa__is_node_1_rol, isa__is_node_1_tup, isa__is_node_1_oBook, isa_Book___init___0_non, isa_Book___init___0_bl, isa_Book___init___0_int, isa_Book___init___0_str, isa_Book___init___0_lst, isa_Book___init___0_rol, isa_Book___init___0_tup, isa_Book___init___0_oBook, isa_Book___eq___0_non, isa_Book___eq___0_bl, isa_Book___eq___0_int, isa_Book___eq___0_str, isa_Book___eq___0_lst, isa_Book___eq___0_rol, isa_Book___eq___0_tup, isa_Book___eq___0_oBook, isa__law_same_0_non, isa__law_same_0_bl, isa__law_same_0_int, isa__law_same_0_str, isa__law_same_0_lst, isa__law_same_0_rol, isa__law_same_0_tup, isa__law_same_0_oBook, isa__law_same_1_non, isa__law_same_1_bl, isa__law_same_1_int, isa__law_same_1_str, isa__law_same_1_lst, isa__law_same_1_rol, isa__law_same_1_tup, isa__law_same_1_oBook, isa__law_same_2_non, isa__law_same_2_bl, isa__law_same_2_int, isa__law_same_2_str, isa__law_same_2_lst, isa__law_same_2_rol, isa__law_same_2_tup, isa__law_same_2_oBook, isa__law_same_3_non, isa__law_same_3_bl, isa__law_same_3_int, isa__law_same_3_str, isa__law_same_3_lst, isa__law_same_3_rol, isa__law_same_3_tup, isa__law_same_3_oBook, isa__law_same_4_non, isa__law_same_4_bl, isa__law_same_4_int, isa__law_same_4_str, isa__law_same_4_lst, isa__law_same_4_rol, isa__law_same_4_tup, isa__law_same_4_oBook, isa__law_same_5_non, isa__law_same_5_bl, isa__law_same_5_int, isa__law_same_5_str, isa__law_same_5_lst, isa__law_same_5_rol, isa__law_same_5_tup, isa__law_same_5_oBook, isa__law_is_node_0_non, isa__law_is_node_0_bl, isa__law_is_node_0_int, isa__law_is_node_0_str, isa__law_is_node_0_lst, isa__law_is_node_0_rol, isa__law_is_node_0_tup, isa__law_is_node_0_oBook, isa__law_is_node_1_non, isa__law_is_node_1_bl, isa__law_is_node_1_int, isa__law_is_node_1_str, isa__law_is_node_1_lst, isa__law_is_node_1_rol, isa__law_is_node_1_tup, isa__law_is_node_1_oBook, isa__law_is_node_2_non, isa__law_is_node_2_bl, isa__law_is_node_2_int, isa__law_is_node_2_str, isa__law_is_node_2_lst, isa__law_is_node_2_rol, isa__law_is_node_2_tup, isa__law_is_node_2_oBook, isa__law_is_node_3_non, isa__law_is_node_3_bl, isa__law_is_node_3_int, isa__law_is_node_3_str, isa__law_is_node_3_lst, isa__law_is_node_3_rol, isa__law_is_node_3_tup, isa__law_is_node_3_oBook, isa__law_due_0_non, isa__law_due_0_bl, isa__law_due_0_int, isa__law_due_0_str, isa__law_due_0_lst, isa__law_due_0_rol, isa__law_due_0_tup, isa__law_due_0_oBook, same_run, List.isEmpty_nil, List.isEmpty_cons, vM_xc1, vM_eNew, vM_callC, pickSelf, pickKw, hs_p2, hs_k2, setA_1, setA_2, wayA_1, wayA_2, mo_nodes, fs_nodes, *])
local macro_rules | `(tactic| walk_at "pq") => `(tactic| repeat' (first | assumption | exact Pl.up (n := 0) (by assumption) (by decide) | exact Pl.pb PB_fr rfl | exact Pl.non | exact Pl.int | exact Pl.bl | exact Pl.str (by assumption) | exact Pl.str (by decide +kernel) | apply Pl.frz | (refine Pl.lst' ?_ (by simp only [List.length_map, List.length_append, List.length_cons, List.length_nil]; omega)) | (refine Pl.tup' ?_ (by simp only [List.length_map, List.length_append, List.length_cons, List.length_nil]; omega)) | exact Pall.nil | exact ints_pl | apply Pall.map | apply Pall.app | apply Pall.cons))
def PBo : D := .node (.obj "Book" ["_nodes", "_worded"]) true [PBn, .node .lst true [.bl true]]
theorem PBo_fr : PBo.frz = PB := by unfold PBo PB PBn; simp only [fr_node, List.map_cons, List.map_nil, fr_str, fr_int, fr_non, fr_bl]
theorem init_pb : F_Book___init__.run [.node (.obj "Book" []) true [], .node .lst true [.node .tup true [.str "x", .int 0, .non, .non, .non]]] = some (.ret .non [PBo, PBn]) := by kernel_rfl
def LexOk (d : D) : Prop := d.frz = PB ∧ d.bound = true
theorem LexOk.pb : LexOk PB := ⟨PB_fr, rfl⟩
def LexPl {d : D} (h : LexOk d) : Pl 3 d := .pb h.1 h.2
theorem NetS.pl {d : D} (h : NetS d) : Pl 2 d := by
  obtain ⟨o, xs, rfl, _, h2, h3⟩ := h
  exact .lst h2 fun x hx => (h3 x hx).pl
theorem vM_cut {α : Type} {m : M α} {η : List D} {Q : α → List D → Prop} {X : Str → List (Str × D) → List D → Prop} (P : α → List D → Prop) (h1 : vM m η P X) (h2 : ∀ a η1, P a η1 → Q a η1) : vM m η Q X := wM_mono h1 h2 fun _ _ _ h => h
theorem frz_node {d : D} {k : Kd} {o : Bool} {xs : List D} (h : d.frz = (D.node k o xs).frz) : ∃ p ys, d = .node k p ys ∧ ys.map D.frz = xs.map D.frz := by
  rw [fr_node] at h
  cases d with
  | node k o ys =>
    rw [fr_node] at h
    injection h with h1 h2 h3
    exact ⟨o, ys, by rw [h1], h3⟩
  | _ => cases h
theorem pall_of {n : Nat} {xs ys : List D} (h : ys.map D.frz = xs.map D.frz) (hx : Pall n xs) : Pall n ys := fun y hy => by
  have : y.frz ∈ xs.map D.frz := by rw [← h]; exact List.mem_map.mpr ⟨y, hy, rfl⟩
  obtain ⟨x, hx2, e⟩ := List.mem_map.mp this
  exact Pl.of_frz (by rw [← e]; exact (hx x hx2).frz)
theorem len_fz {xs ys : List D} (h : ys.map D.frz = xs.map D.frz) : ys.length = xs.length := by have := congrArg List.length h; simpa using this
theorem pl_seq {n : Nat} {k : Kd} {o : Bool} {xs : List D} (hk : k = .lst ∨ k = .tup) (hl : xs.length ≤ 1000) (hx : Pall n xs) : Pl (n + 1) (.node k o xs) := by
  rcases hk with rfl | rfl
  · exact .lst hl hx
  · exact .tup hl hx
def BentI (S : D) (t : Nat) (on : Bool) (w : Int) (x9 x10 : D) (η : List D) : Prop := ∃ b lex xs x5 ys x8, BagOk b ∧ LexOk lex ∧ 0 < xs.length ∧ xs.length ≤ 1000 ∧ Nall xs ∧ ys.length = xs.length ∧ Pall 3 ys ∧ η = [S, b, lex, .int (t : Nat), .node .lst on xs, x5, .node .lst true ys, .int w, x8, x9, x10]
theorem law_run {ns : List Int} (hn : ns.length ≤ 63) : vF (runC 11 1 P_law S_law) [scriptD ns] (fun r => ∃ ds', r = .ret (.bl true) ds') := by
  refine vF_runC rfl ?_
  unfold S_law
  have sb : (scriptD ns).bound = true := rfl
  have ss : (scriptD ns).still = true := by
    unfold scriptD
    rw [sl_shd]
    exact ints_still
  refine vS_cut (fun η => ∃ b, BagOk b ∧ η = [scriptD ns, b, .unb, .unb, .unb, .unb, .unb, .unb, .unb, .unb, .unb]) ?_ ?_
  · walk_at "zs"
    refine bag_ok hn fun b hb => ?_
    walk_at "z"
    exact ⟨b, hb, rfl⟩
  rintro _ ⟨b, hb, rfl⟩
  refine vS_cut (fun η => ∃ b lex, BagOk b ∧ LexOk lex ∧ η = [scriptD ns, b, lex, .unb, .unb, .unb, .unb, .unb, .unb, .unb, .unb]) ?_ ?_
  · walk_at "z"
    refine wF_of init_pb ?_
    simp only [wNew]
    walk_at "z"
    exact ⟨b, PBo, hb, ⟨PBo_fr, rfl⟩, rfl⟩
  rintro _ ⟨b, lex, hb, hlex, rfl⟩
  walk_at "z"
  rw [rg_1 (by decide) (by decide)]
  walk_at "z"
  refine vO_for_inv (fun t η => ∃ b lex x3 x4 x5 x6 x7 x8 x9 x10, BagOk b ∧ LexOk lex ∧ η = [scriptD ns, b, lex, x3, x4, x5, x6, x7, x8, x9, x10]) ⟨_, _, _, _, _, _, _, _, _, _, hb, hlex, rfl⟩ ?_ ?_
  · rintro t d _ hd ⟨b, lex, x3, x4, x5, x6, x7, x8, x9, x10, hb, hlex, rfl⟩
    have ht := (List.getElem?_eq_some_iff.mp hd).1
    rw [List.length_map, List.length_range] at ht
    rw [List.getElem?_map, List.getElem?_range ht] at hd
    cases hd
    rw [bS_eq, st_ok (by simp)]
    simp only [vO_some, List.set_cons_zero, List.set_cons_succ]
    -- a net
    refine vS_cut (fun η => ∃ b net, BagOk b ∧ NetS net ∧ η = [scriptD ns, b, lex, .int (t : Nat), net, x5, x6, x7, x8, x9, x10]) ?_ ?_
    · have hbd := hb.bd
      have hsl := hb.sl
      walk_at "zs"
      refine net_ok hb fun net hnet b1 hb1 => ?_
      walk_at "z"
      exact ⟨_, _, hb1, hnet, rfl⟩
    rintro _ ⟨b1, net, hb1, hnet, rfl⟩
    refine vS_cut (fun η => ∃ b net x5, BagOk b ∧ NetS net ∧ η = [scriptD ns, b, lex, .int (t : Nat), net, x5, x6, x7, x8, x9, x10]) ?_ ?_
    · have hbd := hb1.bd
      have hsl := hb1.sl
      walk_at "zs"
      refine wB_i (fun e => ?_) (fun e => ?_)
      · walk_at "zs"
        refine of_okP (fun d => ∃ i : Int, d = .int i ∧ 0 < i ∧ i ≤ 1000) hb1 (.inl rfl) (by simp) (by simp) ?_ ?_
        · intro x hx
          simp only [List.mem_cons, List.not_mem_nil, or_false] at hx
          rcases hx with rfl | rfl | rfl | rfl | rfl | rfl | rfl <;> exact ⟨_, fr_int, by decide, by decide⟩
        rintro _ ⟨i, rfl, hi0, hi1⟩ b2 hb2
        walk_at "z"
        rw [rg_1 (by omega) (by omega)]
        walk_at "z"
        refine vO_lc (fun k acc η => ∃ b x5, BagOk b ∧ η = [scriptD ns, b, lex, .int (t : Nat), net, x5, x6, x7, x8, x9, x10] ∧ acc.length = k ∧ Nall acc) ⟨_, _, hb2, rfl, rfl, Nall.nil⟩ (by rw [sl_le]; simp; omega) ?_ ?_
        · rintro k d acc _ hk ⟨b3, x5, hb3, rfl, ha1, ha2⟩
          have hbd3 := hb3.bd
          have hsl3 := hb3.sl
          walk_at "zs"
          refine draw_ok hb3 (by omega) (by omega) fun q b4 hb4 hq0 hq1 => ?_
          walk_at "z"
          exact ⟨_, _, hb4, rfl, by simp [ha1], Nall.app ha2 (Nall.cons ⟨_, _, _, _, _, _, rfl, .str (by decide +kernel), .non, .non, .int, .non⟩ Nall.nil)⟩
        · rintro acc _ ⟨b3, x5, hb3, rfl, ha1, ha2⟩
          rw [List.length_map, List.length_range] at ha1
          walk_at "z"
          exact ⟨_, _, _, hb3, ⟨_, _, rfl, by omega, by omega, ha2⟩, rfl⟩
      · try walk_at "z"
        exact ⟨_, _, _, hb1, hnet, rfl⟩
    rintro _ ⟨b2, net2, x5', hb2, hnet2, rfl⟩
    clear hb hb1 hnet
    obtain ⟨on, xs, rfl, hx0, hx1, hx2⟩ := hnet2
    -- its rows
    refine vS_cut (fun η => ∃ on xs ys, 0 < xs.length ∧ xs.length ≤ 1000 ∧ Nall xs ∧ ys.length = xs.length ∧ Pall 3 ys ∧ η = [scriptD ns, b2, lex, .int (t : Nat), .node .lst on xs, x5', .node .lst true ys, x7, x8, x9, x10]) ?_ ?_
    · walk_at "z"
      refine wB_i (fun e => ?_) (fun e => ?_)
      · walk_at "z"
        exact ⟨_, _, _, hx0, hx1, hx2, rfl, fun x hx => (hx2 x hx).pl.up (by omega), rfl⟩
      · walk_at "z"
        have hm : Nall (xs.map D.frz) := Nall.map hx2
        exact ⟨_, _, _, by rw [List.length_map]; exact hx0, by rw [List.length_map]; exact hx1, hm, rfl, fun x hx => (hm x hx).pl.up (by omega), rfl⟩
    clear hx0 hx1 hx2
    rintro _ ⟨on, xs, ys, hx0, hx1, hx2, hyl, hy, rfl⟩
    -- how many are bent
    refine vS_cut (fun η => ∃ b w, BagOk b ∧ 0 ≤ w ∧ η = [scriptD ns, b, lex, .int (t : Nat), .node .lst on xs, x5', .node .lst true ys, .int w, x8, x9, x10]) ?_ ?_
    · have hbd := hb2.bd
      have hsl := hb2.sl
      walk_at "zs"
      refine of_okP (fun d => ∃ i : Int, d = .int i ∧ 0 ≤ i) hb2 (.inl rfl) (by simp) (by simp) ?_ ?_
      · intro x hx
        simp only [List.mem_cons, List.not_mem_nil, or_false] at hx
        rcases hx with rfl | rfl | rfl | rfl | rfl <;> exact ⟨_, fr_int, by omega⟩
      rintro _ ⟨i, rfl, hi0⟩ b3 hb3
      walk_at "z"
      exact ⟨_, _, hb3, hi0, rfl⟩
    rintro _ ⟨b3, w, hb3, hw, rfl⟩
    -- bent
    refine vS_cut (BentI (scriptD ns) t on w x9 x10) ?_ ?_
    · walk_at "z"
      rw [rg_1 (by split <;> omega) (by split <;> omega)]
      walk_at "z"
      refine vO_for_inv (fun k η => BentI (scriptD ns) t on w x9 x10 η) ⟨_, _, _, _, _, _, hb3, hlex, hx0, hx1, hx2, hyl, hy, rfl⟩ ?_ ?_
      · clear hx0 hx1 hx2 hyl hy hb3 hb2 hlex
        rintro k d _ hk ⟨b4, lex, xs, x5, ys, x8, hb4, hlex, hx0, hx1, hx2, hyl, hy, rfl⟩
        rw [bS_eq, st_ok (by simp)]
        simp only [vO_some, List.set_cons_zero, List.set_cons_succ]
        refine vS_cut (fun η => ∃ (b : D) (s : Int), BagOk b ∧ 0 ≤ s ∧ s < (xs.length : Int) ∧ η = [scriptD ns, b, lex, .int (t : Nat), .node .lst on xs, d, .node .lst true ys, .int w, .int s, x9, x10]) ?_ ?_
        · have hbd := hb4.bd
          have hsl := hb4.sl
          walk_at "zs"
          refine draw_ok hb4 (by omega) (by omega) fun q b5 hb5 hq0 hq1 => ?_
          have hbd5 := hb5.bd
          have hsl5 := hb5.sl
          walk_at "zs"
          refine draw_ok hb5 (by omega) (by omega) fun q2 b6 hb6 hq20 hq21 => ?_
          have hbd6 := hb6.bd
          have hsl6 := hb6.sl
          walk_at "zs"
          refine of_okP (fun d => ∃ i : Int, d = .int i ∧ 0 ≤ i ∧ i < xs.length) hb6 (.inl rfl) (by simp) (by simp) ?_ ?_
          · intro x hx
            simp only [List.mem_cons, List.not_mem_nil, or_false] at hx
            rcases hx with rfl | rfl | rfl | rfl <;> exact ⟨_, fr_int, by omega, by omega⟩
          rintro _ ⟨i, rfl, hi0, hi1⟩ b7 hb7
          walk_at "z"
          exact ⟨_, _, hb7, hi0, hi1, rfl⟩
        rintro _ ⟨b5, s, hb5, hs0, hs1, rfl⟩
        have hsx : s.toNat < xs.length := by omega
        have hget : xs[s.toNat]? = some xs[s.toNat] := List.getElem?_eq_getElem hsx
        have hnode := hx2 _ (List.getElem_mem hsx)
        have hnf : Nall (xs.set s.toNat xs[s.toNat].frz) := fun z hz => by
          rcases List.mem_or_eq_of_mem_set hz with hz | rfl
          · exact hx2 z hz
          · exact hnode.frz
        generalize xs[s.toNat] = y at hget hnode hnf
        obtain ⟨oy, yt, ya, yp, yc, ye, rfl, q1, q2, q3, q4, q5⟩ := hnode
        have hbd5 := hb5.bd
        have hsl5 := hb5.sl
        have hlb := hlex.2
        have fin : ∀ {d' b' lex' x5 x8 : D} {xs' : List D}, Pl 3 d' → BagOk b' → LexOk lex' → xs'.length = xs.length → Nall xs' → BentI (scriptD ns) t on w x9 x10 [scriptD ns, b', lex', .int (t : Nat), .node .lst on xs', x5, .node .lst true (ys.set s.toNat d'), .int w, x8, x9, x10] := fun h1 h2 h3 h4 h5 => ⟨_, _, _, _, _, _, h2, h3, by omega, by omega, h5, by rw [List.length_set]; omega, fun z hz => (List.mem_or_eq_of_mem_set hz).elim (hy z) (fun e => e ▸ h1), rfl⟩
        walk_at "z"
        rw [hbd5]
        walk_at "z"
        rw [wIx_nat hs0 hget]
        walk_at "z"
        refine wB_i (fun es => ?_) (fun es => ?_)
        · walk_at "z"
          rw [hlb]
          walk_at "z"
          rw [hbd5, hsl5]
          walk_at "z"
          rw [hlb]
          walk_at "z"
          refine wB_i (fun el => ?_) (fun el => ?_)
          all_goals
            refine bent_ok hb5 q1 q2 q3 q4 q5 hlex.1 hlex.2 fun d' hd' b' i' lex' hb' hl1 hl2 => ?_
            walk_at "z"
            rw [wSet_int hs0 (by omega) (by simp)]
            walk_at "z"
            first | exact fin hd' hb' ⟨hl1, hl2⟩ rfl hx2 | exact fin hd' hb' hlex rfl hx2
        · walk_at "z"
          rw [hlb]
          walk_at "z"
          rw [hbd5, hsl5]
          walk_at "z"
          rw [hlb]
          walk_at "z"
          refine wB_i (fun el => ?_) (fun el => ?_)
          all_goals
            refine bent_ok hb5 q1.frz q2.frz q3.frz q4.frz q5.frz hlex.1 hlex.2 fun d' hd' b' i' lex' hb' hl1 hl2 => ?_
            walk_at "z"
            rw [wSet_int hs0 (by omega) (by simp)]
            walk_at "z"
            first | exact fin hd' hb' ⟨hl1, hl2⟩ (List.length_set) hnf | exact fin hd' hb' hlex (List.length_set) hnf
      · rintro _ hh
        exact hh
    clear hx0 hx1 hx2 hyl hy hb3 hb2 hlex
    rintro _ ⟨b4, lex, xs, x5, ys, x8, hb4, hlex, hx0, hx1, hx2, hyl, hy, rfl⟩
    -- what is given
    refine vS_cut (fun η => ∃ b kd o6 r6 r9, BagOk b ∧ (kd = Kd.lst ∨ kd = .tup) ∧ r6.map D.frz = r9.map D.frz ∧ r9.length ≤ 1000 ∧ Pall 3 r9 ∧ η = [scriptD ns, b, lex, .int (t : Nat), .node .lst on xs, x5, .node .lst o6 r6, .int w, x8, .node kd true r9, x10]) ?_ ?_
    · have hbd := hb4.bd
      have hsl := hb4.sl
      walk_at "zs"
      refine draw_ok hb4 (by omega) (by omega) fun q b5 hb5 hq0 hq1 => ?_
      walk_at "z"
      refine wB_i (fun e => ?_) (fun e => ?_)
      all_goals
        walk_at "z"
        refine wB_i (fun e2 => ?_) (fun e2 => ?_)
        · walk_at "z"
          first | exact ⟨b5, .tup, _, _, _, hb5, .inr rfl, rfl, by omega, hy, rfl⟩ | exact ⟨b5, .lst, _, _, _, hb5, .inl rfl, rfl, by omega, hy, rfl⟩
        · walk_at "z"
          first | exact ⟨b5, .tup, _, _, _, hb5, .inr rfl, rfl, by rw [List.length_map]; omega, Pall.map hy, rfl⟩ | exact ⟨b5, .lst, _, _, _, hb5, .inl rfl, rfl, by rw [List.length_map]; omega, Pall.map hy, rfl⟩
    rintro _ ⟨b5, kd, o6, r6, r9, hb5, hkd, h69, hr1, hr2, rfl⟩
    have hv : Pl 4 (.node kd true r9) := pl_seq hkd hr1 hr2
    rw [vS_q1, vS_if, vM_tOr, vM_tNot]
    refine vM_cut (fun v η => v = true ∧ ∃ o9 r9', r9'.map D.frz = r9.map D.frz ∧ η = [scriptD ns, b5, lex, .int (t : Nat), .node .lst on xs, x5, .node .lst o6 r6, .int w, x8, .node kd o9 r9', x10]) ?_ ?_
    · walk_at "z"
      refine made_ok hv fun d1 v1 e1 g1 g2 g3 g4 => ?_
      obtain ⟨o1, r1, rfl, hr3⟩ := frz_node g3
      have hv1 : Pl 4 (.node kd o1 r1) := pl_seq hkd (by rw [len_fz hr3]; exact hr1) (pall_of hr3 hr2)
      walk_at "z"
      refine wB_i (fun es => ?_) (fun es => ?_)
      all_goals
        refine due_ok hv1 fun d2 v2 q1 q2 q3 q4 => ?_
        obtain ⟨o2, r2, rfl, hr4⟩ := frz_node q3
        walk_at "z"
        refine same_due hv g1 (q1.trans (dueV_eq g3)) fun _ _ => ?_
        walk_at "z"
        first | exact ⟨_, _, hr3, rfl⟩ | exact ⟨_, _, hr4.trans hr3, rfl⟩
    rintro _ _ ⟨rfl, o9, r9', hr3, rfl⟩
    rw [Bool.not_true, wB_F, vM_tNot]
    have hr9 : Pall 3 r9' := pall_of hr3 hr2
    have hl9 : r9'.length ≤ 1000 := by rw [len_fz hr3]; exact hr1
    have h6 : r9'.map D.frz = r6.map D.frz := hr3.trans h69.symm
    refine vM_cut (fun v η => v = true ∧ ∃ a6 a9, η = [scriptD ns, b5, lex, .int (t : Nat), .node .lst on xs, x5, a6, .int w, x8, a9, x10]) ?_ ?_
    · rcases hkd with rfl | rfl
      all_goals
        walk_at "z"
        refine wB_i (fun es => ?_) (fun es => ?_)
        · walk_at "z"
          refine wB_i (fun es => ?_) (fun es => ?_)
          all_goals
            refine same_ok2 (k := 3) (.inl rfl) (by decide) h6 hl9 hr9 fun _ _ => ?_
            walk_at "z"
            exact ⟨_, _, rfl⟩
        · walk_at "z"
          refine wB_i (fun es => ?_) (fun es => ?_)
          all_goals
            refine same_ok2 (k := 3) (.inl rfl) (by decide) (by rw [fr_map]; exact h6) (by rw [List.length_map]; exact hl9) (Pall.map hr9) fun _ _ => ?_
            walk_at "z"
            exact ⟨_, _, rfl⟩
    rintro _ _ ⟨rfl, a6, a9, rfl⟩
    rw [Bool.not_true, wB_F, vS_q0]
    -- any value
    refine vS_cut (fun η => ∃ b lex net d, BagOk b ∧ LexOk lex ∧ Pl 3 d ∧ η = [scriptD ns, b, lex, .int (t : Nat), net, x5, a6, .int w, x8, a9, d]) ?_ ?_
    · have hbd := hb5.bd
      have hsl := hb5.sl
      have hlb := hlex.2
      have hlf := hlex.1
      have hp : Pl 2 (.node .lst false (xs.map D.frz)) := NetS.pl ⟨_, _, rfl, by rw [List.length_map]; exact hx0, by rw [List.length_map]; exact hx1, Nall.map hx2⟩
      walk_at "zs"
      refine any_ok hb5 (by simp) ?_ fun d hd b6 hb6 ds => ?_
      · walk_at "pq"
      · walk_at "z"
        exact ⟨_, _, _, _, hb6, LexOk.pb, hd, rfl⟩
    rintro _ ⟨b6, lex2, net3, d, hb6, hlex2, hd, rfl⟩
    have hd4 : Pl 4 d := hd.up (by omega)
    have hdb := hd.bd
    rw [vS_q1, vS_if, vM_tNot]
    refine vM_cut (fun v η => v = true ∧ ∃ a10, η = [scriptD ns, b6, lex2, .int (t : Nat), net3, x5, a6, .int w, x8, a9, a10]) ?_ ?_
    · walk_at "z"
      rw [hdb]
      walk_at "z"
      rw [hdb]
      walk_at "z"
      refine wB_i (fun es => ?_) (fun es => ?_)
      all_goals
        try walk_at "z"
        refine made_ok hd4 fun d1 v1 e1 g1 g2 g3 g4 => ?_
        have hv1 : Pl 4 v1 := Pl.of_frz (by rw [g3]; exact hd4.frz)
        walk_at "z"
        first | rw [hdb] | rw [g4]
        walk_at "z"
        first | rw [hdb] | rw [g4]
        walk_at "z"
        refine wB_i (fun es2 => ?_) (fun es2 => ?_)
        all_goals
          try walk_at "z"
          first
          | (refine due_ok hd4 fun d2 v2 q1 q2 q3 q4 => ?_
             walk_at "z"
             refine same_due hd4 g1 q1 fun _ _ => ?_
             walk_at "z"
             exact ⟨_, rfl⟩)
          | (refine due_ok hv1 fun d2 v2 q1 q2 q3 q4 => ?_
             walk_at "z"
             refine same_due hd4 g1 (q1.trans (dueV_eq g3)) fun _ _ => ?_
             walk_at "z"
             exact ⟨_, rfl⟩)
    rintro _ _ ⟨rfl, a10, rfl⟩
    rw [Bool.not_true, wB_F, vS_q0]
    exact ⟨_, _, _, _, _, _, _, _, _, _, hb6, hlex2, rfl⟩
  · rintro _ ⟨b, lex, x3, x4, x5, x6, x7, x8, x9, x10, hb, hlex, rfl⟩
    walk_at "z"
    exact ⟨_, rfl⟩
end Z

set_option Elab.async false
set_option linter.all false
set_option maxRecDepth 100000
set_option maxHeartbeats 0
namespace Z
open PySem PySem.Spec PyProof.Rows L2
def caK (K : PySem.W.Frag) : Ca := { at_ := fun y => He.ga K y }
def INM : List Str := ["InvalidNode", "TooMany", "Book", "list", "tuple", "str", "int", "bool"]
def clI : Cl := ⟨some [("at", 0)], none, [], [], [("InvalidNode", true), ("TooMany", false)], []⟩
def clT : Cl := ⟨some [("count", 0)], none, [], [], [("TooMany", true), ("InvalidNode", false)], []⟩
/-- the table's classes: the two exceptions, Book -/
def CTab (g : Str → Option G) : Prop := ∀ y cl, g y = some (.cls cl) → (y = "InvalidNode" ∧ cl = clI) ∨ (y = "TooMany" ∧ cl = clT) ∨ (y = "Book" ∧ cl.exc = none ∧ ∀ q ∈ cl.isa, q.1 ∈ INM)
theorem CTab.put {g : Str → Option G} {x : Str} {e : G} (h : CTab g) (he : ∀ cl, e = .cls cl → (x = "InvalidNode" ∧ cl = clI) ∨ (x = "TooMany" ∧ cl = clT) ∨ (x = "Book" ∧ cl.exc = none ∧ ∀ q ∈ cl.isa, q.1 ∈ INM)) : CTab (putG g x e) := fun y cl hy => by
  by_cases hyx : y = x
  · subst hyx
    rw [putG_same] at hy
    exact he cl (Option.some.inj hy)
  · rw [putG_ne hyx] at hy
    exact h y cl hy
theorem CTab.no {g : Str → Option G} (h : CTab g) {x : Str} (hx : x ∉ INM) : ∀ y cl b, g y = some (.cls cl) → cl.exc = none → cl.isa.lookup x = some b → (g x).isSome = true := fun y cl b h1 h2 h3 => by
  rcases h y cl h1 with ⟨rfl, rfl⟩ | ⟨rfl, rfl⟩ | ⟨rfl, _, h4⟩
  · cases h2
  · cases h2
  · exact absurd (h4 _ (look_mem h3)) hx
section
variable {P : Program} {w : World} {K : PySem.W.Frag} {mg : Str → Option Value} {h : Heap} {base : Heap} (X : K.In h) (G0 : h.Ns mainGlobals mg) (c : He.SaysX hFa hFn [] [] hEx w h K)
include c
theorem j_exm {g : Str → Option G} (hc : CTab g) : ∀ y z cl cz b, g y = some (.cls cl) → g z = some (.cls cz) → cl.exc.isSome = true → cl.isa.lookup z = some b → PySem.W.exmOne K (.ref ((caK K).at_ y)) (.ref ((caK K).at_ z)) = some b := by
  intro y z cl cz b h1 _ h2 h3
  have hm := look_mem h3
  rcases hc y cl h1 with ⟨rfl, rfl⟩ | ⟨rfl, rfl⟩ | ⟨rfl, h4, _⟩
  · simp only [clI, List.mem_cons, List.not_mem_nil, or_false, Prod.mk.injEq] at hm
    rcases hm with ⟨rfl, rfl⟩ | ⟨rfl, rfl⟩
    · exact He.exm_ok (c.t.d.fact 46 rfl)
    · exact He.exm_ok (c.t.d.fact 49 rfl)
  · simp only [clT, List.mem_cons, List.not_mem_nil, or_false, Prod.mk.injEq] at hm
    rcases hm with ⟨rfl, rfl⟩ | ⟨rfl, rfl⟩
    · exact He.exm_ok (c.t.d.fact 48 rfl)
    · exact He.exm_ok (c.t.d.fact 47 rfl)
  · rw [h4] at h2; cases h2
theorem j_ex : (xiB K (He.ga K "InvalidNode") = true ∧ xiB K (He.ga K "TooMany") = true) ∧ (oexB K (He.ga K "InvalidNode") = true ∧ oexB K (He.ga K "TooMany") = true) ∧ tyB K (He.ga K "Book") = true ∧ (xfB K (He.ga K "InvalidNode") = true ∧ xfB K (He.ga K "TooMany") = true) ∧ isaB K (He.ga K "Book") (fun y => y == "Book") [("Book", true), ("list", false), ("tuple", false), ("str", false), ("int", false), ("bool", false)] = true ∧ notB K (He.ga K "Book") ["NoneType", "bool", "int", "str", "list", "tuple"] = true := by
  have e := c.more
  unfold hEx at e
  simp only [Bool.and_eq_true] at e
  obtain ⟨e1, e2, e3, e4, e5, e6, e7, e8, e9⟩ := e
  exact ⟨⟨e1, e2⟩, ⟨e3, e4⟩, e5, ⟨e6, e7⟩, e8, e9⟩
include X G0 in
theorem j_free : ∀ x, hFree x = true → mg x = none := by
  intro x hx
  unfold hFree at hx
  simp only [Bool.or_eq_true, beq_iff_eq] at hx
  rcases hx with (((((((((((hx | hx) | hx) | hx) | hx) | hx) | hx) | hx) | hx) | hx) | hx) | hx) | hx
  · subst hx; exact He.free_ok X G0 (c.t.d.fact 25 rfl)
  · subst hx; exact He.free_ok X G0 (c.t.d.fact 26 rfl)
  · subst hx; exact He.free_ok X G0 (c.t.d.fact 27 rfl)
  · subst hx; exact He.free_ok X G0 (c.t.d.fact 28 rfl)
  · subst hx; exact He.free_ok X G0 (c.t.d.fact 29 rfl)
  · subst hx; exact He.free_ok X G0 (c.t.d.fact 30 rfl)
  · subst hx; exact He.free_ok X G0 (c.t.d.fact 31 rfl)
  · subst hx; exact He.free_ok X G0 (c.t.d.fact 32 rfl)
  · subst hx; exact He.free_ok X G0 (c.t.d.fact 33 rfl)
  · subst hx; exact He.free_ok X G0 (c.t.d.fact 34 rfl)
  · subst hx; exact He.free_ok X G0 (c.t.d.fact 35 rfl)
  · subst hx; exact He.free_ok X G0 (c.t.d.fact 36 rfl)
  · subst hx; exact He.free_ok X G0 (c.t.d.fact 37 rfl)
omit c in
theorem hcaK : (caK K).B = (fun _ => none) ∧ (caK K).pin = [] := ⟨rfl, rfl⟩
/-- the table so far -/
structure Tb (P : Program) (w : World) (K : PySem.W.Frag) (mg : Str → Option Value) (base : Heap) (k : Nat) (g : Str → Option G) : Prop where
  ok : GOk P w K mg base (caK K) k g hFree
  ct : CTab g
omit c in
theorem Tb.val {k : Nat} {g : Str → Option G} (T : Tb P w K mg base k g) {x : Str} {d : D} (hx : x ∉ INM) (he : EntOk P w K mg base (caK K) k (putG g x (.val d)) x (.val d)) : Tb P w K mg base k (putG g x (.val d)) where
  ok := T.ok.put (Nat.le_refl k) he (T.ct.no hx) fun y z cl cz b h1 h2 h3 h4 => by
    by_cases hy : y = x
    · subst hy; rw [putG_same] at h1; cases h1
    · by_cases hz : z = x
      · subst hz; rw [putG_same] at h2; cases h2
      · rw [putG_ne hy] at h1; rw [putG_ne hz] at h2
        exact T.ok.exm y z cl cz b h1 h2 h3 h4
  ct := T.ct.put fun cl h => by cases h
omit c in
theorem Tb.fn {k k' : Nat} {g : Str → Option G} (T : Tb P w K mg base k g) {x : Str} {f : Fn} {fa : Addr} (hk : k ≤ k') (hx : x ∉ INM) (hm : mg x = some (.ref fa)) (hf : ∀ X, At P w K mg base X → FnFact X (caK K) k' fa f) (hn : ∀ cl, g x ≠ some (.cls cl)) : Tb P w K mg base k' (putG g x (.fn f)) where
  ok := T.ok.putF hk hm hf (T.ct.no hx) hn
  ct := T.ct.put fun cl h => by cases h
omit c in
theorem Tb.cls {k k' : Nat} {g : Str → Option G} (T : Tb P w K mg base k g) {x : Str} {cl : Cl} (hk : k ≤ k') (he : EntOk P w K mg base (caK K) k' (putG g x (.cls cl)) x (.cls cl)) (hs : ∀ y cl b, g y = some (.cls cl) → cl.exc = none → cl.isa.lookup x = some b → (g x).isSome = true) (hc : CTab (putG g x (.cls cl)))
    (hx : ∀ y z cl' cz b, putG g x (.cls cl) y = some (.cls cl') → putG g x (.cls cl) z = some (.cls cz) → cl'.exc.isSome = true → cl'.isa.lookup z = some b → PySem.W.exmOne K (.ref ((caK K).at_ y)) (.ref ((caK K).at_ z)) = some b) : Tb P w K mg base k' (putG g x (.cls cl)) where
  ok := T.ok.put hk he hs hx
  ct := hc
omit c in
theorem fn_eq {C : Cs} {np : Nat} {keep : Nat → Bool} {sh : List Shape} {body : List Stmt} {S : SM} {f : Fn} (hS : ∀ η, evSs C hFuel body η = S η) (hf : f = ⟨np, sh, keep, runC C.N.length np keep S⟩) : fnOf C hFuel np keep sh body = f := by
  rw [hf]
  unfold fnOf
  rw [runC_of hS]
include X G0 in
theorem j_xI {g : Str → Option G} : EntOk P w K mg base (caK K) 2 g "InvalidNode" (.cls clI) := by
  obtain ⟨⟨a1, a2⟩, ⟨a3, a4⟩, a5, ⟨a6, a7⟩, a8, a9⟩ := j_ex c
  have hm : mg "InvalidNode" = some (.ref (He.ga K "InvalidNode")) := He.glo_ok X G0 (c.t.d.fact 5 rfl)
  have hno : PySem.W.findIn K (.ref (He.ga K "InvalidNode")) "at" = some none := He.noat_ok (c.t.d.fact 44 rfl)
  refine ⟨fun f h => (by cases h), fun m f h => (by cases h), fun X hX => ?_, fun fs hfs X hX hr => ?_, fun fs hfs => ?_⟩
  · obtain ⟨rfl, rfl, rfl, rfl, rfl⟩ := hX
    exact clx_fact (fun _ => rfl) hm rfl rfl
  · cases hfs
    obtain ⟨fd, FD⟩ := c.t.d.def_ 5 (d := d_InvalidNode___init__) rfl
    have xi : PySem.W.findIn K (.ref (He.ga K "InvalidNode")) "__init__" = some (some (.ref (He.ma K (He.ga K "InvalidNode") "__init__"))) ∧ PySem.W.typeIn K (.ref (He.ma K (He.ga K "InvalidNode") "__init__")) = some (.type "function") := by
      have e := a1
      unfold xiB at e
      simp only [Bool.and_eq_true, decide_eq_true_eq] at e
      exact e
    have S : FnScope ["self", "at"] ["self", "at"] (defScope s_InvalidNode___init__) := ⟨rfl, rfl, rfl, by decide +kernel, rfl, by decide +kernel, by decide +kernel⟩
    have hb : Binds K fd ["self", "at"] [] := FunD.bindsN FD fun _ _ _ _ _ _ us hl => match us, hl with | [_, _], _ => by kernel_rfl
    exact xc_one (P := P) (w := w) (mg := mg) (base := base) (k := 2) (ca := caK K) rfl (oexB_ok a3) hno FD S ⟨by decide +kernel, by decide +kernel⟩ hb xi.1 xi.2 hm (by decide) X hX hr
  · cases hfs
    refine ⟨xfB_ok a6, fun f hf => ?_⟩
    rw [List.mem_singleton.mp hf]
    exact hno
include X G0 in
theorem j_xT {g : Str → Option G} : EntOk P w K mg base (caK K) 2 g "TooMany" (.cls clT) := by
  obtain ⟨⟨a1, a2⟩, ⟨a3, a4⟩, a5, ⟨a6, a7⟩, a8, a9⟩ := j_ex c
  have hm : mg "TooMany" = some (.ref (He.ga K "TooMany")) := He.glo_ok X G0 (c.t.d.fact 6 rfl)
  have hno : PySem.W.findIn K (.ref (He.ga K "TooMany")) "count" = some none := He.noat_ok (c.t.d.fact 45 rfl)
  refine ⟨fun f h => (by cases h), fun m f h => (by cases h), fun X hX => ?_, fun fs hfs X hX hr => ?_, fun fs hfs => ?_⟩
  · obtain ⟨rfl, rfl, rfl, rfl, rfl⟩ := hX
    exact clx_fact (fun _ => rfl) hm rfl rfl
  · cases hfs
    obtain ⟨fd, FD⟩ := c.t.d.def_ 6 (d := d_TooMany___init__) rfl
    have xi : PySem.W.findIn K (.ref (He.ga K "TooMany")) "__init__" = some (some (.ref (He.ma K (He.ga K "TooMany") "__init__"))) ∧ PySem.W.typeIn K (.ref (He.ma K (He.ga K "TooMany") "__init__")) = some (.type "function") := by
      have e := a2
      unfold xiB at e
      simp only [Bool.and_eq_true, decide_eq_true_eq] at e
      exact e
    have S : FnScope ["self", "count"] ["self", "count"] (defScope s_TooMany___init__) := ⟨rfl, rfl, rfl, by decide +kernel, rfl, by decide +kernel, by decide +kernel⟩
    have hb : Binds K fd ["self", "count"] [] := FunD.bindsN FD fun _ _ _ _ _ _ us hl => match us, hl with | [_, _], _ => by kernel_rfl
    exact xc_one (P := P) (w := w) (mg := mg) (base := base) (k := 2) (ca := caK K) rfl (oexB_ok a4) hno FD S ⟨by decide +kernel, by decide +kernel⟩ hb xi.1 xi.2 hm (by decide) X hX hr
  · cases hfs
    refine ⟨xfB_ok a7, fun f hf => ?_⟩
    rw [List.mem_singleton.mp hf]
    exact hno
include X G0 in
theorem j_g0 : Tb P w K mg base 2 g0 := by
  have T0 : Tb P w K mg base 0 (fun _ => none) := ⟨GOk.nil (j_free X G0 c), fun y cl h => by cases h⟩
  obtain ⟨t1, h1⟩ := He.str_ok X G0 (c.t.d.fact 23 rfl)
  have T1 := T0.val (x := "COLORS") (d := .str "xyz") (by decide +kernel) ⟨rfl, .str "xyz", .str "xyz" t1, h1, ⟨t1, rfl⟩, fun H F => .str .nil⟩
  obtain ⟨t2, h2⟩ := He.int_ok X G0 (c.t.d.fact 24 rfl)
  have T2 := T1.val (x := "_MOST_NODES") (d := .int 200) (by decide +kernel) ⟨rfl, .int 200, .int 200 t2, h2, ⟨t2, rfl⟩, fun H F => .int .nil⟩
  have n2 : ∀ y cl, putG (putG (fun _ => none) "COLORS" (.val (.str "xyz"))) "_MOST_NODES" (.val (.int 200)) y ≠ some (.cls cl) := fun y cl h => by
    unfold putG at h
    split at h
    · cases h
    · split at h <;> cases h
  have c3 : CTab (putG (putG (putG (fun _ => none) "COLORS" (.val (.str "xyz"))) "_MOST_NODES" (.val (.int 200))) "InvalidNode" (.cls clI)) := T2.ct.put fun cl h => by cases h; exact .inl ⟨rfl, rfl⟩
  have T3 := T2.cls (k' := 2) (x := "InvalidNode") (cl := clI) (by omega) (j_xI X G0 c) (fun y cl b h => absurd h (n2 y cl)) c3 (j_exm c c3)
  have c4 : CTab (putG (putG (putG (putG (fun _ => none) "COLORS" (.val (.str "xyz"))) "_MOST_NODES" (.val (.int 200))) "InvalidNode" (.cls clI)) "TooMany" (.cls clT)) := c3.put fun cl h => by cases h; exact .inr (.inl ⟨rfl, rfl⟩)
  exact T3.cls (k' := 2) (x := "TooMany") (cl := clT) (by omega) (j_xT X G0 c) (fun y cl b h h1 h2 => by
    rcases c3 y cl h with ⟨rfl, rfl⟩ | ⟨rfl, rfl⟩ | ⟨rfl, _, _⟩
    · cases h1
    · cases h1
    · exfalso
      rw [putG_ne (by decide +kernel)] at h
      exact n2 _ _ h) c4 (j_exm c c4)
omit c in
theorem no_book {y : Str} {cl : Cl} (h : g0 y = some (.cls cl)) : cl.exc ≠ none := by
  intro hex
  unfold g0 putG at h
  split at h
  · cases h; cases hex
  · split at h
    · cases h; cases hex
    · split at h
      · cases h
      · split at h <;> cases h
omit c in
theorem bookCt {i : Option Fn} {ms : List (Str × Fn)} : ∀ cl, kBook i ms = .cls cl → ("Book" : Str) = "InvalidNode" ∧ cl = clI ∨ ("Book" : Str) = "TooMany" ∧ cl = clT ∨ (("Book" : Str) = "Book" ∧ cl.exc = none ∧ ∀ q ∈ cl.isa, q.1 ∈ INM) := fun cl h => by
  cases h
  exact .inr (.inr ⟨rfl, rfl, show ∀ q ∈ ([("Book", true), ("list", false), ("tuple", false), ("str", false), ("int", false), ("bool", false)] : List (Str × Bool)), q.1 ∈ INM from by decide +kernel⟩)
include X G0 in
theorem j_bookCl {g : Str → Option G} {k : Nat} {i : Option Fn} {ms : List (Str × Fn)} (hg : ∀ q ∈ ([("Book", true), ("list", false), ("tuple", false), ("str", false), ("int", false), ("bool", false)] : List (Str × Bool)), (g q.1).isSome = (q.1 == "Book")) : ∀ Y, At P w K mg base Y → ClFact Y (caK K) g k "Book" ⟨none, i, ["_nodes", "_worded"], ms, [("Book", true), ("list", false), ("tuple", false), ("str", false), ("int", false), ("bool", false)], ["NoneType", "bool", "int", "str", "list", "tuple"]⟩ := by
  rintro Y ⟨rfl, rfl, rfl, rfl, rfl⟩
  obtain ⟨⟨a1, a2⟩, ⟨a3, a4⟩, a5, ⟨a6, a7⟩, a8, a9⟩ := j_ex c
  refine cl_fact (own := fun y => y == "Book") (fun _ => rfl) (He.glo_ok X G0 (c.t.d.fact 7 rfl)) rfl (He.cls_ok (c.t.d.fact 38 rfl)) (fun f hf => ?_) a5 a8 a9 hg
  simp only [List.mem_cons, List.not_mem_nil, or_false] at hf
  rcases hf with rfl | rfl
  · exact He.noat_ok (c.t.d.fact 39 rfl)
  · exact He.noat_ok (c.t.d.fact 40 rfl)
include X G0 in
theorem j_g1 : Tb P w K mg base 2 g1 := by
  have T := j_g0 (P := P) (base := base) X G0 c
  have ct : CTab (putG g0 "Book" (kBook none [])) := T.ct.put bookCt
  refine T.cls (k' := 2) (Nat.le_refl 2) ⟨fun f _ h => (by cases h), fun m f _ h => (by cases h), j_bookCl X G0 c ?_, fun fs h => (by cases h), fun fs h => (by cases h)⟩ (fun y cl b h h1 => absurd h1 (no_book h)) ct (j_exm c ct)
  intro q hq
  simp only [List.mem_cons, List.not_mem_nil, or_false] at hq
  rcases hq with rfl | rfl | rfl | rfl | rfl | rfl <;> kernel_rfl
omit c in
theorem sc_is_color : FnScope (["value"] : List Str) (["value"] : List Str) (defScope s_is_color) := ⟨rfl, rfl, rfl, by decide +kernel, rfl, by decide +kernel, by decide +kernel⟩
include X G0 in
theorem ff_is_color (T : Tb P w K mg base 2 g1) : ∀ Y, At P w K mg base Y → FnFact Y (caK K) 3 (He.fAd K d_is_color.at_) F_is_color := by
  obtain ⟨fd, FD⟩ := c.t.d.def_ 0 (d := d_is_color) rfl
  have hp : ∀ (s : Shared) (us : List Value), us.length = 1 * 1 → BindsTo s fd ⟨us, []⟩ ((["value"] : List Str).zip us) := fun s us hl => FunD.bindsA (ps := (["value"] : List Str)) FD (fun _ _ _ _ _ _ us hl => match us, hl with | [_], _ => by kernel_rfl) s us (by simpa using hl)
  have e := fn_eq (C := C_is_color) (np := 1) (keep := P_is_color) (sh := [plainShape 1]) (body := defBody s_is_color) S_is_color_ok (f := F_is_color) rfl
  rw [← e]
  exact fn_fact (c := C_is_color) (n := hFuel) (ps := (["value"] : List Str)) (keep := P_is_color) hcaK T.ok FD ⟨sc_is_color, by decide +kernel, rfl⟩ (fun i hi => hi) (fun sh hsh => by
    rw [List.mem_singleton.mp hsh]
    exact shape_plain rfl fun s us hl => hp s us (by simpa using hl))
include X G0 in
theorem j_g2 : Tb P w K mg base 3 g2 := by
  have T := j_g1 (P := P) (base := base) X G0 c
  exact T.fn (Nat.le_succ 2) (by decide +kernel) (He.glo_ok X G0 (c.t.d.fact 0 rfl)) (ff_is_color X G0 c T) (fun cl hc => by rw [show g1 "is_color" = none from by kernel_rfl] at hc; cases hc)
omit c in
theorem sc__is_child : FnScope (["value", "count"] : List Str) (["value", "count"] : List Str) (defScope s__is_child) := ⟨rfl, rfl, rfl, by decide +kernel, rfl, by decide +kernel, by decide +kernel⟩
include X G0 in
theorem ff__is_child (T : Tb P w K mg base 3 g2) : ∀ Y, At P w K mg base Y → FnFact Y (caK K) 4 (He.fAd K d__is_child.at_) F__is_child := by
  obtain ⟨fd, FD⟩ := c.t.d.def_ 3 (d := d__is_child) rfl
  have hp : ∀ (s : Shared) (us : List Value), us.length = 1 * 2 → BindsTo s fd ⟨us, []⟩ ((["value", "count"] : List Str).zip us) := fun s us hl => FunD.bindsA (ps := (["value", "count"] : List Str)) FD (fun _ _ _ _ _ _ us hl => match us, hl with | [_, _], _ => by kernel_rfl) s us (by simpa using hl)
  have e := fn_eq (C := C__is_child) (np := 2) (keep := P__is_child) (sh := [plainShape 2]) (body := defBody s__is_child) S__is_child_ok (f := F__is_child) rfl
  rw [← e]
  exact fn_fact (c := C__is_child) (n := hFuel) (ps := (["value", "count"] : List Str)) (keep := P__is_child) hcaK T.ok FD ⟨sc__is_child, by decide +kernel, rfl⟩ (fun i hi => hi) (fun sh hsh => by
    rw [List.mem_singleton.mp hsh]
    exact shape_plain rfl fun s us hl => hp s us (by simpa using hl))
include X G0 in
theorem j_g3 : Tb P w K mg base 4 g3 := by
  have T := j_g2 (P := P) (base := base) X G0 c
  exact T.fn (Nat.le_succ 3) (by decide +kernel) (He.glo_ok X G0 (c.t.d.fact 3 rfl)) (ff__is_child X G0 c T) (fun cl hc => by rw [show g2 "_is_child" = none from by kernel_rfl] at hc; cases hc)
omit c in
theorem sc__is_node : FnScope (["value", "count", "child"] : List Str) (["value", "count"] : List Str) (defScope s__is_node) := ⟨rfl, rfl, rfl, by decide +kernel, rfl, by decide +kernel, by decide +kernel⟩
include X G0 in
theorem ff__is_node (T : Tb P w K mg base 4 g3) : ∀ Y, At P w K mg base Y → FnFact Y (caK K) 5 (He.fAd K d__is_node.at_) F__is_node := by
  obtain ⟨fd, FD⟩ := c.t.d.def_ 4 (d := d__is_node) rfl
  have hp : ∀ (s : Shared) (us : List Value), us.length = 1 * 2 → BindsTo s fd ⟨us, []⟩ ((["value", "count"] : List Str).zip us) := fun s us hl => FunD.bindsA (ps := (["value", "count"] : List Str)) FD (fun _ _ _ _ _ _ us hl => match us, hl with | [_, _], _ => by kernel_rfl) s us (by simpa using hl)
  have e := fn_eq (C := C__is_node) (np := 2) (keep := P__is_node) (sh := [plainShape 2]) (body := defBody s__is_node) S__is_node_ok (f := F__is_node) rfl
  rw [← e]
  exact fn_fact (c := C__is_node) (n := hFuel) (ps := (["value", "count"] : List Str)) (keep := P__is_node) hcaK T.ok FD ⟨sc__is_node, by decide +kernel, rfl⟩ (fun i hi => hi) (fun sh hsh => by
    rw [List.mem_singleton.mp hsh]
    exact shape_plain rfl fun s us hl => hp s us (by simpa using hl))
include X G0 in
theorem j_g4 : Tb P w K mg base 5 g4 := by
  have T := j_g3 (P := P) (base := base) X G0 c
  exact T.fn (Nat.le_succ 4) (by decide +kernel) (He.glo_ok X G0 (c.t.d.fact 4 rfl)) (ff__is_node X G0 c T) (fun cl hc => by rw [show g3 "_is_node" = none from by kernel_rfl] at hc; cases hc)
omit c in
theorem sc__parents : FnScope (["rows", "parents", "_", "at", "row", "child"] : List Str) (["rows"] : List Str) (defScope s__parents) := ⟨rfl, rfl, rfl, by decide +kernel, rfl, by decide +kernel, by decide +kernel⟩
include X G0 in
theorem ff__parents (T : Tb P w K mg base 5 g4) : ∀ Y, At P w K mg base Y → FnFact Y (caK K) 6 (He.fAd K d__parents.at_) F__parents := by
  obtain ⟨fd, FD⟩ := c.t.d.def_ 1 (d := d__parents) rfl
  have hp : ∀ (s : Shared) (us : List Value), us.length = 1 * 1 → BindsTo s fd ⟨us, []⟩ ((["rows"] : List Str).zip us) := fun s us hl => FunD.bindsA (ps := (["rows"] : List Str)) FD (fun _ _ _ _ _ _ us hl => match us, hl with | [_], _ => by kernel_rfl) s us (by simpa using hl)
  have e := fn_eq (C := C__parents) (np := 1) (keep := P__parents) (sh := [plainShape 1]) (body := defBody s__parents) S__parents_ok (f := F__parents) rfl
  rw [← e]
  exact fn_fact (c := C__parents) (n := hFuel) (ps := (["rows"] : List Str)) (keep := P__parents) hcaK T.ok FD ⟨sc__parents, by decide +kernel, rfl⟩ (fun i hi => hi) (fun sh hsh => by
    rw [List.mem_singleton.mp hsh]
    exact shape_plain rfl fun s us hl => hp s us (by simpa using hl))
include X G0 in
theorem j_g5 : Tb P w K mg base 6 g5 := by
  have T := j_g4 (P := P) (base := base) X G0 c
  exact T.fn (Nat.le_succ 5) (by decide +kernel) (He.glo_ok X G0 (c.t.d.fact 1 rfl)) (ff__parents X G0 c T) (fun cl hc => by rw [show g4 "_parents" = none from by kernel_rfl] at hc; cases hc)
omit c in
theorem sc_worded : FnScope (["rows", "parents", "found", "row", "waiting", "at", "parent"] : List Str) (["rows"] : List Str) (defScope s_worded) := ⟨rfl, rfl, rfl, by decide +kernel, rfl, by decide +kernel, by decide +kernel⟩
include X G0 in
theorem ff_worded (T : Tb P w K mg base 6 g5) : ∀ Y, At P w K mg base Y → FnFact Y (caK K) 7 (He.fAd K d_worded.at_) F_worded := by
  obtain ⟨fd, FD⟩ := c.t.d.def_ 2 (d := d_worded) rfl
  have hp : ∀ (s : Shared) (us : List Value), us.length = 1 * 1 → BindsTo s fd ⟨us, []⟩ ((["rows"] : List Str).zip us) := fun s us hl => FunD.bindsA (ps := (["rows"] : List Str)) FD (fun _ _ _ _ _ _ us hl => match us, hl with | [_], _ => by kernel_rfl) s us (by simpa using hl)
  have e := fn_eq (C := C_worded) (np := 1) (keep := P_worded) (sh := [plainShape 1]) (body := defBody s_worded) S_worded_ok (f := F_worded) rfl
  rw [← e]
  exact fn_fact (c := C_worded) (n := hFuel) (ps := (["rows"] : List Str)) (keep := P_worded) hcaK T.ok FD ⟨sc_worded, by decide +kernel, rfl⟩ (fun i hi => hi) (fun sh hsh => by
    rw [List.mem_singleton.mp hsh]
    exact shape_plain rfl fun s us hl => hp s us (by simpa using hl))
include X G0 in
theorem j_g6 : Tb P w K mg base 7 g6 := by
  have T := j_g5 (P := P) (base := base) X G0 c
  exact T.fn (Nat.le_succ 6) (by decide +kernel) (He.glo_ok X G0 (c.t.d.fact 2 rfl)) (ff_worded X G0 c T) (fun cl hc => by rw [show g5 "worded" = none from by kernel_rfl] at hc; cases hc)
omit c in
theorem sc_Book___init__ : FnScope (["self", "nodes", "at", "node"] : List Str) (["self", "nodes"] : List Str) (defScope s_Book___init__) := ⟨rfl, rfl, rfl, by decide +kernel, rfl, by decide +kernel, by decide +kernel⟩
include X G0 in
theorem ff_Book___init__ (T : Tb P w K mg base 7 g6) : ∀ Y, At P w K mg base Y → FnFact Y (caK K) 8 (He.fAd K d_Book___init__.at_) F_Book___init__ := by
  obtain ⟨fd, FD⟩ := c.t.d.def_ 7 (d := d_Book___init__) rfl
  have hp : ∀ (s : Shared) (us : List Value), us.length = 1 * 2 → BindsTo s fd ⟨us, []⟩ ((["self", "nodes"] : List Str).zip us) := fun s us hl => FunD.bindsA (ps := (["self", "nodes"] : List Str)) FD (fun _ _ _ _ _ _ us hl => match us, hl with | [_, _], _ => by kernel_rfl) s us (by simpa using hl)
  have e := fn_eq (C := C_Book___init__) (np := 2) (keep := P_Book___init__) (sh := [plainShape 2, kwShape2 "nodes"]) (body := defBody s_Book___init__) S_Book___init___ok (f := F_Book___init__) rfl
  rw [← e]
  exact fn_fact (c := C_Book___init__) (n := hFuel) (ps := (["self", "nodes"] : List Str)) (keep := P_Book___init__) hcaK T.ok FD ⟨sc_Book___init__, by decide +kernel, rfl⟩ (fun i hi => hi) (fun sh hsh => by
    simp only [List.mem_cons, List.not_mem_nil, or_false] at hsh
    rcases hsh with rfl | rfl
    · exact shape_plain rfl fun s us hl => hp s us (by simpa using hl)
    · exact shape_kw2 fun s u v => by
        obtain ⟨oc, od, dV, kV, doc, pm, an, cdv, ct, osl, rfl, lk, hcd, hD, hK⟩ := FD.ex
        rcases hD with ⟨_, rfl⟩ | ⟨e, _⟩
        · exact .of_eq (by kernel_rfl)
        · exact absurd rfl e)
omit c in
theorem sc_Book_nodes : FnScope (["self"] : List Str) (["self"] : List Str) (defScope s_Book_nodes) := ⟨rfl, rfl, rfl, by decide +kernel, rfl, by decide +kernel, by decide +kernel⟩
include X G0 in
theorem ff_Book_nodes (T : Tb P w K mg base 7 g6) : ∀ Y, At P w K mg base Y → FnFact Y (caK K) 8 (He.fAd K d_Book_nodes.at_) F_Book_nodes := by
  obtain ⟨fd, FD⟩ := c.t.d.def_ 8 (d := d_Book_nodes) rfl
  have hp : ∀ (s : Shared) (us : List Value), us.length = 1 * 1 → BindsTo s fd ⟨us, []⟩ ((["self"] : List Str).zip us) := fun s us hl => FunD.bindsA (ps := (["self"] : List Str)) FD (fun _ _ _ _ _ _ us hl => match us, hl with | [_], _ => by kernel_rfl) s us (by simpa using hl)
  have e := fn_eq (C := C_Book_nodes) (np := 1) (keep := P_Book_nodes) (sh := [plainShape 1]) (body := defBody s_Book_nodes) S_Book_nodes_ok (f := F_Book_nodes) rfl
  rw [← e]
  exact fn_fact (c := C_Book_nodes) (n := hFuel) (ps := (["self"] : List Str)) (keep := P_Book_nodes) hcaK T.ok FD ⟨sc_Book_nodes, by decide +kernel, rfl⟩ (fun i hi => hi) (fun sh hsh => by
    rw [List.mem_singleton.mp hsh]
    exact shape_plain rfl fun s us hl => hp s us (by simpa using hl))
omit c in
theorem sc_Book___eq__ : FnScope (["self", "other"] : List Str) (["self", "other"] : List Str) (defScope s_Book___eq__) := ⟨rfl, rfl, rfl, by decide +kernel, rfl, by decide +kernel, by decide +kernel⟩
include X G0 in
theorem ff_Book___eq__ (T : Tb P w K mg base 7 g6) : ∀ Y, At P w K mg base Y → FnFact Y (caK K) 8 (He.fAd K d_Book___eq__.at_) F_Book___eq__ := by
  obtain ⟨fd, FD⟩ := c.t.d.def_ 9 (d := d_Book___eq__) rfl
  have hp : ∀ (s : Shared) (us : List Value), us.length = 1 * 2 → BindsTo s fd ⟨us, []⟩ ((["self", "other"] : List Str).zip us) := fun s us hl => FunD.bindsA (ps := (["self", "other"] : List Str)) FD (fun _ _ _ _ _ _ us hl => match us, hl with | [_, _], _ => by kernel_rfl) s us (by simpa using hl)
  have e := fn_eq (C := C_Book___eq__) (np := 2) (keep := P_Book___eq__) (sh := [plainShape 2]) (body := defBody s_Book___eq__) S_Book___eq___ok (f := F_Book___eq__) rfl
  rw [← e]
  exact fn_fact (c := C_Book___eq__) (n := hFuel) (ps := (["self", "other"] : List Str)) (keep := P_Book___eq__) hcaK T.ok FD ⟨sc_Book___eq__, by decide +kernel, rfl⟩ (fun i hi => hi) (fun sh hsh => by
    rw [List.mem_singleton.mp hsh]
    exact shape_plain rfl fun s us hl => hp s us (by simpa using hl))
include X G0 in
theorem j_g7 : Tb P w K mg base 9 g7 := by
  have T := j_g6 (P := P) (base := base) X G0 c
  have ct : CTab g7 := T.ct.put bookCt
  refine T.cls (k' := 9) (by omega) ⟨fun f _ h => ?_, fun m f _ h => ?_, j_bookCl X G0 c ?_, fun fs h => (by cases h), fun fs h => (by cases h)⟩ (fun y cl b h h1 h2 => by kernel_rfl) ct (j_exm c ct)
  · cases h
    exact ⟨_, 8, He.mkr_ok (c.t.d.fact 43 rfl), Nat.le_refl _, ff_Book___init__ X G0 c T⟩
  · have hm := look_mem h
    simp only [List.mem_cons, List.not_mem_nil, or_false, Prod.mk.injEq] at hm
    rcases hm with ⟨rfl, rfl⟩ | ⟨rfl, rfl⟩
    · exact ⟨_, He.meth_ok (c.t.d.fact 41 rfl), fun Y hY => (ff_Book_nodes X G0 c T Y hY).mono (by omega)⟩
    · exact ⟨_, He.meth_ok (c.t.d.fact 42 rfl), fun Y hY => (ff_Book___eq__ X G0 c T Y hY).mono (by omega)⟩
  · intro q hq
    simp only [List.mem_cons, List.not_mem_nil, or_false] at hq
    rcases hq with rfl | rfl | rfl | rfl | rfl | rfl <;> kernel_rfl
omit c in
theorem sc__law_bag : FnScope (["_law_script", "_law_mixed", "_law_cell"] : List Str) (["_law_script"] : List Str) (defScope s__law_bag) := ⟨rfl, rfl, rfl, by decide +kernel, rfl, by decide +kernel, by decide +kernel⟩
include X G0 in
theorem ff__law_bag (T : Tb P w K mg base 9 g7) : ∀ Y, At P w K mg base Y → FnFact Y (caK K) 10 (He.fAd K d__law_bag.at_) F__law_bag := by
  obtain ⟨fd, FD⟩ := c.t.d.def_ 10 (d := d__law_bag) rfl
  have hp : ∀ (s : Shared) (us : List Value), us.length = 1 * 1 → BindsTo s fd ⟨us, []⟩ ((["_law_script"] : List Str).zip us) := fun s us hl => FunD.bindsA (ps := (["_law_script"] : List Str)) FD (fun _ _ _ _ _ _ us hl => match us, hl with | [_], _ => by kernel_rfl) s us (by simpa using hl)
  have e := fn_eq (C := C__law_bag) (np := 1) (keep := P__law_bag) (sh := [plainShape 1]) (body := defBody s__law_bag) S__law_bag_ok (f := F__law_bag) rfl
  rw [← e]
  exact fn_fact (c := C__law_bag) (n := hFuel) (ps := (["_law_script"] : List Str)) (keep := P__law_bag) hcaK T.ok FD ⟨sc__law_bag, by decide +kernel, rfl⟩ (fun i hi => hi) (fun sh hsh => by
    rw [List.mem_singleton.mp hsh]
    exact shape_plain rfl fun s us hl => hp s us (by simpa using hl))
include X G0 in
theorem j_g8 : Tb P w K mg base 10 g8 := by
  have T := j_g7 (P := P) (base := base) X G0 c
  exact T.fn (Nat.le_succ 9) (by decide +kernel) (He.glo_ok X G0 (c.t.d.fact 8 rfl)) (ff__law_bag X G0 c T) (fun cl hc => by rw [show g7 "_law_bag" = none from by kernel_rfl] at hc; cases hc)
omit c in
theorem sc__law_draw : FnScope (["_law_bag_here", "_law_top", "_law_cell", "_law_digit", "_law_seed"] : List Str) (["_law_bag_here", "_law_top"] : List Str) (defScope s__law_draw) := ⟨rfl, rfl, rfl, by decide +kernel, rfl, by decide +kernel, by decide +kernel⟩
include X G0 in
theorem ff__law_draw (T : Tb P w K mg base 10 g8) : ∀ Y, At P w K mg base Y → FnFact Y (caK K) 11 (He.fAd K d__law_draw.at_) F__law_draw := by
  obtain ⟨fd, FD⟩ := c.t.d.def_ 11 (d := d__law_draw) rfl
  have hp : ∀ (s : Shared) (us : List Value), us.length = 1 * 2 → BindsTo s fd ⟨us, []⟩ ((["_law_bag_here", "_law_top"] : List Str).zip us) := fun s us hl => FunD.bindsA (ps := (["_law_bag_here", "_law_top"] : List Str)) FD (fun _ _ _ _ _ _ us hl => match us, hl with | [_, _], _ => by kernel_rfl) s us (by simpa using hl)
  have e := fn_eq (C := C__law_draw) (np := 2) (keep := P__law_draw) (sh := [plainShape 2]) (body := defBody s__law_draw) S__law_draw_ok (f := F__law_draw) rfl
  rw [← e]
  exact fn_fact (c := C__law_draw) (n := hFuel) (ps := (["_law_bag_here", "_law_top"] : List Str)) (keep := P__law_draw) hcaK T.ok FD ⟨sc__law_draw, by decide +kernel, rfl⟩ (fun i hi => hi) (fun sh hsh => by
    rw [List.mem_singleton.mp hsh]
    exact shape_plain rfl fun s us hl => hp s us (by simpa using hl))
include X G0 in
theorem j_g9 : Tb P w K mg base 11 g9 := by
  have T := j_g8 (P := P) (base := base) X G0 c
  exact T.fn (Nat.le_succ 10) (by decide +kernel) (He.glo_ok X G0 (c.t.d.fact 9 rfl)) (ff__law_draw X G0 c T) (fun cl hc => by rw [show g8 "_law_draw" = none from by kernel_rfl] at hc; cases hc)
omit c in
theorem sc__law_of : FnScope (["_law_bag_here", "_law_some"] : List Str) (["_law_bag_here", "_law_some"] : List Str) (defScope s__law_of) := ⟨rfl, rfl, rfl, by decide +kernel, rfl, by decide +kernel, by decide +kernel⟩
include X G0 in
theorem ff__law_of (T : Tb P w K mg base 11 g9) : ∀ Y, At P w K mg base Y → FnFact Y (caK K) 12 (He.fAd K d__law_of.at_) F__law_of := by
  obtain ⟨fd, FD⟩ := c.t.d.def_ 12 (d := d__law_of) rfl
  have hp : ∀ (s : Shared) (us : List Value), us.length = 1 * 2 → BindsTo s fd ⟨us, []⟩ ((["_law_bag_here", "_law_some"] : List Str).zip us) := fun s us hl => FunD.bindsA (ps := (["_law_bag_here", "_law_some"] : List Str)) FD (fun _ _ _ _ _ _ us hl => match us, hl with | [_, _], _ => by kernel_rfl) s us (by simpa using hl)
  have e := fn_eq (C := C__law_of) (np := 2) (keep := P__law_of) (sh := [plainShape 2]) (body := defBody s__law_of) S__law_of_ok (f := F__law_of) rfl
  rw [← e]
  exact fn_fact (c := C__law_of) (n := hFuel) (ps := (["_law_bag_here", "_law_some"] : List Str)) (keep := P__law_of) hcaK T.ok FD ⟨sc__law_of, by decide +kernel, rfl⟩ (fun i hi => hi) (fun sh hsh => by
    rw [List.mem_singleton.mp hsh]
    exact shape_plain rfl fun s us hl => hp s us (by simpa using hl))
include X G0 in
theorem j_g10 : Tb P w K mg base 12 g10 := by
  have T := j_g9 (P := P) (base := base) X G0 c
  exact T.fn (Nat.le_succ 11) (by decide +kernel) (He.glo_ok X G0 (c.t.d.fact 10 rfl)) (ff__law_of X G0 c T) (fun cl hc => by rw [show g9 "_law_of" = none from by kernel_rfl] at hc; cases hc)
omit c in
theorem sc__law_same : FnScope (["_law_found", "_law_due_here", "_law_p", "_law_q"] : List Str) (["_law_found", "_law_due_here"] : List Str) (defScope s__law_same) := ⟨rfl, rfl, rfl, by decide +kernel, rfl, by decide +kernel, by decide +kernel⟩
include X G0 in
theorem j_rec : ∀ n : Nat, Tb P w K mg base (12 + n) (putG g10 "_law_same" (.fn (R__law_same (L__law_same n)))) := by
  intro n
  obtain ⟨fd, FD⟩ := c.t.d.def_ 13 (d := d__law_same) rfl
  have hp : ∀ (s : Shared) (us : List Value), us.length = 2 → BindsTo s fd ⟨us, []⟩ ((["_law_found", "_law_due_here"] : List Str).zip us) := fun s us hl => FunD.bindsA (ps := (["_law_found", "_law_due_here"] : List Str)) FD (fun _ _ _ _ _ _ us hl => match us, hl with | [_, _], _ => by kernel_rfl) s us (by simpa using hl)
  have hs : ∀ sh ∈ [plainShape 2], ShapeOk K fd (["_law_found", "_law_due_here"] : List Str) sh := fun sh hsh => by
    rw [List.mem_singleton.mp hsh]
    exact shape_plain rfl fun s us hl => hp s us (by simpa using hl)
  have hm : mg "_law_same" = some (.ref (He.ga K "_law_same")) := He.glo_ok X G0 (c.t.d.fact 11 rfl)
  have T := j_g10 (P := P) (base := base) X G0 c
  have hn : ∀ cl, g10 "_law_same" ≠ some (.cls cl) := fun cl hc => by rw [show g10 "_law_same" = none from by kernel_rfl] at hc; cases hc
  induction n with
  | zero => exact T.fn (Nat.le_refl _) (by decide +kernel) hm (fn_no (ca := caK K) (ps := (["_law_found", "_law_due_here"] : List Str)) FD hs) hn
  | succ n ih =>
    have e := fn_eq (C := C__law_same (L__law_same n)) (np := 2) (keep := P__law_same) (sh := [plainShape 2]) (body := defBody s__law_same) (S__law_same_ok (L__law_same n)) (f := R__law_same (L__law_same (n + 1))) rfl
    refine T.fn (k' := 12 + n + 1) (by omega) (by decide +kernel) hm ?_ hn
    rw [← e]
    exact fn_fact (c := C__law_same (L__law_same n)) (n := hFuel) (ps := (["_law_found", "_law_due_here"] : List Str)) (keep := P__law_same) hcaK ih.ok FD ⟨sc__law_same, show ∀ x ∈ N__law_same, (x == ("__debug__" : Str)) = false ∧ (x == ("__classdict__" : Str)) = false from by decide +kernel, rfl⟩ (fun i hi => hi) hs
include X G0 in
theorem j_g11 : Tb P w K mg base 18 g11 := j_rec X G0 c 6
omit c in
theorem sc__law_placed : FnScope (["_law_bag_here", "_law_kids", "_law_row", "_law_k"] : List Str) (["_law_bag_here", "_law_kids"] : List Str) (defScope s__law_placed) := ⟨rfl, rfl, rfl, by decide +kernel, rfl, by decide +kernel, by decide +kernel⟩
include X G0 in
theorem ff__law_placed (T : Tb P w K mg base 18 g11) : ∀ Y, At P w K mg base Y → FnFact Y (caK K) 19 (He.fAd K d__law_placed.at_) F__law_placed := by
  obtain ⟨fd, FD⟩ := c.t.d.def_ 14 (d := d__law_placed) rfl
  have hp : ∀ (s : Shared) (us : List Value), us.length = 1 * 2 → BindsTo s fd ⟨us, []⟩ ((["_law_bag_here", "_law_kids"] : List Str).zip us) := fun s us hl => FunD.bindsA (ps := (["_law_bag_here", "_law_kids"] : List Str)) FD (fun _ _ _ _ _ _ us hl => match us, hl with | [_, _], _ => by kernel_rfl) s us (by simpa using hl)
  have e := fn_eq (C := C__law_placed) (np := 2) (keep := P__law_placed) (sh := [plainShape 2]) (body := defBody s__law_placed) S__law_placed_ok (f := F__law_placed) rfl
  rw [← e]
  exact fn_fact (c := C__law_placed) (n := hFuel) (ps := (["_law_bag_here", "_law_kids"] : List Str)) (keep := P__law_placed) hcaK T.ok FD ⟨sc__law_placed, by decide +kernel, rfl⟩ (fun i hi => hi) (fun sh hsh => by
    rw [List.mem_singleton.mp hsh]
    exact shape_plain rfl fun s us hl => hp s us (by simpa using hl))
include X G0 in
theorem j_g12 : Tb P w K mg base 19 g12 := by
  have T := j_g11 (P := P) (base := base) X G0 c
  exact T.fn (Nat.le_succ 18) (by decide +kernel) (He.glo_ok X G0 (c.t.d.fact 12 rfl)) (ff__law_placed X G0 c T) (fun cl hc => by rw [show g11 "_law_placed" = none from by kernel_rfl] at hc; cases hc)
omit c in
theorem sc__law_free : FnScope (["_law_bag_here", "_law_hue", "_law_many", "_law_spots", "_law_found", "_law_k", "_law_tint", "_law_kids", "_law_n"] : List Str) (["_law_bag_here", "_law_hue"] : List Str) (defScope s__law_free) := ⟨rfl, rfl, rfl, by decide +kernel, rfl, by decide +kernel, by decide +kernel⟩
include X G0 in
theorem ff__law_free (T : Tb P w K mg base 19 g12) : ∀ Y, At P w K mg base Y → FnFact Y (caK K) 20 (He.fAd K d__law_free.at_) F__law_free := by
  obtain ⟨fd, FD⟩ := c.t.d.def_ 15 (d := d__law_free) rfl
  have hp : ∀ (s : Shared) (us : List Value), us.length = 1 * 2 → BindsTo s fd ⟨us, []⟩ ((["_law_bag_here", "_law_hue"] : List Str).zip us) := fun s us hl => FunD.bindsA (ps := (["_law_bag_here", "_law_hue"] : List Str)) FD (fun _ _ _ _ _ _ us hl => match us, hl with | [_, _], _ => by kernel_rfl) s us (by simpa using hl)
  have e := fn_eq (C := C__law_free) (np := 2) (keep := P__law_free) (sh := [plainShape 2]) (body := defBody s__law_free) S__law_free_ok (f := F__law_free) rfl
  rw [← e]
  exact fn_fact (c := C__law_free) (n := hFuel) (ps := (["_law_bag_here", "_law_hue"] : List Str)) (keep := P__law_free) hcaK T.ok FD ⟨sc__law_free, by decide +kernel, rfl⟩ (fun i hi => hi) (fun sh hsh => by
    rw [List.mem_singleton.mp hsh]
    exact shape_plain rfl fun s us hl => hp s us (by simpa using hl))
include X G0 in
theorem j_g13 : Tb P w K mg base 20 g13 := by
  have T := j_g12 (P := P) (base := base) X G0 c
  exact T.fn (Nat.le_succ 19) (by decide +kernel) (He.glo_ok X G0 (c.t.d.fact 13 rfl)) (ff__law_free X G0 c T) (fun cl hc => by rw [show g12 "_law_free" = none from by kernel_rfl] at hc; cases hc)
omit c in
theorem sc__law_grown : FnScope (["_law_bag_here", "_law_hue", "_law_many", "_law_found", "_law_k", "_law_p", "_law_q", "_law_kids", "_law_tint"] : List Str) (["_law_bag_here", "_law_hue"] : List Str) (defScope s__law_grown) := ⟨rfl, rfl, rfl, by decide +kernel, rfl, by decide +kernel, by decide +kernel⟩
include X G0 in
theorem ff__law_grown (T : Tb P w K mg base 20 g13) : ∀ Y, At P w K mg base Y → FnFact Y (caK K) 21 (He.fAd K d__law_grown.at_) F__law_grown := by
  obtain ⟨fd, FD⟩ := c.t.d.def_ 16 (d := d__law_grown) rfl
  have hp : ∀ (s : Shared) (us : List Value), us.length = 1 * 2 → BindsTo s fd ⟨us, []⟩ ((["_law_bag_here", "_law_hue"] : List Str).zip us) := fun s us hl => FunD.bindsA (ps := (["_law_bag_here", "_law_hue"] : List Str)) FD (fun _ _ _ _ _ _ us hl => match us, hl with | [_, _], _ => by kernel_rfl) s us (by simpa using hl)
  have e := fn_eq (C := C__law_grown) (np := 2) (keep := P__law_grown) (sh := [plainShape 2]) (body := defBody s__law_grown) S__law_grown_ok (f := F__law_grown) rfl
  rw [← e]
  exact fn_fact (c := C__law_grown) (n := hFuel) (ps := (["_law_bag_here", "_law_hue"] : List Str)) (keep := P__law_grown) hcaK T.ok FD ⟨sc__law_grown, by decide +kernel, rfl⟩ (fun i hi => hi) (fun sh hsh => by
    rw [List.mem_singleton.mp hsh]
    exact shape_plain rfl fun s us hl => hp s us (by simpa using hl))
include X G0 in
theorem j_g14 : Tb P w K mg base 21 g14 := by
  have T := j_g13 (P := P) (base := base) X G0 c
  exact T.fn (Nat.le_succ 20) (by decide +kernel) (He.glo_ok X G0 (c.t.d.fact 14 rfl)) (ff__law_grown X G0 c T) (fun cl hc => by rw [show g13 "_law_grown" = none from by kernel_rfl] at hc; cases hc)
omit c in
theorem sc__law_shape : FnScope (["_law_bag_here", "_law_hue", "_law_c", "_law_d", "_law_forms", "_law_tint", "_law_kids"] : List Str) (["_law_bag_here", "_law_hue"] : List Str) (defScope s__law_shape) := ⟨rfl, rfl, rfl, by decide +kernel, rfl, by decide +kernel, by decide +kernel⟩
include X G0 in
theorem ff__law_shape (T : Tb P w K mg base 21 g14) : ∀ Y, At P w K mg base Y → FnFact Y (caK K) 22 (He.fAd K d__law_shape.at_) F__law_shape := by
  obtain ⟨fd, FD⟩ := c.t.d.def_ 17 (d := d__law_shape) rfl
  have hp : ∀ (s : Shared) (us : List Value), us.length = 1 * 2 → BindsTo s fd ⟨us, []⟩ ((["_law_bag_here", "_law_hue"] : List Str).zip us) := fun s us hl => FunD.bindsA (ps := (["_law_bag_here", "_law_hue"] : List Str)) FD (fun _ _ _ _ _ _ us hl => match us, hl with | [_, _], _ => by kernel_rfl) s us (by simpa using hl)
  have e := fn_eq (C := C__law_shape) (np := 2) (keep := P__law_shape) (sh := [plainShape 2]) (body := defBody s__law_shape) S__law_shape_ok (f := F__law_shape) rfl
  rw [← e]
  exact fn_fact (c := C__law_shape) (n := hFuel) (ps := (["_law_bag_here", "_law_hue"] : List Str)) (keep := P__law_shape) hcaK T.ok FD ⟨sc__law_shape, by decide +kernel, rfl⟩ (fun i hi => hi) (fun sh hsh => by
    rw [List.mem_singleton.mp hsh]
    exact shape_plain rfl fun s us hl => hp s us (by simpa using hl))
include X G0 in
theorem j_g15 : Tb P w K mg base 22 g15 := by
  have T := j_g14 (P := P) (base := base) X G0 c
  exact T.fn (Nat.le_succ 21) (by decide +kernel) (He.glo_ok X G0 (c.t.d.fact 15 rfl)) (ff__law_shape X G0 c T) (fun cl hc => by rw [show g14 "_law_shape" = none from by kernel_rfl] at hc; cases hc)
omit c in
theorem sc__law_net : FnScope (["_law_bag_here", "_law_hue", "_law_way"] : List Str) (["_law_bag_here"] : List Str) (defScope s__law_net) := ⟨rfl, rfl, rfl, by decide +kernel, rfl, by decide +kernel, by decide +kernel⟩
include X G0 in
theorem ff__law_net (T : Tb P w K mg base 22 g15) : ∀ Y, At P w K mg base Y → FnFact Y (caK K) 23 (He.fAd K d__law_net.at_) F__law_net := by
  obtain ⟨fd, FD⟩ := c.t.d.def_ 18 (d := d__law_net) rfl
  have hp : ∀ (s : Shared) (us : List Value), us.length = 1 * 1 → BindsTo s fd ⟨us, []⟩ ((["_law_bag_here"] : List Str).zip us) := fun s us hl => FunD.bindsA (ps := (["_law_bag_here"] : List Str)) FD (fun _ _ _ _ _ _ us hl => match us, hl with | [_], _ => by kernel_rfl) s us (by simpa using hl)
  have e := fn_eq (C := C__law_net) (np := 1) (keep := P__law_net) (sh := [plainShape 1]) (body := defBody s__law_net) S__law_net_ok (f := F__law_net) rfl
  rw [← e]
  exact fn_fact (c := C__law_net) (n := hFuel) (ps := (["_law_bag_here"] : List Str)) (keep := P__law_net) hcaK T.ok FD ⟨sc__law_net, by decide +kernel, rfl⟩ (fun i hi => hi) (fun sh hsh => by
    rw [List.mem_singleton.mp hsh]
    exact shape_plain rfl fun s us hl => hp s us (by simpa using hl))
include X G0 in
theorem j_g16 : Tb P w K mg base 23 g16 := by
  have T := j_g15 (P := P) (base := base) X G0 c
  exact T.fn (Nat.le_succ 22) (by decide +kernel) (He.glo_ok X G0 (c.t.d.fact 16 rfl)) (ff__law_net X G0 c T) (fun cl hc => by rw [show g15 "_law_net" = none from by kernel_rfl] at hc; cases hc)
omit c in
theorem sc__law_any : FnScope (["_law_bag_here", "_law_more", "_law_menu"] : List Str) (["_law_bag_here", "_law_more"] : List Str) (defScope s__law_any) := ⟨rfl, rfl, rfl, by decide +kernel, rfl, by decide +kernel, by decide +kernel⟩
include X G0 in
theorem ff__law_any (T : Tb P w K mg base 23 g16) : ∀ Y, At P w K mg base Y → FnFact Y (caK K) 24 (He.fAd K d__law_any.at_) F__law_any := by
  obtain ⟨fd, FD⟩ := c.t.d.def_ 19 (d := d__law_any) rfl
  have hp : ∀ (s : Shared) (us : List Value), us.length = 1 * 2 → BindsTo s fd ⟨us, []⟩ ((["_law_bag_here", "_law_more"] : List Str).zip us) := fun s us hl => FunD.bindsA (ps := (["_law_bag_here", "_law_more"] : List Str)) FD (fun _ _ _ _ _ _ us hl => match us, hl with | [_, _], _ => by kernel_rfl) s us (by simpa using hl)
  have e := fn_eq (C := C__law_any) (np := 2) (keep := P__law_any) (sh := [plainShape 2]) (body := defBody s__law_any) S__law_any_ok (f := F__law_any) rfl
  rw [← e]
  exact fn_fact (c := C__law_any) (n := hFuel) (ps := (["_law_bag_here", "_law_more"] : List Str)) (keep := P__law_any) hcaK T.ok FD ⟨sc__law_any, by decide +kernel, rfl⟩ (fun i hi => hi) (fun sh hsh => by
    rw [List.mem_singleton.mp hsh]
    exact shape_plain rfl fun s us hl => hp s us (by simpa using hl))
include X G0 in
theorem j_g17 : Tb P w K mg base 24 g17 := by
  have T := j_g16 (P := P) (base := base) X G0 c
  exact T.fn (Nat.le_succ 23) (by decide +kernel) (He.glo_ok X G0 (c.t.d.fact 17 rfl)) (ff__law_any X G0 c T) (fun cl hc => by rw [show g16 "_law_any" = none from by kernel_rfl] at hc; cases hc)
omit c in
theorem sc__law_made : FnScope (["_law_v", "_law_named", "e"] : List Str) (["_law_v", "_law_named"] : List Str) (defScope s__law_made) := ⟨rfl, rfl, rfl, by decide +kernel, rfl, by decide +kernel, by decide +kernel⟩
include X G0 in
theorem ff__law_made (T : Tb P w K mg base 24 g17) : ∀ Y, At P w K mg base Y → FnFact Y (caK K) 25 (He.fAd K d__law_made.at_) F__law_made := by
  obtain ⟨fd, FD⟩ := c.t.d.def_ 20 (d := d__law_made) rfl
  have hp : ∀ (s : Shared) (us : List Value), us.length = 1 * 2 → BindsTo s fd ⟨us, []⟩ ((["_law_v", "_law_named"] : List Str).zip us) := fun s us hl => FunD.bindsA (ps := (["_law_v", "_law_named"] : List Str)) FD (fun _ _ _ _ _ _ us hl => match us, hl with | [_, _], _ => by kernel_rfl) s us (by simpa using hl)
  have e := fn_eq (C := C__law_made) (np := 2) (keep := P__law_made) (sh := [plainShape 2]) (body := defBody s__law_made) S__law_made_ok (f := F__law_made) rfl
  rw [← e]
  exact fn_fact (c := C__law_made) (n := hFuel) (ps := (["_law_v", "_law_named"] : List Str)) (keep := P__law_made) hcaK T.ok FD ⟨sc__law_made, by decide +kernel, rfl⟩ (fun i hi => hi) (fun sh hsh => by
    rw [List.mem_singleton.mp hsh]
    exact shape_plain rfl fun s us hl => hp s us (by simpa using hl))
include X G0 in
theorem j_g18 : Tb P w K mg base 25 g18 := by
  have T := j_g17 (P := P) (base := base) X G0 c
  exact T.fn (Nat.le_succ 24) (by decide +kernel) (He.glo_ok X G0 (c.t.d.fact 18 rfl)) (ff__law_made X G0 c T) (fun cl hc => by rw [show g17 "_law_made" = none from by kernel_rfl] at hc; cases hc)
omit c in
theorem sc__law_is_node : FnScope (["_law_v", "_law_many", "_law_kid"] : List Str) (["_law_v", "_law_many"] : List Str) (defScope s__law_is_node) := ⟨rfl, rfl, rfl, by decide +kernel, rfl, by decide +kernel, by decide +kernel⟩
include X G0 in
theorem ff__law_is_node (T : Tb P w K mg base 25 g18) : ∀ Y, At P w K mg base Y → FnFact Y (caK K) 26 (He.fAd K d__law_is_node.at_) F__law_is_node := by
  obtain ⟨fd, FD⟩ := c.t.d.def_ 21 (d := d__law_is_node) rfl
  have hp : ∀ (s : Shared) (us : List Value), us.length = 1 * 2 → BindsTo s fd ⟨us, []⟩ ((["_law_v", "_law_many"] : List Str).zip us) := fun s us hl => FunD.bindsA (ps := (["_law_v", "_law_many"] : List Str)) FD (fun _ _ _ _ _ _ us hl => match us, hl with | [_, _], _ => by kernel_rfl) s us (by simpa using hl)
  have e := fn_eq (C := C__law_is_node) (np := 2) (keep := P__law_is_node) (sh := [plainShape 2]) (body := defBody s__law_is_node) S__law_is_node_ok (f := F__law_is_node) rfl
  rw [← e]
  exact fn_fact (c := C__law_is_node) (n := hFuel) (ps := (["_law_v", "_law_many"] : List Str)) (keep := P__law_is_node) hcaK T.ok FD ⟨sc__law_is_node, by decide +kernel, rfl⟩ (fun i hi => hi) (fun sh hsh => by
    rw [List.mem_singleton.mp hsh]
    exact shape_plain rfl fun s us hl => hp s us (by simpa using hl))
include X G0 in
theorem j_g19 : Tb P w K mg base 26 g19 := by
  have T := j_g18 (P := P) (base := base) X G0 c
  exact T.fn (Nat.le_succ 25) (by decide +kernel) (He.glo_ok X G0 (c.t.d.fact 19 rfl)) (ff__law_is_node X G0 c T) (fun cl hc => by rw [show g18 "_law_is_node" = none from by kernel_rfl] at hc; cases hc)
omit c in
theorem sc__law_due : FnScope (["_law_v", "_law_wrong", "_law_k"] : List Str) (["_law_v"] : List Str) (defScope s__law_due) := ⟨rfl, rfl, rfl, by decide +kernel, rfl, by decide +kernel, by decide +kernel⟩
include X G0 in
theorem ff__law_due (T : Tb P w K mg base 26 g19) : ∀ Y, At P w K mg base Y → FnFact Y (caK K) 27 (He.fAd K d__law_due.at_) F__law_due := by
  obtain ⟨fd, FD⟩ := c.t.d.def_ 22 (d := d__law_due) rfl
  have hp : ∀ (s : Shared) (us : List Value), us.length = 1 * 1 → BindsTo s fd ⟨us, []⟩ ((["_law_v"] : List Str).zip us) := fun s us hl => FunD.bindsA (ps := (["_law_v"] : List Str)) FD (fun _ _ _ _ _ _ us hl => match us, hl with | [_], _ => by kernel_rfl) s us (by simpa using hl)
  have e := fn_eq (C := C__law_due) (np := 1) (keep := P__law_due) (sh := [plainShape 1]) (body := defBody s__law_due) S__law_due_ok (f := F__law_due) rfl
  rw [← e]
  exact fn_fact (c := C__law_due) (n := hFuel) (ps := (["_law_v"] : List Str)) (keep := P__law_due) hcaK T.ok FD ⟨sc__law_due, by decide +kernel, rfl⟩ (fun i hi => hi) (fun sh hsh => by
    rw [List.mem_singleton.mp hsh]
    exact shape_plain rfl fun s us hl => hp s us (by simpa using hl))
include X G0 in
theorem j_g20 : Tb P w K mg base 27 g20 := by
  have T := j_g19 (P := P) (base := base) X G0 c
  exact T.fn (Nat.le_succ 26) (by decide +kernel) (He.glo_ok X G0 (c.t.d.fact 20 rfl)) (ff__law_due X G0 c T) (fun cl hc => by rw [show g19 "_law_due" = none from by kernel_rfl] at hc; cases hc)
omit c in
theorem sc__law_bent : FnScope (["_law_bag_here", "_law_item", "_law_many", "_law_lex", "_law_way", "_law_spot", "_law_kid"] : List Str) (["_law_bag_here", "_law_item", "_law_many", "_law_lex"] : List Str) (defScope s__law_bent) := ⟨rfl, rfl, rfl, by decide +kernel, rfl, by decide +kernel, by decide +kernel⟩
include X G0 in
theorem ff__law_bent (T : Tb P w K mg base 27 g20) : ∀ Y, At P w K mg base Y → FnFact Y (caK K) 28 (He.fAd K d__law_bent.at_) F__law_bent := by
  obtain ⟨fd, FD⟩ := c.t.d.def_ 23 (d := d__law_bent) rfl
  have hp : ∀ (s : Shared) (us : List Value), us.length = 1 * 4 → BindsTo s fd ⟨us, []⟩ ((["_law_bag_here", "_law_item", "_law_many", "_law_lex"] : List Str).zip us) := fun s us hl => FunD.bindsA (ps := (["_law_bag_here", "_law_item", "_law_many", "_law_lex"] : List Str)) FD (fun _ _ _ _ _ _ us hl => match us, hl with | [_, _, _, _], _ => by kernel_rfl) s us (by simpa using hl)
  have e := fn_eq (C := C__law_bent) (np := 4) (keep := P__law_bent) (sh := [plainShape 4]) (body := defBody s__law_bent) S__law_bent_ok (f := F__law_bent) rfl
  rw [← e]
  exact fn_fact (c := C__law_bent) (n := hFuel) (ps := (["_law_bag_here", "_law_item", "_law_many", "_law_lex"] : List Str)) (keep := P__law_bent) hcaK T.ok FD ⟨sc__law_bent, by decide +kernel, rfl⟩ (fun i hi => hi) (fun sh hsh => by
    rw [List.mem_singleton.mp hsh]
    exact shape_plain rfl fun s us hl => hp s us (by simpa using hl))
include X G0 in
theorem j_g21 : Tb P w K mg base 28 g21 := by
  have T := j_g20 (P := P) (base := base) X G0 c
  exact T.fn (Nat.le_succ 27) (by decide +kernel) (He.glo_ok X G0 (c.t.d.fact 21 rfl)) (ff__law_bent X G0 c T) (fun cl hc => by rw [show g20 "_law_bent" = none from by kernel_rfl] at hc; cases hc)
omit c in
theorem sc_law : FnScope (["_law_script", "_law_bag_here", "_law_plain_y", "_law_turn", "_law_net_here", "_law_k", "_law_rows", "_law_ways", "_law_spot", "_law_given", "_law_v"] : List Str) (["_law_script"] : List Str) (defScope s_law) := ⟨rfl, rfl, rfl, by decide +kernel, rfl, by decide +kernel, by decide +kernel⟩
end
theorem j_law {l : PySem.W.OpenLaw} {w : World} {K : PySem.W.Frag} {mg : Str → Option Value} {h : Heap} {fa : Addr} (X : K.In h) (G0 : h.Ns mainGlobals mg) (c : He.SaysX hFa hFn [] [] hEx w h K) (hfa : mg ("law" : Str) = some (.ref fa)) : LamX.LawAtS l w K (L2.CX l.prog w) 29 63 "_law_script" mg fa h := by
  obtain ⟨fd, FD⟩ := c.t.d.def_ 24 (d := d_law) rfl
  have e := hfa.symm.trans (He.glo_ok X G0 (c.t.d.fact 22 rfl))
  cases e
  refine law_at (ca := caK K) (fd := fd) (run := runC 11 1 P_law S_law) hcaK (fun s u => FunD.bindsA (ps := ["_law_script"]) FD (fun _ _ _ _ _ _ us hl => match us, hl with | [_], _ => by kernel_rfl) s [u] rfl) (fun base hK hG => ?_) fun ns hn => ?_
  · have T := j_g21 (P := l.prog) (base := base) X G0 c
    have h1 := def_ok (n := hFuel) (c := C_law) (ps := ["_law_script"]) (keep := P_law) hcaK T.ok FD ⟨sc_law, by decide +kernel, rfl⟩ (fun i hi => hi)
    have e : runF C_law hFuel 1 P_law (defBody s_law) = runC 11 1 P_law S_law := runC_of S_law_ok
    rw [← e]
    exact h1
  · obtain ⟨r, hr, ds', rfl⟩ := wF_get (law_run hn)
    exact ⟨ds', hr⟩
end Z

set_option Elab.async false
set_option linter.all false
set_option maxRecDepth 100000
set_option maxHeartbeats 0
open PySem PySem.W PySem.Calls PyProof.Rows
theorem PySem.Challenge.cw_lexiconlines_k03_books_refused_holds : PySem.Challenge.rw_lexiconlines_k03_books_refused.Holds := by
  w_on; o_law
  refine HandSHeadRun.head_any (r := OpenLaw.row PySem.Challenge.rw_lexiconlines_k03_books_refused) (q := view (OpenLaw.row PySem.Challenge.rw_lexiconlines_k03_books_refused).prog [Z.hPlace]) (H := Z.hHk) (ob := Z.hOb) (M := 4000) (loose := Z.hLoose) (d := HandSHeadRun.topDef (OpenLaw.row PySem.Challenge.rw_lexiconlines_k03_books_refused).prog Z.hPlace) (kwd := []) Z.hOb_eq
    (by kernel_rfl) (fun s => by kernel_rfl) Z.hRun (by kernel_rfl) (by kernel_rfl) (by kernel_rfl) (by rfl) (by first | assumption | decide +kernel) (by decide +kernel) ⟨rfl, rfl, rfl, rfl, rfl, by decide +kernel⟩ ?hw ?hc
  case hw => w_witness2
  case hc =>
    refine LamX.walk_ofTsE (l := PySem.Challenge.rw_lexiconlines_k03_books_refused) (n := 63) (k := 29) (x := "_law_script") (CX := fun w => L2.CX (PySem.Challenge.rw_lexiconlines_k03_books_refused).prog w) rfl (by decide) (by kernel_rfl) ⟨rfl, by decide, by decide⟩ ?F (fun _ _ _ _ _ z => Z.cx_no z)
    intro w mg fa h Y G hmg0
    obtain ⟨K, KX, c⟩ := Y
    have hmg : mg ("law" : PySem.Str) = some (.ref fa) := by
      have e : (HandSHeadRun.topDef (OpenLaw.row PySem.Challenge.rw_lexiconlines_k03_books_refused).prog Z.hPlace).name = ("law" : PySem.Str) := by kernel_rfl
      rw [← e]
      exact hmg0
    exact ⟨K, KX, Z.j_law KX G c hmg⟩
