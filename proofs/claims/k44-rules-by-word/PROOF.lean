import PyProof.Rows.All
import Wide.All
import OpenK.AllK
import Wide.FinOn
import HandS.ForMost
import HandS.WideBits
import HandS.RaiseMore
import HandS.IsInst
import HandS.TryOnly
import HandS.Exc
import HandS.Evl
import PySem.Challenge.RW_planstore_k44_rules_by_word
set_option Elab.async false
set_option linter.all false
set_option maxRecDepth 100000
set_option maxHeartbeats 40000000
/-! ### the state of a def: blocks of objects that are ours, over a frame that stands still -/
namespace Z
open PySem L2
structure Hs (L : List (Addr × HO)) (F H : Hp) : Prop where
  nd : (L.map (·.1)).Nodup
  own : ∀ p o, (p, o) ∈ L → H p = some o ∧ F p = none
  fr : ∀ b o, F b = some o → H b = some o
/-- every cell of the block stands -/
def Sees (b : List (Addr × HO)) (H : Hp) : Prop := ∀ p o, (p, o) ∈ b → H p = some o
theorem Sees.same {b : List (Addr × HO)} {H H' : Hp} (s : Sees b H) (e : Same H H') : Sees b H' := fun p o m => e p o (s p o m)
theorem Sees.at {b : List (Addr × HO)} {H : Hp} (s : Sees b H) (i : Nat) {p : Addr} {o : HO} (h : b[i]? = some (p, o)) : H p = some o := s p o (List.mem_of_getElem? h)
section
variable {L L1 L2 : List (Addr × HO)} {F H H' : Hp} {p : Addr} {o o' : HO}
theorem Hs.same (S : Hs L F H) : Same F H := S.fr
theorem Hs.sees (S : Hs L F H) : Sees L H := fun p o m => (S.own p o m).1
theorem Hs.at (S : Hs L F H) (i : Nat) (h : L[i]? = some (p, o)) : H p = some o := S.sees.at i h
theorem Hs.nil : Hs [] H H := ⟨List.nodup_nil, fun _ _ m => (nomatch m), fun _ _ e => e⟩
theorem Hs.ext (S : Hs L F H) (e : Same H H') : Hs L F H' := ⟨S.nd, fun p o m => ⟨e p o (S.own p o m).1, (S.own p o m).2⟩, fun b o q => e b o (S.fr b o q)⟩
theorem Hs.fresh (S : Hs L F H) (hp : H p = none) : p ∉ L.map (·.1) ∧ F p = none := by
  refine ⟨fun m => ?_, ?_⟩
  · obtain ⟨⟨q, u⟩, m, e⟩ := List.mem_map.mp m
    have h := (S.own q u m).1
    have e' : q = p := e
    rw [e', hp] at h
    cases h
  · cases h : F p with
    | none => rfl
    | some u => rw [S.fr p u h] at hp; cases hp
theorem same_new (hp : H p = none) : Same H (upd H p o) := fun b u e => by rw [upd_ne (ne_of_none e hp)]; exact e
theorem Hs.add (S : Hs L F H) (e : Same H H') (hp : H p = none) (h : H' p = some o) : Hs ((p, o) :: L) F H' := by
  obtain ⟨h1, h2⟩ := S.fresh hp
  refine ⟨List.nodup_cons.mpr ⟨h1, S.nd⟩, fun q u m => ?_, fun b u q => e b u (S.fr b u q)⟩
  rcases List.mem_cons.mp m with m | m
  · cases m
    exact ⟨h, h2⟩
  · exact ⟨e q u (S.own q u m).1, (S.own q u m).2⟩
theorem Hs.new (S : Hs L F H) (hp : H p = none) : Hs ((p, o) :: L) F (upd H p o) := S.add (same_new hp) hp upd_same
theorem Hs.head (S : Hs ((p, o) :: L) F H) (o' : HO) : Hs ((p, o') :: L) F (upd H p o') := by
  have nd := S.nd
  rw [List.map_cons, List.nodup_cons] at nd
  refine ⟨by rw [List.map_cons, List.nodup_cons]; exact nd, fun q u m => ?_, fun b u q => ?_⟩
  · rcases List.mem_cons.mp m with m | m
    · cases m
      exact ⟨upd_same, (S.own p o List.mem_cons_self).2⟩
    · have hne : q ≠ p := fun e => nd.1 (List.mem_map.mpr ⟨(q, u), m, e⟩)
      have h := S.own q u (List.mem_cons_of_mem _ m)
      exact ⟨by rw [upd_ne hne]; exact h.1, h.2⟩
  · have hne : b ≠ p := fun e => by
      have := (S.own p o List.mem_cons_self).2
      rw [e, this] at q
      cases q
    rw [upd_ne hne]
    exact S.fr b u q
theorem Hs.perm (S : Hs L F H) (e : L.Perm L1) : Hs L1 F H := ⟨(e.map _).nodup_iff.mp S.nd, fun p o m => S.own p o (e.mem_iff.mpr m), S.fr⟩
theorem set_perm : ∀ {L : List (Addr × HO)} {i : Nat} {x : Addr × HO}, L[i]? = some x → ∀ y, (L.set i y).Perm (y :: L.eraseIdx i)
  | [], i, x, h, y => by simp at h
  | a :: r, 0, x, h, y => List.Perm.refl _
  | a :: r, i + 1, x, h, y => by
    have ih := set_perm (L := r) (i := i) (x := x) (by simpa using h) y
    exact (List.Perm.cons a ih).trans (List.Perm.swap _ _ _)
theorem self_perm {L : List (Addr × HO)} {i : Nat} {x : Addr × HO} (h : L[i]? = some x) : L.Perm (x :: L.eraseIdx i) := by
  have e := set_perm h x
  have : L.set i x = L := by
    obtain ⟨h1, h2⟩ := List.getElem?_eq_some_iff.mp h
    rw [← h2]
    exact List.set_getElem_self h1
  rw [this] at e
  exact e
theorem Hs.set (S : Hs L F H) (i : Nat) (h : L[i]? = some (p, o)) (o' : HO) : Hs (L.set i (p, o')) F (upd H p o') :=
  ((S.perm (self_perm h)).head o').perm (set_perm h (p, o')).symm
theorem Hs.sub (S : Hs L F H) (e : L1.Sublist L) : Hs L1 F H := ⟨(e.map _).nodup S.nd, fun p o m => S.own p o (e.subset m), S.fr⟩
/-- some cells, by their places, in any order -/
theorem Hs.pick (S : Hs L F H) : ∀ (is : List Nat) {L' : List (Addr × HO)}, is.Nodup → is.map (fun i => L[i]?) = L'.map some → Hs L' F H
  | is, L', hn, h => by
    have mem : ∀ x ∈ L', ∃ i ∈ is, L[i]? = some x := fun x hx => by
      have : some x ∈ is.map (fun i => L[i]?) := by rw [h]; exact List.mem_map.mpr ⟨x, hx, rfl⟩
      obtain ⟨i, hi, e⟩ := List.mem_map.mp this
      exact ⟨i, hi, e⟩
    refine ⟨?_, fun p o m => ?_, S.fr⟩
    · clear mem
      induction is generalizing L' with
      | nil =>
        cases L' with
        | nil => exact List.nodup_nil
        | cons a r => cases h
      | cons i is ih =>
        cases L' with
        | nil => cases h
        | cons a r =>
          rw [List.map_cons, List.map_cons, List.cons.injEq] at h
          obtain ⟨h1, h2⟩ := h
          rw [List.nodup_cons] at hn
          rw [List.map_cons, List.nodup_cons]
          refine ⟨fun m => ?_, ih r hn.2 h2⟩
          obtain ⟨b, hb, e⟩ := List.mem_map.mp m
          have : some b ∈ is.map (fun i => L[i]?) := by rw [h2]; exact List.mem_map.mpr ⟨b, hb, rfl⟩
          obtain ⟨j, hj, e2⟩ := List.mem_map.mp this
          have f1 : (L.map (·.1))[i]? = some a.1 := by rw [List.getElem?_map, h1]; rfl
          have f2 : (L.map (·.1))[j]? = some b.1 := by rw [List.getElem?_map]; show Option.map _ (L[j]?) = _; rw [e2]; rfl
          rw [e] at f2
          have : i = j := nd_ix S.nd f1 f2
          rw [this] at hn
          exact hn.1 hj
    · obtain ⟨i, _, e⟩ := mem _ m
      exact S.own p o (List.mem_of_getElem? e)
/-- what stands beside L1 goes into the frame, and comes back behind -/
theorem Hs.split (S : Hs (L1 ++ L2) F H) : ∃ F', Hs L1 F' H ∧ (Same F F' ∧ Sees L2 F') ∧ ∀ L' H', Hs L' F' H' → Hs (L' ++ L2) F H' := by
  have nd := S.nd
  rw [List.map_append, List.nodup_append] at nd
  obtain ⟨n1, n2, n3⟩ := nd
  have key : ∀ p o, (p, o) ∈ L2 → List.lookup p L2 = some o := by
    clear S n3
    induction L2 with
    | nil => intro p o m; cases m
    | cons a r ih =>
      intro p o m
      rw [List.map_cons, List.nodup_cons] at n2
      obtain ⟨q, u⟩ := a
      rcases List.mem_cons.mp m with m | m
      · cases m
        simp [List.lookup]
      · have hne : p ≠ q := fun e => n2.1 (List.mem_map.mpr ⟨(p, o), m, e⟩)
        have hb : (p == q) = false := by simpa using hne
        simp only [List.lookup, hb]
        exact ih n2.2 p o m
  have back : ∀ p o, List.lookup p L2 = some o → (p, o) ∈ L2 := by
    clear S n3 n2 key
    induction L2 with
    | nil => intro p o m; cases m
    | cons a r ih =>
      intro p o m
      obtain ⟨q, u⟩ := a
      by_cases e : p = q
      · subst e
        simp [List.lookup] at m
        subst m
        exact List.mem_cons_self
      · have hb : (p == q) = false := by simpa using e
        simp only [List.lookup, hb] at m
        exact List.mem_cons_of_mem _ (ih p o m)
  refine ⟨fun b => (List.lookup b L2).or (F b), ⟨n1, fun p o m => ⟨(S.own p o (List.mem_append_left _ m)).1, ?_⟩, fun b o q => ?_⟩, ⟨fun b o q => ?_, fun p o m => by simp [key p o m]⟩, fun L' H' S' => ⟨?_, fun p o m => ?_, fun b o q => ?_⟩⟩
  · cases h : List.lookup p L2 with
    | none => exact (S.own p o (List.mem_append_left _ m)).2
    | some u => exact absurd rfl (n3 p (List.mem_map.mpr ⟨_, m, rfl⟩) p (List.mem_map.mpr ⟨_, back p u h, rfl⟩))
  · cases h : List.lookup b L2 with
    | none =>
      have q' : F b = some o := by simpa [h] using q
      exact S.fr b o q'
    | some u =>
      have q' : u = o := by simpa [h] using q
      subst q'
      exact (S.own b u (List.mem_append_right _ (back b u h))).1
  · show (List.lookup b L2).or (F b) = some o
    cases h : List.lookup b L2 with
    | none => exact q
    | some u => rw [(S.own b u (List.mem_append_right _ (back b u h))).2] at q; cases q
  · rw [List.map_append, List.nodup_append]
    refine ⟨S'.nd, n2, fun a ha b hb e => ?_⟩
    subst e
    obtain ⟨⟨q, u⟩, m, rfl⟩ := List.mem_map.mp ha
    obtain ⟨⟨q', u'⟩, m', e⟩ := List.mem_map.mp hb
    have e' : q' = q := e
    subst e'
    have h := (S'.own _ u m).2
    simp [key _ u' m'] at h
  · rcases List.mem_append.mp m with m | m
    · obtain ⟨h1, h2⟩ := S'.own p o m
      refine ⟨h1, ?_⟩
      cases h : List.lookup p L2 with
      | none => simpa [h] using h2
      | some u => simp [h] at h2
    · exact ⟨S'.fr p o (by simp [key p o m]), (S.own p o (List.mem_append_right _ m)).2⟩
  · refine S'.fr b o ?_
    show (List.lookup b L2).or (F b) = some o
    cases h : List.lookup b L2 with
    | none => exact q
    | some u => rw [(S.own b u (List.mem_append_right _ (back b u h))).2] at q; cases q
theorem flat_perm : ∀ {Ls : List (List (Addr × HO))} {i : Nat} {b : List (Addr × HO)}, Ls[i]? = some b → ∀ c, (Ls.set i c).flatten.Perm (c ++ (Ls.eraseIdx i).flatten)
  | [], i, b, h, c => by simp at h
  | a :: r, 0, b, h, c => List.Perm.refl _
  | a :: r, i + 1, b, h, c => by
    have ih := flat_perm (Ls := r) (i := i) (b := b) (by simpa using h) c
    show (a ++ (r.set i c).flatten).Perm (c ++ (a ++ (r.eraseIdx i).flatten))
    refine (List.Perm.append_left a ih).trans ?_
    rw [← List.append_assoc, ← List.append_assoc]
    exact List.Perm.append_right _ List.perm_append_comm
theorem set_self {α : Type} {Ls : List α} {i : Nat} {b : α} (h : Ls[i]? = some b) : Ls.set i b = Ls := by
  obtain ⟨h1, h2⟩ := List.getElem?_eq_some_iff.mp h
  rw [← h2]
  exact List.set_getElem_self h1
/-- the i-th block taken out, changed, put back -/
theorem Hs.block {Ls : List (List (Addr × HO))} (S : Hs Ls.flatten F H) (i : Nat) {b : List (Addr × HO)} (h : Ls[i]? = some b) :
    ∃ F', Hs b F' H ∧ (Same F F' ∧ Sees (Ls.eraseIdx i).flatten F') ∧ ∀ c H', Hs c F' H' → Hs (Ls.set i c).flatten F H' := by
  have p := flat_perm h b
  rw [set_self h] at p
  obtain ⟨F', S', sm, k⟩ := (S.perm p).split
  exact ⟨F', S', sm, fun c H' q => (k c H' q).perm (flat_perm h c).symm⟩
/-- another block in the stead of the i-th -/
theorem Hs.swap {Ls : List (List (Addr × HO))} {c : List (Addr × HO)} (S : Hs (c ++ Ls.flatten) F H) (i : Nat) {b : List (Addr × HO)} (h : Ls[i]? = some b) : Hs (Ls.set i c).flatten F H := by
  have p := flat_perm h b
  rw [set_self h] at p
  have S1 : Hs (c ++ (b ++ (Ls.eraseIdx i).flatten)) F H := S.perm (List.Perm.append_left c p)
  exact (S1.sub (List.Sublist.append_left (List.sublist_append_right _ _) c)).perm (flat_perm h c).symm
theorem Hs.join {new : List (Addr × HO)} (N : Hs new H H') (S : Hs L F H) : Hs (new ++ L) F H' := by
  refine ⟨?_, fun p o m => ?_, fun b o q => N.fr b o (S.fr b o q)⟩
  · rw [List.map_append, List.nodup_append]
    refine ⟨N.nd, S.nd, fun a ha b hb e => ?_⟩
    subst e
    obtain ⟨⟨q, u⟩, m, rfl⟩ := List.mem_map.mp ha
    obtain ⟨⟨q', u'⟩, m', e⟩ := List.mem_map.mp hb
    have e' : q' = q := e
    subst e'
    have h1 := (N.own _ u m).2
    rw [(S.own _ u' m').1] at h1
    cases h1
  · rcases List.mem_append.mp m with m | m
    · obtain ⟨h1, h2⟩ := N.own p o m
      refine ⟨h1, ?_⟩
      cases h : F p with
      | none => rfl
      | some u => rw [S.fr p u h] at h2; cases h2
    · obtain ⟨h1, h2⟩ := S.own p o m
      exact ⟨N.fr p o h1, h2⟩
theorem Hs.base {F0 : Hp} (S : Hs L F H) (e : Same F0 F) : Hs L F0 H := ⟨S.nd, fun p o m => ⟨(S.own p o m).1, e.free (S.own p o m).2⟩, fun b o q => S.fr b o (e b o q)⟩
/-- all else into the frame -/
theorem Hs.all (S : Hs L F H) : ∃ F', Hs L F' H ∧ (∀ b o, b ∉ L.map (·.1) → H b = some o → F' b = some o) ∧ Same F F' := by
  refine ⟨fun b => if b ∈ L.map (·.1) then none else H b, ⟨S.nd, fun p o m => ⟨(S.own p o m).1, if_pos (List.mem_map.mpr ⟨_, m, rfl⟩)⟩, fun b o q => ?_⟩, fun b o h q => (if_neg h).trans q, fun b o q => ?_⟩
  · by_cases h : b ∈ L.map (·.1)
    · rw [if_pos h] at q; cases q
    · rwa [if_neg h] at q
  · have h : b ∉ L.map (·.1) := fun h => by
      obtain ⟨⟨p, u⟩, m, e⟩ := List.mem_map.mp h
      have e' : p = b := e
      rw [← e', (S.own p u m).2] at q
      cases q
    exact (if_neg h).trans (S.fr b o q)
theorem Hs.blk {Ls : List (List (Addr × HO))} (S : Hs Ls.flatten F H) (i : Nat) {b : List (Addr × HO)} (h : Ls[i]? = some b) : Sees b H := fun p o m =>
  (S.own p o (List.mem_flatten.mpr ⟨b, List.mem_of_getElem? h, m⟩)).1
end
end Z
/-! ### readings, one word a construct -/
namespace Z
open PySem L2
/-- one of several readings, chosen where it is asked -/
def tEx {ι : Type} (p : ι → Prop) (t : ι → TE) : TE := fun σ H Q => ∃ i, p i ∧ t i σ H Q
/-- C(), no __init__ but object's -/
def tMakeO (C : Addr) : TE := fun _ H Q => ∀ a dx, H a = none → H dx = none → dx ≠ a → Q (.ref a) (upd (upd H dx (.own a)) a (.ins C dx []))
/-- a slice's part that may be None -/
def tPartN (t : TE) : TO := fun σ H Q => t σ H fun x H1 => (x = .non ∧ Q none H1) ∨ ∃ i, x = .int i ∧ Q (some i) H1
section
variable {σ : L2.St} {H : Hp} {Q : VK} {QB : Bool → Hp → Prop} {D : Ends} {t1 t2 ts tu : TS} {te ta tb tv tx : TE} {tt t u : TT} {v x y : V} {i : Nat} {K : PySem.W.Frag} {R : List V → Hp → Prop} {tA tr : TA}
theorem seq (h : t1 { D with nx := t2 D } σ H) : tSeq t1 t2 D σ H := h
theorem next (h : D.nx σ H) : tNext D σ H := h
theorem var (h : σ[i]? = some (some v)) (k : Q v H) : tVar i σ H Q := ⟨v, h, k⟩
theorem con (k : Q v H) : tC v σ H Q := k
theorem asg (h : te σ H fun x H1 => D.nx (σ.set i (some x)) H1) : tAsg te (gName i) D σ H := h
theorem drop (h : te σ H fun _ H1 => D.nx σ H1) : tDrop te D σ H := h
theorem ret (h : te σ H D.rt) : tRet te D σ H := h
theorem retN (h : D.rt .non H) : tRetN D σ H := h
theorem ifS (h : tt σ H fun b H1 => if b = true then t1 D σ H1 else t2 D σ H1) : tIfS tt t1 t2 D σ H := h
theorem op {r : R2} (h : ta σ H fun x H1 => tb σ H1 fun y H2 => r x y H2 Q) : tOp r ta tb σ H Q := h
theorem un {r : V → Hp → VK → Prop} (h : ta σ H fun x H1 => r x H1 Q) : tUn r ta σ H Q := h
theorem i0 {g : Int → Int → V} {a b : Int} (k : Q (g a b) H) : rI0 g (.int a) (.int b) H Q := ⟨a, b, rfl, rfl, k⟩
theorem ic {C : Int → Int → Prop} {g : Int → Int → V} {a b : Int} (c : C a b) (k : Q (g a b) H) : rI C g (.int a) (.int b) H Q := ⟨a, b, rfl, rfl, c, k⟩
theorem eqS (h : scal x y = true) (k : Q (.bl (decide (x = y))) H) : rEq x y H Q := ⟨h, k⟩
theorem neS (h : scal x y = true) (k : Q (.bl (!decide (x = y))) H) : rNe x y H Q := ⟨h, k⟩
theorem test {b : Bool} (h : te σ H fun x H' => ∃ k, x = .bl k ∧ QB k H') : tTest te σ H QB := h
theorem tstB {b : Bool} (k : QB b H) : ∃ k, (V.bl b) = .bl k ∧ QB k H := ⟨b, rfl, k⟩
theorem bB (h : te σ H fun x H1 => ∃ c, x = .bl c ∧ QB c H1) : tB te σ H QB := h
theorem andT (h : t σ H fun c H1 => if c = true then u σ H1 QB else QB false H1) : tAnd t u σ H QB := h
theorem orT (h : t σ H fun c H1 => if c = true then QB true H1 else u σ H1 QB) : tOr t u σ H QB := h
theorem notT (h : t σ H fun c H1 => QB (!c) H1) : tNot t σ H QB := h
theorem andV (h : ta σ H fun x H1 => ∃ c, x = .bl c ∧ if c = true then tb σ H1 Q else Q (.bl false) H1) : tAndV ta tb σ H Q := h
theorem orV (h : ta σ H fun x H1 => ∃ c, x = .bl c ∧ if c = true then Q (.bl true) H1 else tb σ H1 Q) : tOrV ta tb σ H Q := h
theorem notV (h : ta σ H fun x H1 => ∃ c, x = .bl c ∧ Q (.bl (!c)) H1) : tNotV ta σ H Q := h
theorem ifE (h : tt σ H fun c H1 => if c = true then ta σ H1 Q else tb σ H1 Q) : tIf tt ta tb σ H Q := h
theorem blE {b : Bool} {P : Bool → Prop} (k : P b) : ∃ c, (V.bl b) = .bl c ∧ P c := ⟨b, rfl, k⟩
theorem nil (k : R [] H) : tNil σ H R := k
theorem cons (h : ta σ H fun x H1 => tr σ H1 fun xs H2 => R (x :: xs) H2) : tCons ta tr σ H R := h
theorem fld {f : Str} (h : ta σ H fun x H1 => ∃ a C dx fs v, x = .ref a ∧ H1 a = some (.ins C dx fs) ∧ Cls K C ∧ NoAttr K C f ∧ fs.lookup f = some v ∧ Q v H1) : tFld K ta f σ H Q := h
theorem fldE {a C dx : Addr} {fs : List (Str × V)} {f : Str} {R : V → Prop} (ho : H a = some (.ins C dx fs)) (c : Cls K C) (n : NoAttr K C f) (l : fs.lookup f = some v) (k : R v) :
    ∃ a' C dx fs v, (V.ref a) = .ref a' ∧ H a' = some (.ins C dx fs) ∧ Cls K C ∧ NoAttr K C f ∧ fs.lookup f = some v ∧ R v := ⟨a, C, dx, fs, v, rfl, ho, c, n, l, k⟩
theorem sfld {f : Str} (h : tv σ H fun y H1 => ta σ H1 fun x H2 => ∃ a C dx fs, x = .ref a ∧ H2 a = some (.ins C dx fs) ∧ Cls K C ∧ NoAttr K C f ∧ fs.length < 1000 ∧ D.nx σ (upd H2 a (.ins C dx (putF f y fs)))) : sFld K ta tv f D σ H := h
theorem sfldE {a C dx : Addr} {fs : List (Str × V)} {f : Str} {R : Addr → Addr → Addr → List (Str × V) → Prop} (ho : H a = some (.ins C dx fs)) (c : Cls K C) (n : NoAttr K C f) (l : fs.length < 1000) (k : R a C dx fs) :
    ∃ a' C dx fs, (V.ref a) = .ref a' ∧ H a' = some (.ins C dx fs) ∧ Cls K C ∧ NoAttr K C f ∧ fs.length < 1000 ∧ R a' C dx fs := ⟨a, C, dx, fs, rfl, ho, c, n, l, k⟩
theorem aug {f : Str} {rd : V → V → Hp → VK → Prop} (h : ta σ H fun x H1 => ∃ a C dx fs v, x = .ref a ∧ H1 a = some (.ins C dx fs) ∧ Cls K C ∧ NoAttr K C f ∧ fs.lookup f = some v ∧
    tv σ H1 fun y H2 => rd v y H2 fun z H3 => ∃ dx' fs', H3 a = some (.ins C dx' fs') ∧ fs'.length < 1000 ∧ D.nx σ (upd H3 a (.ins C dx' (putF f z fs')))) : sFldAug K ta tv rd f D σ H := h
theorem augE {a C dx : Addr} {fs : List (Str × V)} {R : Addr → List (Str × V) → Prop} (ho : H a = some (.ins C dx fs)) (l : fs.length < 1000) (k : R dx fs) :
    ∃ dx fs, H a = some (.ins C dx fs) ∧ fs.length < 1000 ∧ R dx fs := ⟨dx, fs, ho, l, k⟩
theorem augV {a C dx : Addr} {fs : List (Str × V)} {f : Str} {R : Addr → Addr → V → Prop} (ho : H a = some (.ins C dx fs)) (c : Cls K C) (n : NoAttr K C f) (l : fs.lookup f = some v) (k : R a C v) :
    ∃ a' C dx fs v, (V.ref a) = .ref a' ∧ H a' = some (.ins C dx fs) ∧ Cls K C ∧ NoAttr K C f ∧ fs.lookup f = some v ∧ R a' C v := ⟨a, C, dx, fs, v, rfl, ho, c, n, l, k⟩
theorem rAddE {a b : Int} {R : V → Hp → Prop} (k : R (.int (a + b)) H) : rAdd (.int a) (.int b) H R := ⟨a, b, rfl, rfl, k⟩
theorem isN {P : Prop} (k : P) : (V.non = .non) ∧ P := ⟨rfl, k⟩
theorem lstE {vs : List V} (hz : vs.length ≤ 1000) (k : ∀ p, H p = none → Q (.ref p) (upd H p (.lst vs))) : vs.length ≤ sizeLine ∧ ∀ p, H p = none → Q (.ref p) (upd H p (.lst vs)) := ⟨Nat.le_trans hz (by decide), k⟩
theorem lst (h : tA σ H fun xs H1 => xs.length ≤ sizeLine ∧ ∀ p, H1 p = none → Q (.ref p) (upd H1 p (.lst xs))) : tLst tA σ H Q := h
theorem tup (h : tA σ H fun xs H1 => xs.length ≤ sizeLine ∧ ∀ p, H1 p = none → Q (.ref p) (upd H1 p (.tup xs))) : tTup tA σ H Q := h
theorem call {sp : Sp} {E : XK} (h : tA σ H fun vs H1 => sp (vs ++ []) H1 Q E) : tCall sp [] E tA σ H Q := h
theorem iteD {p A B : Prop} [Decidable p] (h1 : p → A) (h2 : ¬ p → B) : if decide p = true then A else B := by
  by_cases h : p
  · rw [if_pos (decide_eq_true h)]; exact h1 h
  · rw [if_neg (by rw [decide_eq_false h]; exact Bool.false_ne_true)]; exact h2 h
theorem iteN {p A B : Prop} [Decidable p] (h1 : ¬ p → A) (h2 : p → B) : if (!decide p) = true then A else B := by
  by_cases h : p
  · rw [if_neg (by rw [decide_eq_true h]; exact Bool.false_ne_true)]; exact h2 h
  · rw [if_pos (by rw [decide_eq_false h]; rfl)]; exact h1 h
theorem setLE {p : Addr} {xs : List V} {i : Nat} {v : V} {R : Hp → Prop} (ho : H p = some (.lst xs)) (hi : i < xs.length) (k : R (upd H p (.lst (xs.set i v)))) : rSetL (.ref p) (.int i) v H R :=
  ⟨p, xs, i, i, rfl, rfl, ho, by unfold ixN; rw [if_pos (by omega), if_pos (by omega)]; simp, k⟩
theorem m0 {r : V → List V → Hp → VK → Prop} (h : ta σ H fun x H1 => (∃ a, x = .str a) ∧ r x [] H1 Q) : tM0 r ta σ H Q := h
theorem m1 {r : V → List V → Hp → VK → Prop} (h : ta σ H fun x H1 => (∃ a, x = .str a) ∧ te σ H1 fun y H2 => r x [y] H2 Q) : tM1 r ta te σ H Q := h
theorem lenSeq {p : Addr} {xs : List V} {R : List V → Prop} (h : SqL K H p xs) (k : R xs) : ∃ q ys, [V.ref p] = [.ref q] ∧ (SqL K H q ys ∨ SqT K H q ys) ∧ R ys := ⟨p, xs, rfl, .inl h, k⟩
theorem ixAll {p : Addr} {xs : List V} {z : Int} {G : V → Prop} (h : SqL K H p xs) (h0 : 0 ≤ z) (h1 : z < xs.length) (hp : ∀ x ∈ xs, G x) (k : ∀ v, G v → xs[z.toNat]? = some v → Q v H) : rIxL K (.ref p) (.int z) H Q := by
  have hz : z.toNat < xs.length := by omega
  have e : xs[z.toNat]? = some xs[z.toNat] := List.getElem?_eq_getElem hz
  refine ⟨p, xs, z, xs[z.toNat], rfl, rfl, h, ?_, k _ (hp _ (List.getElem_mem hz)) e⟩
  have e2 := atI_nat e
  have e3 : ((z.toNat : Nat) : Int) = z := by omega
  rwa [e3] at e2
theorem ixL {p : Addr} {xs : List V} {i : Nat} {v : V} (h : SqL K H p xs) (e : xs[i]? = some v) (k : Q v H) : rIxL K (.ref p) (.int i) H Q := ⟨p, xs, i, v, rfl, rfl, h, atI_nat e, k⟩
theorem iteTd {b : Bool} {A B : Prop} (h : b = true) (k : A) : if b = true then A else B := by rw [if_pos h]; exact k
theorem iteFd {b : Bool} {A B : Prop} (h : b = false) (k : B) : if b = true then A else B := by rw [if_neg (by rw [h]; exact Bool.false_ne_true)]; exact k
theorem gcons {t : TG} {u : TGs} {v : V} {r : List V} {R : L2.St → Hp → Prop} (h : t v σ H fun σ' H' => u r σ' H' R) : gCons t u (v :: r) σ H R := ⟨v, r, rfl, h⟩
theorem gnil {R : L2.St → Hp → Prop} (k : R σ H) : gNil [] σ H R := ⟨rfl, k⟩
theorem gname {v : V} {R : L2.St → Hp → Prop} (k : R (σ.set i (some v)) H) : gName i v σ H R := k
theorem partN {R : Option Int → Hp → Prop} (h : te σ H fun x H1 => (x = .non ∧ R none H1) ∨ ∃ i, x = .int i ∧ R (some i) H1) : tPartN te σ H R := h
theorem forR1 {g : TG} (h : tA σ H fun vs H1 => ∃ j : Int, vs = [.int j] ∧ -(2 ^ 62) ≤ j ∧ j < 2 ^ 62 ∧ ∃ W : Nat → Nat → L2.St → Hp → Prop, (∃ m, W 0 m σ H1) ∧ ∀ i m σ H, W i m σ H →
      ((Itr 0 j.toNat).stop i H ∧ D.nx σ H) ∨ ((Itr 0 j.toNat).go i H ∧ ∃ N : L2.St → Hp → Prop, (∀ σ' H', N σ' H' → ∃ m', m' < m ∧ W (i + 1) m' σ' H') ∧ ∀ x H', (Itr 0 j.toNat).yld i H x H' → g x σ H' fun σ2 H2 => ts { D with nx := N, ct := N, bk := D.nx } σ2 H2)) :
    tFor (iRng1 tA) g ts D σ H := h
theorem forL {tl : TE} {g : TG} (h : tl σ H fun x H1 => ∃ a, x = .ref a ∧ (∃ xs, SqL K H1 a xs) ∧ ∃ W : Nat → Nat → L2.St → Hp → Prop, (∃ m, W 0 m σ H1) ∧ ∀ i m σ H, W i m σ H →
      ((Itl K a).stop i H ∧ D.nx σ H) ∨ ((Itl K a).go i H ∧ ∃ N : L2.St → Hp → Prop, (∀ σ' H', N σ' H' → ∃ m', m' < m ∧ W (i + 1) m' σ' H') ∧ ∀ x H', (Itl K a).yld i H x H' → g x σ H' fun σ2 H2 => ts { D with nx := N, ct := N, bk := D.nx } σ2 H2)) :
    tFor (iList K tl) g ts D σ H := h
theorem rng {n : Nat} {P : Nat → Prop} (hn : n ≤ 100000) (k : P n) : ∃ j : Int, [V.int (n : Int)] = [.int j] ∧ -(2 ^ 62) ≤ j ∧ j < 2 ^ 62 ∧ P j.toNat := ⟨n, rfl, by omega, by omega, by rw [Int.toNat_natCast]; exact k⟩
theorem cut {M : L2.St → Hp → Prop} (h : tu { D with nx := M } σ H) (k : ∀ σ' H', M σ' H' → ts D σ' H') : Evl.tCut tu ts D σ H := ⟨M, h, k⟩
theorem meth {C : Addr} {m : Str} {sp : Sp} {dvs : List V} {E : XK} (h : ta σ H fun x H1 => ∃ a dx fs, x = .ref a ∧ H1 a = some (.ins C dx fs) ∧ fs.lookup m = none ∧ tA σ H1 fun vs H2 => sp (x :: (vs ++ dvs)) H2 Q E) : tMeth C m sp dvs E ta tA σ H Q := h
theorem methE {C a dx : Addr} {fs : List (Str × V)} {m : Str} {P : Prop} (ho : H a = some (.ins C dx fs)) (l : fs.lookup m = none) (k : P) :
    ∃ a' dx fs, (V.ref a) = .ref a' ∧ H a' = some (.ins C dx fs) ∧ fs.lookup m = none ∧ P := ⟨a, dx, fs, rfl, ho, l, k⟩
theorem make {C : Addr} {sp : Sp} {dvs : List V} {E : XK} (h : tA σ H fun vs H1 => ∀ x dx, H1 x = none → H1 dx = none → dx ≠ x →
    sp (.ref x :: (vs ++ dvs)) (upd (upd H1 dx (.own x)) x (.ins C dx [])) (fun v H2 => v = .non ∧ Q (.ref x) H2) E) : tMake C sp dvs E tA σ H Q := h
theorem makeO {C : Addr} (h : ∀ a dx, H a = none → H dx = none → dx ≠ a → Q (.ref a) (upd (upd H dx (.own a)) a (.ins C dx []))) : tMakeO C σ H Q := h
theorem mkO {L : List (Addr × HO)} {F : Hp} {a dx C : Addr} (S : Hs L F H) (h1 : H a = none) (h2 : H dx = none) (h3 : dx ≠ a) : Hs ((a, .ins C dx []) :: L) F (upd (upd H dx (.own a)) a (.ins C dx [])) :=
  (S.ext (same_new h2)).new (by rw [upd_ne (Ne.symm h3)]; exact h1)
theorem sl {r : V → Option Int → Option Int → Hp → VK → Prop} {tl th : TO} (h : te σ H fun x H1 => tl σ H1 fun l H2 => th σ H2 fun u H3 => r x l u H3 Q) : tSl r te tl th σ H Q := h
theorem noPart {R : Option Int → Hp → Prop} (k : R none H) : tNoPart σ H R := k
theorem part {R : Option Int → Hp → Prop} (h : te σ H fun x H1 => ∃ i, x = .int i ∧ R (some i) H1) : tPart te σ H R := h
theorem partE {i : Int} {P : Int → Prop} (k : P i) : ∃ j, (V.int i) = .int j ∧ P j := ⟨i, rfl, k⟩
theorem slS {z : Str} {lo hi : Option Int} (hz : z.length ≤ 10000) (k : Q (.str (cutS z lo hi)) H) : rSlS (.str z) lo hi H Q := ⟨z, rfl, Nat.le_trans hz (by decide), k⟩
theorem bm {T : String} {r : V → List V → Hp → VK → Prop} (h : ta σ H fun x H1 => tyV K T x H1 ∧ tA σ H1 fun xs H2 => r x xs H2 Q) : tBM K T r ta tA σ H Q := h
theorem bm0 {T : String} {r : V → List V → Hp → VK → Prop} (h : ta σ H fun x H1 => tyV K T x H1 ∧ r x [] H1 Q) : tBM0 K T r ta σ H Q := h
theorem asgG {g : TG} (h : te σ H fun x H1 => g x σ H1 D.nx) : tAsg te g D σ H := h
theorem gsub {to ti : TE} {t : TSet} {v : V} {R : L2.St → Hp → Prop} (h : to σ H fun o H1 => ti σ H1 fun i H2 => t o i v H2 fun H3 => R σ H3) : gSub to ti t v σ H R := h
theorem dget {td ty : TE} (h : td σ H fun x H1 => ty σ H1 fun y H2 => ∃ a v, x = .ref a ∧ DGet H2 a y (some v) ∧ Q v H2) : tDGet td ty σ H Q := h
theorem dgetE {a : Addr} {kvs : List (Key × V)} {k : Key} {v : V} {R : V → Prop} (ho : H a = some (.dK kvs)) (e : valV kvs k = some v) (q : R v) : ∃ a' v, (V.ref a) = .ref a' ∧ DGet H a' (kV k) (some v) ∧ R v := ⟨a, v, rfl, e ▸ DGet.k ho, q⟩
theorem dgetS {a : Addr} {kvs : List (Key × V)} {k : Str} {v : V} {R : V → Prop} (ho : H a = some (.dK kvs)) (e : valV kvs (Sum.inr k) = some v) (q : R v) : ∃ a' v, (V.ref a) = .ref a' ∧ DGet H a' (.str k) (some v) ∧ R v := ⟨a, v, rfl, e ▸ DGet.k (k := Sum.inr k) ho, q⟩
theorem dput {td ty : TE} (h : tv σ H fun v H1 => td σ H1 fun x H2 => ty σ H2 fun y H3 => ∃ a H4, x = .ref a ∧ DPut H3 a y v H4 ∧ D.nx σ H4) : sDPut td ty tv D σ H := h
theorem dputS {a : Addr} {kvs kvs' : List (Key × V)} {k : Str} {v : V} {R : Hp → Prop} (ho : H a = some (.dK kvs)) (l : kvs.length < 1000) (e : putK kvs (Sum.inr k) v = kvs') (q : R (upd H a (.dK kvs'))) :
    ∃ a' H4, (V.ref a) = .ref a' ∧ DPut H a' (.str k) v H4 ∧ R H4 := ⟨a, _, rfl, DPut.k (k := Sum.inr k) ho (Nat.lt_of_lt_of_le l (by decide)), by rw [e]; exact q⟩
theorem pairsN {R : List (V × V) → Hp → Prop} (k : R [] H) : tPairs [] σ H R := k
theorem pairsC {tk : TE} {r : List (TE × TE)} {R : List (V × V) → Hp → Prop} (h : tk σ H fun x H1 => tv σ H1 fun y H2 => tPairs r σ H2 fun ps H3 => R ((x, y) :: ps) H3) : tPairs ((tk, tv) :: r) σ H R := h
theorem yes {R : Bool → Hp → Prop} (k : R true H) : tYes σ H R := k
theorem addS {a b : Str} {R : Str → Str → Prop} (hz : a.length + b.length ≤ 100000) (k : R a b) : ∃ i j, (V.str a) = .str i ∧ (V.str b) = .str j ∧ i.length + j.length ≤ sizeLine ∧ R i j := ⟨a, b, rfl, rfl, Nat.le_trans hz (by decide), k⟩
theorem cb {r : List V → Hp → VK → Prop} (h : tA σ H fun vs H1 => r vs H1 Q) : tCB r tA σ H Q := h
end
theorem look_ne {f g : Str} {v : V} {r : List (Str × V)} (h : decide (f = g) = false) : List.lookup f ((g, v) :: r) = List.lookup f r := by
  have hb : (f == g) = false := by simpa using h
  simp only [List.lookup, hb]
theorem look_eq {f : Str} {v : V} {r : List (Str × V)} : List.lookup f ((f, v) :: r) = some v := by simp [List.lookup]
theorem put_ne {f g : Str} {v w : V} {r : List (Str × V)} (h : decide (g = f) = false) : putF f v ((g, w) :: r) = (g, w) :: putF f v r := by
  have hb : ¬ g = f := by simpa using h
  rw [putF, if_neg hb]
theorem put_eq {f : Str} {v w : V} {r : List (Str × V)} : putF f v ((f, w) :: r) = (f, v) :: r := by rw [putF, if_pos rfl]
theorem put_nil {f : Str} {v : V} : putF f v [] = [(f, v)] := rfl
section
open PyProof.Rows
variable {X : Cx} {x : Str} {i : Int} {z : Str} {t : Tok} {pos : Pos}
theorem pe_gint (hg : Gl X x) (hm : ∃ t, X.mg x = some (.int i t)) (hd : (x == ("__debug__" : Str)) = false := by decide) : PE X (.Name x pos) (tC (.int i)) := let ⟨_, h⟩ := hm; pe_glob hg h ⟨_, rfl⟩ hd
theorem kit_self {K : PySem.W.Frag} {C : Addr} : PySem.W.kitOne K (.ref C) (.ref C) = some true := by
  unfold PySem.W.kitOne
  rw [if_pos (by simp)]
theorem kit_yes {K : PySem.W.Frag} {C R : Addr} (h1 : PySem.W.isClsIn K R = true) (h2 : PySem.W.typeIn K (.ref R) = some (.type "type")) (h3 : PySem.W.subIn K (.ref C) (.ref R) = some true) : PySem.W.kitOne K (.ref C) (.ref R) = some true := by
  unfold PySem.W.kitOne
  by_cases e : (Value.ref C == Value.ref R) = true
  · rw [if_pos e]
  · rw [if_neg e]
    unfold PySem.W.kitCls
    have h1' : (PySem.W.clsIn K R).isSome = true := h1
    have e2 : ((PySem.W.clsIn K R).isSome && PySem.W.typeIn K (.ref R) == some (.type "type")) = true := by rw [h1', h2] <;> rfl
    show (if ((PySem.W.clsIn K R).isSome && PySem.W.typeIn K (.ref R) == some (.type "type")) = true then PySem.W.subIn K (.ref C) (.ref R) else none) = some true
    rw [if_pos e2]
    exact h3
theorem kit_no {K : PySem.W.Frag} {C R : Addr} (h1 : PySem.W.isClsIn K R = true) (h2 : PySem.W.typeIn K (.ref R) = some (.type "type")) (h3 : PySem.W.subIn K (.ref C) (.ref R) = some false) (hne : C ≠ R) : PySem.W.kitOne K (.ref C) (.ref R) = some false := by
  unfold PySem.W.kitOne
  rw [if_neg (by simpa using hne)]
  unfold PySem.W.kitCls
  have h1' : (PySem.W.clsIn K R).isSome = true := h1
  have e2 : ((PySem.W.clsIn K R).isSome && PySem.W.typeIn K (.ref R) == some (.type "type")) = true := by rw [h1', h2] <;> rfl
  show (if ((PySem.W.clsIn K R).isSome && PySem.W.typeIn K (.ref R) == some (.type "type")) = true then PySem.W.subIn K (.ref C) (.ref R) else none) = some false
  rw [if_pos e2]
  exact h3
theorem pe_ex {X : Cx} {e : Expr} {ι : Type} {p : ι → Prop} {t : ι → TE} (h : ∀ i, p i → PE X e (t i)) : PE X e (tEx p t) := ⟨fun pins s σ H Q I ⟨i, hp, hq⟩ => (h i hp).run pins s σ H Q I hq⟩
theorem pe_makeO {X : Cx} {C : Addr} {x : Str} {p pos : Pos} (hmk : PySem.W.makesIn X.K C = true) (hi : PySem.W.findIn X.K (.ref C) "__init__" = some (some (.builtin "object.__init__"))) (kp : PySem.W.keepIn X.K (.ref C) = true) (hg : Gl X x) (hm : X.mg x = some (.ref C))
    (hdb : (x == ("__debug__" : Str)) = false := by decide) : PE X (.Call (.Name x p) [] [] pos) (tMakeO C) := by
  refine ⟨fun pins s σ H Q I h => ?_⟩
  refine wpAny_Call_Name_kw (ld_glob I hg hm ?_ hdb)
  refine PySem.W.callWith_K0 I.kIn kp ?_
  show wpAny _ _ (PySem.call (Value.ref C) []) _ _ _
  refine wpAny_call ?_
  have hq := h (s.heap.objs.size + 1) s.heap.objs.size (I.hok.fresh (Nat.le_succ _)) (I.hok.fresh (Nat.le_refl _)) (Nat.ne_of_lt (Nat.lt_succ_self _))
  have I2 := Inv.made (C := C) I
  have Y := PySem.W.makes_of (M := model X.prog X.w) I.kIn hmk
  have L0 := PySem.W.looks_findIn (M := model X.prog X.w) I.kIn hi
  obtain ⟨hh, g, d, t, os⟩ := s
  refine PySem.W.make_core Y L0 (fun self => PySem.W.Looks.of_pure (PySem.W.oi_bind self)) (.inr ⟨rfl, rfl⟩) ?_
  have e2 : ((hh.push PySem.W.emptyDict).push (PySem.W.instObj C hh.objs.size)).get? (hh.objs.size + 1) = some (PySem.W.instObj C hh.objs.size) := by
    have := Heap.get?_push_size (hh.push PySem.W.emptyDict) (o := PySem.W.instObj C hh.objs.size) rfl
    rwa [Heap.size_push] at this
  have t1 : PySem.W.Looks (model X.prog X.w) ((hh.push PySem.W.emptyDict).push (PySem.W.instObj C hh.objs.size)) (typeOf (.ref (hh.objs.size + 1))) (.ref C) := (PySem.W.Looks.ld e2).andThen .now
  have t2 : PySem.W.Looks (model X.prog X.w) ((hh.push PySem.W.emptyDict).push (PySem.W.instObj C hh.objs.size)) (isInstance (.ref (hh.objs.size + 1)) (.type "object")) true := t1.andThen (Y.top.keeps fun b o e => Heap.get?_push_of_some _ (Heap.get?_push_of_some _ e))
  refine codeAny_call_builtin PySem.W.oi_plain PySem.W.entry_oi (@PySem.W.check_slot (model X.prog X.w) _ _ _ "object.__init__" "object" "__init__" (.ref (hh.objs.size + 1)) [] [] _ PySem.W.oi_kind PySem.W.oi_split t2 (PySem.W.oi_args (.ref (hh.objs.size + 1))) ?_)
  rw [PySem.W.oi_run]
  exact wpAny_pure (And.intro rfl ⟨V.ref _, _, I2, rfl, hq⟩)
theorem pe_gstr (hg : Gl X x) (hm : ∃ t, X.mg x = some (.str z t)) (hd : (x == ("__debug__" : Str)) = false := by decide) : PE X (.Name x pos) (tC (.str z)) := let ⟨_, h⟩ := hm; pe_glob hg h ⟨_, rfl⟩ hd
end
end Z
/-! ### further rules -/
namespace Z
open PySem L2 PyProof.Rows
/-- a text times an int -/
def rRepS : R2 := fun x y H Q => ∃ (z : Str) (n : Int), x = .str z ∧ y = .int n ∧ z.length ≤ 1000 ∧ 0 ≤ n ∧ n ≤ 1000 ∧ ∀ r : Str, r = Txt.mul z n → r.length ≤ z.length * n.toNat → Q (.str r) H
theorem mul_len (z : Str) (n : Int) : (Txt.mul z n).length ≤ z.length * n.toNat := by
  unfold Txt.mul
  by_cases h : n < 1
  · rw [if_pos h]
    exact Nat.zero_le _
  · rw [if_neg h]
    by_cases h2 : (n == 1 || z.length == 0) = true
    · rw [if_pos h2]
      have : 1 ≤ n.toNat := by omega
      exact Nat.le_mul_of_pos_right _ this
    · rw [if_neg h2]
      have gen : ∀ (k : Nat) (a : Array Nat), ((List.replicate k z.cps).foldl (· ++ ·) a).size = a.size + k * z.cps.size := by
        intro k
        induction k with
        | zero => intro a; simp
        | succ k ih =>
          intro a
          rw [List.replicate_succ, List.foldl_cons, ih, Array.size_append, Nat.succ_mul]
          omega
      show ((List.replicate n.toNat z.cps).foldl (· ++ ·) #[]).size ≤ z.cps.size * n.toNat
      rw [gen, Nat.mul_comm]
      simp
theorem op_repS {X : Cx} : OpR X (binaryOp .Mult) rRepS := by
  intro pins s σ H x y v u Q I rx ry h
  obtain ⟨z, n, rfl, rfl, hz, h0, h1, q⟩ := h
  obtain ⟨t, rfl⟩ := rx
  obtain ⟨t', rfl⟩ := ry
  refine SB.mul ⟨?_, fun _ _ => ?_, fun _ _ => ?_⟩ fun t2 k => ⟨.str (Txt.mul z n), H, I.tok _, ⟨_, rfl⟩, q _ rfl (mul_len z n)⟩
  · rw [Bool.or_eq_false_iff]
    exact ⟨decide_eq_false (by omega), decide_eq_false (by omega)⟩
  · have hn : 1 ≤ n := by omega
    have : (z.length : Int) ≤ (2 ^ 63 - 1) / n := by
      refine Int.le_ediv_of_mul_le (by omega) ?_
      have h2 : (z.length : Int) * n ≤ 1000 * 1000 := Int.mul_le_mul (by omega) h1 (by omega) (by omega)
      omega
    omega
  · show decide (z.length * n.toNat > sizeLine) = false
    refine decide_eq_false ?_
    have h2 : z.length * n.toNat ≤ 1000 * 1000 := Nat.mul_le_mul hz (by omega)
    rw [sizeLine_eq]
    omega
theorem po_val {X : Cx} {e : Expr} {te : TE} (h : PE X e te) : PO X (some e) (tPartN te) := by
  refine ⟨fun pins s σ H Q I hw => ?_⟩
  rw [evalPart_some]
  refine thn (h.run pins s σ H _ I hw) fun u s1 ⟨x, H1, I1, r1, q1⟩ => ?_
  rcases q1 with ⟨rfl, q⟩ | ⟨i, rfl, q⟩
  · cases r1
    exact ⟨none, H1, I1, .none, q⟩
  · obtain ⟨t, rfl⟩ := r1
    exact ⟨some i, H1, I1, .int i t, q⟩
def cutT (xs : List Str) (lo hi : Option Int) : List Str := (xs.drop (HT.sIx xs.length 0 lo)).take (HT.sIx xs.length xs.length hi - HT.sIx xs.length 0 lo)
theorem cutV_str (xs : List Str) (lo hi : Option Int) : cutV (xs.map V.str) lo hi = (cutT xs lo hi).map V.str := by
  unfold cutV cutT
  rw [List.length_map, List.map_take, List.map_drop]
theorem cutT_len (xs : List Str) (lo hi : Option Int) : (cutT xs lo hi).length ≤ xs.length := by
  unfold cutT
  rw [List.length_take, List.length_drop]
  omega
theorem dp_strs {K : PySem.W.Frag} {H : Hp} : ∀ xs : List Str, DpAll K H (xs.map V.str) (xs.map PyData.str)
  | [] => .nil
  | x :: r => .cons (.str x) (dp_strs r)
theorem lay_strs : ∀ xs : List Str, (∀ x ∈ xs, PyData.strOk x = true) → PyData.canLayAll0 (xs.map PyData.str) = true
  | [], _ => by simp [PyData.canLayAll0]
  | x :: r, h => by
    rw [List.map_cons, PyData.canLayAll0, lay_strs r fun y hy => h y (List.mem_cons_of_mem _ hy), Bool.and_true, PyData.canLay0]
    exact h x List.mem_cons_self
theorem depth_strs : ∀ xs : List Str, PyData.depthAll (xs.map PyData.str) = 0
  | [] => by simp [PyData.depthAll]
  | x :: r => by rw [List.map_cons, PyData.depthAll, depth_strs r]; simp [PyData.depth]
theorem shaped_strs {xs : List Str} (h : ∀ x ∈ xs, PyData.strOk x = true) : SeqAt.shaped (.list (xs.map PyData.str)) = true := by
  unfold SeqAt.shaped
  rw [Bool.and_eq_true]
  refine ⟨by rw [PyData.canLay0]; exact lay_strs xs h, decide_eq_true ?_⟩
  rw [PyData.depth, depth_strs]
  decide
theorem eqv_strs : ∀ xs : List Str, PyData.eqvAll (xs.map PyData.str) (xs.map PyData.str) = true
  | [] => by simp [PyData.eqvAll]
  | x :: r => by rw [List.map_cons, PyData.eqvAll, eqv_strs r]; simp [PyData.eqv]
theorem ok_app {x y : Str} (h1 : PyData.strOk x = true) (h2 : PyData.strOk y = true) : PyData.strOk (x ++ y) = true := by
  unfold PyData.strOk at *
  show (x.cps ++ y.cps).all _ = true
  rw [Array.all_append, h1, h2]
  rfl
theorem ok_cut {z : Str} {lo hi : Option Int} (h : PyData.strOk z = true) : PyData.strOk (cutS z lo hi) = true := by
  unfold PyData.strOk cutS at *
  rw [List.all_toArray, List.all_eq_true]
  intro x hx
  rw [Array.all_eq_true_iff_forall_mem] at h
  exact h x (by simpa using List.mem_of_mem_drop (List.mem_of_mem_take hx))
theorem ixS {z : Str} {i : Int} {Q : VK} {H : Hp} (hz : z.length ≤ 100000) (h0 : 0 ≤ i) (h1 : i < z.length) (k : ∀ c, z.cps.toList[i.toNat]? = some c → Q (.str ⟨#[c]⟩) H) : rIxS (.str z) (.int i) H Q := by
  have hl : i.toNat < z.cps.toList.length := by
    rw [Array.length_toList]
    have : z.length = z.cps.size := rfl
    omega
  have e := List.getElem?_eq_getElem hl
  refine ⟨z, i, _, rfl, rfl, Nat.le_trans hz (by decide), ?_, k _ e⟩
  have e2 := atI_nat e
  have e3 : ((i.toNat : Nat) : Int) = i := by omega
  rwa [e3] at e2
section
variable {K : PySem.W.Frag} {H : Hp} {Q : VK} {a b : Addr} {xs : List Str}
/-- two lists of the same texts -/
theorem eqStrs (ha : SqL K H a (xs.map V.str)) (hb : SqL K H b (xs.map V.str)) (h : ∀ x ∈ xs, PyData.strOk x = true) (k : Q (.bl true) H) : rEqD K (.ref a) (.ref b) H Q :=
  ⟨_, _, .lst ha (dp_strs xs), .lst hb (dp_strs xs), shaped_strs h, shaped_strs h, by rw [PyData.eqv, eqv_strs]; exact k⟩
theorem neStrs (ha : SqL K H a (xs.map V.str)) (hb : SqL K H b (xs.map V.str)) (h : ∀ x ∈ xs, PyData.strOk x = true) (k : Q (.bl false) H) : rNeD K (.ref a) (.ref b) H Q :=
  ⟨_, _, .lst ha (dp_strs xs), .lst hb (dp_strs xs), shaped_strs h, shaped_strs h, by rw [PyData.eqv, eqv_strs]; exact k⟩
end
end Z
local macro_rules | `(tactic| walk_at "z ne") => `(tactic| first | assumption | (refine Ne.symm ?_; assumption))
local macro_rules | `(tactic| walk_at "z hp") => `(tactic| first | assumption | (with_reducible exact L2.upd_same) | (refine (L2.upd_ne ?_).trans ?_; (walk_at "z ne"); walk_at "z hp"))
local macro_rules | `(tactic| walk_at "z ic") => `(tactic| first | decide | (show (0 : Int) < _; first | decide | omega) | (show (0 : Int) ≤ _; first | decide | omega) | exact ⟨by decide, by decide⟩ | exact ⟨by decide, by decide, by decide⟩ | exact .inl ⟨by omega, by omega⟩ | exact .inr ⟨by omega, by omega⟩ | exact ⟨by omega, by omega⟩)
local macro_rules | `(tactic| walk_at "z small") => `(tactic| (first | decide | (simp only [List.length_cons, List.length_nil]; decide) | omega))
local macro_rules | `(tactic| walk_at "z no") => `(tactic| rfl)
/-- a slot, an expression, a statement: as far as nothing is asked -/
local macro_rules | `(tactic| walk_at "z1") => `(tactic| first
  | (with_reducible refine Z.seq ?_) | (with_reducible refine Z.asg ?_) | (with_reducible refine Z.ret ?_) | (with_reducible refine Z.retN ?_) | (with_reducible refine Z.drop ?_) | (with_reducible refine Z.next ?_)
  | (with_reducible refine Z.ifS ?_) | (with_reducible refine Z.op ?_) | (with_reducible refine Z.un ?_) | (with_reducible refine Z.con ?_) | ((with_reducible refine' Z.var ?hv ?_); (case hv => exact rfl))
  | (with_reducible refine Z.i0 ?_) | ((with_reducible refine Z.eqS ?hs ?_); (case hs => exact rfl)) | ((with_reducible refine Z.neS ?hs ?_); (case hs => exact rfl))
  | (with_reducible refine Z.test (b := true) ?_) | (with_reducible refine Z.tstB ?_) | (with_reducible refine Z.bB ?_) | (with_reducible refine Z.andT ?_) | (with_reducible refine Z.orT ?_) | (with_reducible refine Z.notT ?_)
  | (with_reducible refine Z.andV ?_) | (with_reducible refine Z.orV ?_) | (with_reducible refine Z.notV ?_) | (with_reducible refine Z.ifE ?_) | (with_reducible refine Z.blE ?_)
  | (with_reducible refine Z.nil ?_) | (with_reducible refine Z.cons ?_) | (with_reducible refine Z.fld ?_) | (with_reducible refine Z.sfld ?_) | (with_reducible refine Z.aug ?_) | (with_reducible refine Z.rAddE ?_)
  | ((with_reducible refine' Z.fldE ?ho ?hc ?hn ?hl ?_); (case ho => walk_at "z hp"); (case hc => walk_at "z cls"); (case hn => walk_at "z attr"); (case hl => walk_at "z look"))
  | ((with_reducible refine' Z.augV ?ho ?hc ?hn ?hl ?_); (case ho => walk_at "z hp"); (case hc => walk_at "z cls"); (case hn => walk_at "z attr"); (case hl => walk_at "z look"))
  | ((with_reducible refine' Z.sfldE ?ho ?hc ?hn ?hl ?_); (case ho => walk_at "z hp"); (case hc => walk_at "z cls"); (case hn => walk_at "z attr"); (case hl => walk_at "z small"); walk_at "z put")
  | ((with_reducible refine' Z.augE ?ho ?hl ?_); (case ho => walk_at "z hp"); (case hl => walk_at "z small"); walk_at "z put")
  | (with_reducible refine Z.meth ?_) | ((with_reducible refine' Z.methE ?ho ?hl ?_); (case ho => walk_at "z hp"); (case hl => walk_at "z no"))
  | (with_reducible refine Z.make ?_) | (with_reducible refine Z.makeO ?_) | (with_reducible refine Z.m0 ?_) | (with_reducible refine Z.m1 ?_) | (with_reducible refine Z.sl ?_) | (with_reducible refine Z.noPart ?_) | (with_reducible refine Z.part ?_) | (with_reducible refine Z.partE ?_) | (with_reducible refine Z.bm ?_) | (with_reducible refine Z.bm0 ?_)
  | (with_reducible refine Z.pairsC ?_) | (with_reducible refine Z.pairsN ?_) | (with_reducible refine Z.yes ?_)
  | (with_reducible refine Z.gcons ?_) | (with_reducible refine Z.gnil ?_) | (with_reducible refine Z.gname ?_) | (with_reducible refine Z.partN ?_) | (with_reducible refine Z.forR1 ?_) | (with_reducible refine Z.forL ?_)
  | (with_reducible refine Z.asgG ?_) | (with_reducible refine Z.gsub ?_) | (with_reducible refine Z.dget ?_) | (with_reducible refine Z.dput ?_)
  | ((with_reducible refine' Z.dgetS ?ho ?he ?_); (case ho => walk_at "z hp"); (case he => walk_at "z val"))
  | ((with_reducible refine' Z.dputS ?ho ?hl ?he ?_); (case ho => walk_at "z hp"); (case hl => walk_at "z small"); (case he => walk_at "z putK"))
  | (with_reducible refine Z.lst ?_) | (with_reducible refine Z.tup ?_) | (with_reducible refine Z.call ?_) | (with_reducible refine Z.cb ?_) | ((with_reducible refine Z.ic ?hc ?_); (case hc => walk_at "z ic")))
local macro_rules | `(tactic| walk_at "z dec") => `(tactic| first | (refine Z.iteTd (by decide +kernel) ?_) | (refine Z.iteFd (by decide +kernel) ?_) | skip)
/-- .. and the tests whose answer stands there -/
local macro_rules | `(tactic| walk_at "z") => `(tactic| repeat (first | walk_at "z1" | (refine L2.iteT ?_) | (refine L2.iteF ?_) | (with_reducible refine Z.isN ?_)))

namespace Toy
open PySem L2
def top (i : Nat) : Stmt := PySem.Challenge.pw_planstore_k44_rules_by_word.main.body.getD i (.Pass ⟨0, 0, 0, 0⟩)
abbrev s_PartRule_rule_word : Stmt := inClass (top 3) 0
theorem sc_PartRule_rule_word : FnScope ["self"] ["self"] (defScope s_PartRule_rule_word) := ⟨rfl, rfl, rfl, by decide +kernel, rfl, by decide +kernel, by decide +kernel⟩
abbrev s_UniteRule_rule_word : Stmt := inClass (top 4) 0
theorem sc_UniteRule_rule_word : FnScope ["self"] ["self"] (defScope s_UniteRule_rule_word) := ⟨rfl, rfl, rfl, by decide +kernel, rfl, by decide +kernel, by decide +kernel⟩
abbrev s_SwapRule_rule_word : Stmt := inClass (top 5) 0
theorem sc_SwapRule_rule_word : FnScope ["self"] ["self"] (defScope s_SwapRule_rule_word) := ⟨rfl, rfl, rfl, by decide +kernel, rfl, by decide +kernel, by decide +kernel⟩
abbrev s_ClearRule_rule_word : Stmt := inClass (top 6) 0
theorem sc_ClearRule_rule_word : FnScope ["self"] ["self"] (defScope s_ClearRule_rule_word) := ⟨rfl, rfl, rfl, by decide +kernel, rfl, by decide +kernel, by decide +kernel⟩
abbrev s_MirrorRule_rule_word : Stmt := inClass (top 7) 0
theorem sc_MirrorRule_rule_word : FnScope ["self"] ["self"] (defScope s_MirrorRule_rule_word) := ⟨rfl, rfl, rfl, by decide +kernel, rfl, by decide +kernel, by decide +kernel⟩
abbrev s_IntoOneRule_rule_word : Stmt := inClass (top 8) 0
theorem sc_IntoOneRule_rule_word : FnScope ["self"] ["self"] (defScope s_IntoOneRule_rule_word) := ⟨rfl, rfl, rfl, by decide +kernel, rfl, by decide +kernel, by decide +kernel⟩
abbrev s_IntoOtherRule_rule_word : Stmt := inClass (top 9) 0
theorem sc_IntoOtherRule_rule_word : FnScope ["self"] ["self"] (defScope s_IntoOtherRule_rule_word) := ⟨rfl, rfl, rfl, by decide +kernel, rfl, by decide +kernel, by decide +kernel⟩
abbrev s_OutOfOneRule_rule_word : Stmt := inClass (top 10) 0
theorem sc_OutOfOneRule_rule_word : FnScope ["self"] ["self"] (defScope s_OutOfOneRule_rule_word) := ⟨rfl, rfl, rfl, by decide +kernel, rfl, by decide +kernel, by decide +kernel⟩
abbrev s_OutOfOtherRule_rule_word : Stmt := inClass (top 11) 0
theorem sc_OutOfOtherRule_rule_word : FnScope ["self"] ["self"] (defScope s_OutOfOtherRule_rule_word) := ⟨rfl, rfl, rfl, by decide +kernel, rfl, by decide +kernel, by decide +kernel⟩
abbrev s_UnderGroupRule_rule_word : Stmt := inClass (top 12) 0
theorem sc_UnderGroupRule_rule_word : FnScope ["self"] ["self"] (defScope s_UnderGroupRule_rule_word) := ⟨rfl, rfl, rfl, by decide +kernel, rfl, by decide +kernel, by decide +kernel⟩
abbrev s_KeepOneRule_rule_word : Stmt := inClass (top 13) 0
theorem sc_KeepOneRule_rule_word : FnScope ["self"] ["self"] (defScope s_KeepOneRule_rule_word) := ⟨rfl, rfl, rfl, by decide +kernel, rfl, by decide +kernel, by decide +kernel⟩
abbrev s_KeepOtherRule_rule_word : Stmt := inClass (top 14) 0
theorem sc_KeepOtherRule_rule_word : FnScope ["self"] ["self"] (defScope s_KeepOtherRule_rule_word) := ⟨rfl, rfl, rfl, by decide +kernel, rfl, by decide +kernel, by decide +kernel⟩
abbrev s_KeepUpRule_rule_word : Stmt := inClass (top 15) 0
theorem sc_KeepUpRule_rule_word : FnScope ["self"] ["self"] (defScope s_KeepUpRule_rule_word) := ⟨rfl, rfl, rfl, by decide +kernel, rfl, by decide +kernel, by decide +kernel⟩
abbrev s_KeepDownRule_rule_word : Stmt := inClass (top 16) 0
theorem sc_KeepDownRule_rule_word : FnScope ["self"] ["self"] (defScope s_KeepDownRule_rule_word) := ⟨rfl, rfl, rfl, by decide +kernel, rfl, by decide +kernel, by decide +kernel⟩
abbrev s_KeepOnceRule_rule_word : Stmt := inClass (top 17) 0
theorem sc_KeepOnceRule_rule_word : FnScope ["self"] ["self"] (defScope s_KeepOnceRule_rule_word) := ⟨rfl, rfl, rfl, by decide +kernel, rfl, by decide +kernel, by decide +kernel⟩
abbrev s_KeepAllRule_rule_word : Stmt := inClass (top 18) 0
theorem sc_KeepAllRule_rule_word : FnScope ["self"] ["self"] (defScope s_KeepAllRule_rule_word) := ⟨rfl, rfl, rfl, by decide +kernel, rfl, by decide +kernel, by decide +kernel⟩
abbrev s_KeepNoneRule_rule_word : Stmt := inClass (top 19) 0
theorem sc_KeepNoneRule_rule_word : FnScope ["self"] ["self"] (defScope s_KeepNoneRule_rule_word) := ⟨rfl, rfl, rfl, by decide +kernel, rfl, by decide +kernel, by decide +kernel⟩
abbrev s_TurnRule_rule_word : Stmt := inClass (top 20) 0
theorem sc_TurnRule_rule_word : FnScope ["self"] ["self"] (defScope s_TurnRule_rule_word) := ⟨rfl, rfl, rfl, by decide +kernel, rfl, by decide +kernel, by decide +kernel⟩
abbrev s_RegroupOneRule_rule_word : Stmt := inClass (top 21) 0
theorem sc_RegroupOneRule_rule_word : FnScope ["self"] ["self"] (defScope s_RegroupOneRule_rule_word) := ⟨rfl, rfl, rfl, by decide +kernel, rfl, by decide +kernel, by decide +kernel⟩
abbrev s_RegroupOtherRule_rule_word : Stmt := inClass (top 22) 0
theorem sc_RegroupOtherRule_rule_word : FnScope ["self"] ["self"] (defScope s_RegroupOtherRule_rule_word) := ⟨rfl, rfl, rfl, by decide +kernel, rfl, by decide +kernel, by decide +kernel⟩
abbrev s_SortGoneRule_rule_word : Stmt := inClass (top 23) 0
theorem sc_SortGoneRule_rule_word : FnScope ["self"] ["self"] (defScope s_SortGoneRule_rule_word) := ⟨rfl, rfl, rfl, by decide +kernel, rfl, by decide +kernel, by decide +kernel⟩
abbrev s_FirstsRule_rule_word : Stmt := inClass (top 24) 0
theorem sc_FirstsRule_rule_word : FnScope ["self"] ["self"] (defScope s_FirstsRule_rule_word) := ⟨rfl, rfl, rfl, by decide +kernel, rfl, by decide +kernel, by decide +kernel⟩
abbrev s_all_rules : Stmt := top 25
theorem sc_all_rules : FnScope ["found"] [] (defScope s_all_rules) := ⟨rfl, rfl, rfl, by decide +kernel, rfl, by decide +kernel, by decide +kernel⟩
abbrev s_rules_told : Stmt := top 26
theorem sc_rules_told : FnScope ["rule"] [] (defScope s_rules_told) := ⟨rfl, rfl, rfl, by decide +kernel, rfl, by decide +kernel, by decide +kernel⟩
abbrev s_rule_by : Stmt := top 27
theorem sc_rule_by : FnScope ["word", "rule"] ["word"] (defScope s_rule_by) := ⟨rfl, rfl, rfl, by decide +kernel, rfl, by decide +kernel, by decide +kernel⟩
abbrev s_law_rich : Stmt := top 29
theorem sc_law_rich : FnScope ["_law_cell", "_law_number", "_law_found", "_law_k"] ["_law_cell"] (defScope s_law_rich) := ⟨rfl, rfl, rfl, by decide +kernel, rfl, by decide +kernel, by decide +kernel⟩
abbrev s_law_purse : Stmt := top 30
theorem sc_law_purse : FnScope ["_law_script", "_law_k", "_law_cell"] ["_law_script", "_law_k"] (defScope s_law_purse) := ⟨rfl, rfl, rfl, by decide +kernel, rfl, by decide +kernel, by decide +kernel⟩
abbrev s_law_take : Stmt := top 31
theorem sc_law_take : FnScope ["_law_purse_here", "_law_by", "_law_figure"] ["_law_purse_here", "_law_by"] (defScope s_law_take) := ⟨rfl, rfl, rfl, by decide +kernel, rfl, by decide +kernel, by decide +kernel⟩
abbrev s_law_all : Stmt := top 32
theorem sc_law_all : FnScope ["_law_found"] [] (defScope s_law_all) := ⟨rfl, rfl, rfl, by decide +kernel, rfl, by decide +kernel, by decide +kernel⟩
abbrev s_law_thing : Stmt := top 33
theorem sc_law_thing : FnScope ["_law_purse_here", "_law_word", "_law_way", "_law_at", "_law_sign"] ["_law_purse_here"] (defScope s_law_thing) := ⟨rfl, rfl, rfl, by decide +kernel, rfl, by decide +kernel, by decide +kernel⟩
abbrev s_law : Stmt := top 34
theorem sc_law : FnScope ["_law_script", "_law_told", "_law_word", "_law_rule", "_law_k", "_law_thing_here"] ["_law_script"] (defScope s_law) := ⟨rfl, rfl, rfl, by decide +kernel, rfl, by decide +kernel, by decide +kernel⟩
structure Adr where
  Rule : Addr
  PartRule : Addr
  UniteRule : Addr
  SwapRule : Addr
  ClearRule : Addr
  MirrorRule : Addr
  IntoOneRule : Addr
  IntoOtherRule : Addr
  OutOfOneRule : Addr
  OutOfOtherRule : Addr
  UnderGroupRule : Addr
  KeepOneRule : Addr
  KeepOtherRule : Addr
  KeepUpRule : Addr
  KeepDownRule : Addr
  KeepOnceRule : Addr
  KeepAllRule : Addr
  KeepNoneRule : Addr
  TurnRule : Addr
  RegroupOneRule : Addr
  RegroupOtherRule : Addr
  SortGoneRule : Addr
  FirstsRule : Addr
  f_PartRule_rule_word : Addr
  f_UniteRule_rule_word : Addr
  f_SwapRule_rule_word : Addr
  f_ClearRule_rule_word : Addr
  f_MirrorRule_rule_word : Addr
  f_IntoOneRule_rule_word : Addr
  f_IntoOtherRule_rule_word : Addr
  f_OutOfOneRule_rule_word : Addr
  f_OutOfOtherRule_rule_word : Addr
  f_UnderGroupRule_rule_word : Addr
  f_KeepOneRule_rule_word : Addr
  f_KeepOtherRule_rule_word : Addr
  f_KeepUpRule_rule_word : Addr
  f_KeepDownRule_rule_word : Addr
  f_KeepOnceRule_rule_word : Addr
  f_KeepAllRule_rule_word : Addr
  f_KeepNoneRule_rule_word : Addr
  f_TurnRule_rule_word : Addr
  f_RegroupOneRule_rule_word : Addr
  f_RegroupOtherRule_rule_word : Addr
  f_SortGoneRule_rule_word : Addr
  f_FirstsRule_rule_word : Addr
  f_all_rules : Addr
  f_rules_told : Addr
  f_rule_by : Addr
  f_law_rich : Addr
  f_law_purse : Addr
  f_law_take : Addr
  f_law_all : Addr
  f_law_thing : Addr
  f_law : Addr
/-- a def of the text as it stands, and how its arguments bind -/
def Dfn (K : PySem.W.Frag) (x q : Str) (st : Stmt) (ps : List Str) (f : Addr) : Prop := ∃ fd, Fun K x q st f fd ∧ Binds K fd ps []
theorem Dfn.kp {K : PySem.W.Frag} {x q : Str} {st : Stmt} {ps : List Str} {f : Addr} (d : Dfn K x q st ps f) : PySem.W.keepIn K (.ref f) = true := let ⟨_, F, _⟩ := d; F.kp
structure Txt (K : PySem.W.Frag) (mg : Str → Option Value) (A : Adr) : Prop where
  d_PartRule_rule_word : Dfn K "rule_word" "PartRule.rule_word" s_PartRule_rule_word ["self"] A.f_PartRule_rule_word
  m_PartRule_rule_word : Meth K A.PartRule "rule_word" A.f_PartRule_rule_word
  d_UniteRule_rule_word : Dfn K "rule_word" "UniteRule.rule_word" s_UniteRule_rule_word ["self"] A.f_UniteRule_rule_word
  m_UniteRule_rule_word : Meth K A.UniteRule "rule_word" A.f_UniteRule_rule_word
  d_SwapRule_rule_word : Dfn K "rule_word" "SwapRule.rule_word" s_SwapRule_rule_word ["self"] A.f_SwapRule_rule_word
  m_SwapRule_rule_word : Meth K A.SwapRule "rule_word" A.f_SwapRule_rule_word
  d_ClearRule_rule_word : Dfn K "rule_word" "ClearRule.rule_word" s_ClearRule_rule_word ["self"] A.f_ClearRule_rule_word
  m_ClearRule_rule_word : Meth K A.ClearRule "rule_word" A.f_ClearRule_rule_word
  d_MirrorRule_rule_word : Dfn K "rule_word" "MirrorRule.rule_word" s_MirrorRule_rule_word ["self"] A.f_MirrorRule_rule_word
  m_MirrorRule_rule_word : Meth K A.MirrorRule "rule_word" A.f_MirrorRule_rule_word
  d_IntoOneRule_rule_word : Dfn K "rule_word" "IntoOneRule.rule_word" s_IntoOneRule_rule_word ["self"] A.f_IntoOneRule_rule_word
  m_IntoOneRule_rule_word : Meth K A.IntoOneRule "rule_word" A.f_IntoOneRule_rule_word
  d_IntoOtherRule_rule_word : Dfn K "rule_word" "IntoOtherRule.rule_word" s_IntoOtherRule_rule_word ["self"] A.f_IntoOtherRule_rule_word
  m_IntoOtherRule_rule_word : Meth K A.IntoOtherRule "rule_word" A.f_IntoOtherRule_rule_word
  d_OutOfOneRule_rule_word : Dfn K "rule_word" "OutOfOneRule.rule_word" s_OutOfOneRule_rule_word ["self"] A.f_OutOfOneRule_rule_word
  m_OutOfOneRule_rule_word : Meth K A.OutOfOneRule "rule_word" A.f_OutOfOneRule_rule_word
  d_OutOfOtherRule_rule_word : Dfn K "rule_word" "OutOfOtherRule.rule_word" s_OutOfOtherRule_rule_word ["self"] A.f_OutOfOtherRule_rule_word
  m_OutOfOtherRule_rule_word : Meth K A.OutOfOtherRule "rule_word" A.f_OutOfOtherRule_rule_word
  d_UnderGroupRule_rule_word : Dfn K "rule_word" "UnderGroupRule.rule_word" s_UnderGroupRule_rule_word ["self"] A.f_UnderGroupRule_rule_word
  m_UnderGroupRule_rule_word : Meth K A.UnderGroupRule "rule_word" A.f_UnderGroupRule_rule_word
  d_KeepOneRule_rule_word : Dfn K "rule_word" "KeepOneRule.rule_word" s_KeepOneRule_rule_word ["self"] A.f_KeepOneRule_rule_word
  m_KeepOneRule_rule_word : Meth K A.KeepOneRule "rule_word" A.f_KeepOneRule_rule_word
  d_KeepOtherRule_rule_word : Dfn K "rule_word" "KeepOtherRule.rule_word" s_KeepOtherRule_rule_word ["self"] A.f_KeepOtherRule_rule_word
  m_KeepOtherRule_rule_word : Meth K A.KeepOtherRule "rule_word" A.f_KeepOtherRule_rule_word
  d_KeepUpRule_rule_word : Dfn K "rule_word" "KeepUpRule.rule_word" s_KeepUpRule_rule_word ["self"] A.f_KeepUpRule_rule_word
  m_KeepUpRule_rule_word : Meth K A.KeepUpRule "rule_word" A.f_KeepUpRule_rule_word
  d_KeepDownRule_rule_word : Dfn K "rule_word" "KeepDownRule.rule_word" s_KeepDownRule_rule_word ["self"] A.f_KeepDownRule_rule_word
  m_KeepDownRule_rule_word : Meth K A.KeepDownRule "rule_word" A.f_KeepDownRule_rule_word
  d_KeepOnceRule_rule_word : Dfn K "rule_word" "KeepOnceRule.rule_word" s_KeepOnceRule_rule_word ["self"] A.f_KeepOnceRule_rule_word
  m_KeepOnceRule_rule_word : Meth K A.KeepOnceRule "rule_word" A.f_KeepOnceRule_rule_word
  d_KeepAllRule_rule_word : Dfn K "rule_word" "KeepAllRule.rule_word" s_KeepAllRule_rule_word ["self"] A.f_KeepAllRule_rule_word
  m_KeepAllRule_rule_word : Meth K A.KeepAllRule "rule_word" A.f_KeepAllRule_rule_word
  d_KeepNoneRule_rule_word : Dfn K "rule_word" "KeepNoneRule.rule_word" s_KeepNoneRule_rule_word ["self"] A.f_KeepNoneRule_rule_word
  m_KeepNoneRule_rule_word : Meth K A.KeepNoneRule "rule_word" A.f_KeepNoneRule_rule_word
  d_TurnRule_rule_word : Dfn K "rule_word" "TurnRule.rule_word" s_TurnRule_rule_word ["self"] A.f_TurnRule_rule_word
  m_TurnRule_rule_word : Meth K A.TurnRule "rule_word" A.f_TurnRule_rule_word
  d_RegroupOneRule_rule_word : Dfn K "rule_word" "RegroupOneRule.rule_word" s_RegroupOneRule_rule_word ["self"] A.f_RegroupOneRule_rule_word
  m_RegroupOneRule_rule_word : Meth K A.RegroupOneRule "rule_word" A.f_RegroupOneRule_rule_word
  d_RegroupOtherRule_rule_word : Dfn K "rule_word" "RegroupOtherRule.rule_word" s_RegroupOtherRule_rule_word ["self"] A.f_RegroupOtherRule_rule_word
  m_RegroupOtherRule_rule_word : Meth K A.RegroupOtherRule "rule_word" A.f_RegroupOtherRule_rule_word
  d_SortGoneRule_rule_word : Dfn K "rule_word" "SortGoneRule.rule_word" s_SortGoneRule_rule_word ["self"] A.f_SortGoneRule_rule_word
  m_SortGoneRule_rule_word : Meth K A.SortGoneRule "rule_word" A.f_SortGoneRule_rule_word
  d_FirstsRule_rule_word : Dfn K "rule_word" "FirstsRule.rule_word" s_FirstsRule_rule_word ["self"] A.f_FirstsRule_rule_word
  m_FirstsRule_rule_word : Meth K A.FirstsRule "rule_word" A.f_FirstsRule_rule_word
  d_all_rules : Dfn K "all_rules" "all_rules" s_all_rules [] A.f_all_rules
  g_all_rules : mg "all_rules" = some (.ref A.f_all_rules)
  d_rules_told : Dfn K "rules_told" "rules_told" s_rules_told [] A.f_rules_told
  g_rules_told : mg "rules_told" = some (.ref A.f_rules_told)
  d_rule_by : Dfn K "rule_by" "rule_by" s_rule_by ["word"] A.f_rule_by
  g_rule_by : mg "rule_by" = some (.ref A.f_rule_by)
  d_law_rich : Dfn K "_law_rich" "_law_rich" s_law_rich ["_law_cell"] A.f_law_rich
  g_law_rich : mg "_law_rich" = some (.ref A.f_law_rich)
  d_law_purse : Dfn K "_law_purse" "_law_purse" s_law_purse ["_law_script", "_law_k"] A.f_law_purse
  g_law_purse : mg "_law_purse" = some (.ref A.f_law_purse)
  d_law_take : Dfn K "_law_take" "_law_take" s_law_take ["_law_purse_here", "_law_by"] A.f_law_take
  g_law_take : mg "_law_take" = some (.ref A.f_law_take)
  d_law_all : Dfn K "_law_all" "_law_all" s_law_all [] A.f_law_all
  g_law_all : mg "_law_all" = some (.ref A.f_law_all)
  d_law_thing : Dfn K "_law_thing" "_law_thing" s_law_thing ["_law_purse_here"] A.f_law_thing
  g_law_thing : mg "_law_thing" = some (.ref A.f_law_thing)
  d_law : Dfn K "law" "law" s_law ["_law_script"] A.f_law
  g_law : mg "law" = some (.ref A.f_law)
  c_Rule : Cls K A.Rule
  g_Rule : mg "Rule" = some (.ref A.Rule)
  c_PartRule : Cls K A.PartRule
  g_PartRule : mg "PartRule" = some (.ref A.PartRule)
  c_UniteRule : Cls K A.UniteRule
  g_UniteRule : mg "UniteRule" = some (.ref A.UniteRule)
  c_SwapRule : Cls K A.SwapRule
  g_SwapRule : mg "SwapRule" = some (.ref A.SwapRule)
  c_ClearRule : Cls K A.ClearRule
  g_ClearRule : mg "ClearRule" = some (.ref A.ClearRule)
  c_MirrorRule : Cls K A.MirrorRule
  g_MirrorRule : mg "MirrorRule" = some (.ref A.MirrorRule)
  c_IntoOneRule : Cls K A.IntoOneRule
  g_IntoOneRule : mg "IntoOneRule" = some (.ref A.IntoOneRule)
  c_IntoOtherRule : Cls K A.IntoOtherRule
  g_IntoOtherRule : mg "IntoOtherRule" = some (.ref A.IntoOtherRule)
  c_OutOfOneRule : Cls K A.OutOfOneRule
  g_OutOfOneRule : mg "OutOfOneRule" = some (.ref A.OutOfOneRule)
  c_OutOfOtherRule : Cls K A.OutOfOtherRule
  g_OutOfOtherRule : mg "OutOfOtherRule" = some (.ref A.OutOfOtherRule)
  c_UnderGroupRule : Cls K A.UnderGroupRule
  g_UnderGroupRule : mg "UnderGroupRule" = some (.ref A.UnderGroupRule)
  c_KeepOneRule : Cls K A.KeepOneRule
  g_KeepOneRule : mg "KeepOneRule" = some (.ref A.KeepOneRule)
  c_KeepOtherRule : Cls K A.KeepOtherRule
  g_KeepOtherRule : mg "KeepOtherRule" = some (.ref A.KeepOtherRule)
  c_KeepUpRule : Cls K A.KeepUpRule
  g_KeepUpRule : mg "KeepUpRule" = some (.ref A.KeepUpRule)
  c_KeepDownRule : Cls K A.KeepDownRule
  g_KeepDownRule : mg "KeepDownRule" = some (.ref A.KeepDownRule)
  c_KeepOnceRule : Cls K A.KeepOnceRule
  g_KeepOnceRule : mg "KeepOnceRule" = some (.ref A.KeepOnceRule)
  c_KeepAllRule : Cls K A.KeepAllRule
  g_KeepAllRule : mg "KeepAllRule" = some (.ref A.KeepAllRule)
  c_KeepNoneRule : Cls K A.KeepNoneRule
  g_KeepNoneRule : mg "KeepNoneRule" = some (.ref A.KeepNoneRule)
  c_TurnRule : Cls K A.TurnRule
  g_TurnRule : mg "TurnRule" = some (.ref A.TurnRule)
  c_RegroupOneRule : Cls K A.RegroupOneRule
  g_RegroupOneRule : mg "RegroupOneRule" = some (.ref A.RegroupOneRule)
  c_RegroupOtherRule : Cls K A.RegroupOtherRule
  g_RegroupOtherRule : mg "RegroupOtherRule" = some (.ref A.RegroupOtherRule)
  c_SortGoneRule : Cls K A.SortGoneRule
  g_SortGoneRule : mg "SortGoneRule" = some (.ref A.SortGoneRule)
  c_FirstsRule : Cls K A.FirstsRule
  g_FirstsRule : mg "FirstsRule" = some (.ref A.FirstsRule)
  xa_PartRule : PySem.W.findIn K (.ref A.PartRule) "__class__" = some (some (.builtin "object.__class__"))
  xm_PartRule : PySem.W.mroIn K A.PartRule (.type "object") = some true
  xa_UniteRule : PySem.W.findIn K (.ref A.UniteRule) "__class__" = some (some (.builtin "object.__class__"))
  xm_UniteRule : PySem.W.mroIn K A.UniteRule (.type "object") = some true
  xa_SwapRule : PySem.W.findIn K (.ref A.SwapRule) "__class__" = some (some (.builtin "object.__class__"))
  xm_SwapRule : PySem.W.mroIn K A.SwapRule (.type "object") = some true
  xa_ClearRule : PySem.W.findIn K (.ref A.ClearRule) "__class__" = some (some (.builtin "object.__class__"))
  xm_ClearRule : PySem.W.mroIn K A.ClearRule (.type "object") = some true
  xa_MirrorRule : PySem.W.findIn K (.ref A.MirrorRule) "__class__" = some (some (.builtin "object.__class__"))
  xm_MirrorRule : PySem.W.mroIn K A.MirrorRule (.type "object") = some true
  xa_IntoOneRule : PySem.W.findIn K (.ref A.IntoOneRule) "__class__" = some (some (.builtin "object.__class__"))
  xm_IntoOneRule : PySem.W.mroIn K A.IntoOneRule (.type "object") = some true
  xa_IntoOtherRule : PySem.W.findIn K (.ref A.IntoOtherRule) "__class__" = some (some (.builtin "object.__class__"))
  xm_IntoOtherRule : PySem.W.mroIn K A.IntoOtherRule (.type "object") = some true
  xa_OutOfOneRule : PySem.W.findIn K (.ref A.OutOfOneRule) "__class__" = some (some (.builtin "object.__class__"))
  xm_OutOfOneRule : PySem.W.mroIn K A.OutOfOneRule (.type "object") = some true
  xa_OutOfOtherRule : PySem.W.findIn K (.ref A.OutOfOtherRule) "__class__" = some (some (.builtin "object.__class__"))
  xm_OutOfOtherRule : PySem.W.mroIn K A.OutOfOtherRule (.type "object") = some true
  xa_UnderGroupRule : PySem.W.findIn K (.ref A.UnderGroupRule) "__class__" = some (some (.builtin "object.__class__"))
  xm_UnderGroupRule : PySem.W.mroIn K A.UnderGroupRule (.type "object") = some true
  xa_KeepOneRule : PySem.W.findIn K (.ref A.KeepOneRule) "__class__" = some (some (.builtin "object.__class__"))
  xm_KeepOneRule : PySem.W.mroIn K A.KeepOneRule (.type "object") = some true
  xa_KeepOtherRule : PySem.W.findIn K (.ref A.KeepOtherRule) "__class__" = some (some (.builtin "object.__class__"))
  xm_KeepOtherRule : PySem.W.mroIn K A.KeepOtherRule (.type "object") = some true
  xa_KeepUpRule : PySem.W.findIn K (.ref A.KeepUpRule) "__class__" = some (some (.builtin "object.__class__"))
  xm_KeepUpRule : PySem.W.mroIn K A.KeepUpRule (.type "object") = some true
  xa_KeepDownRule : PySem.W.findIn K (.ref A.KeepDownRule) "__class__" = some (some (.builtin "object.__class__"))
  xm_KeepDownRule : PySem.W.mroIn K A.KeepDownRule (.type "object") = some true
  xa_KeepOnceRule : PySem.W.findIn K (.ref A.KeepOnceRule) "__class__" = some (some (.builtin "object.__class__"))
  xm_KeepOnceRule : PySem.W.mroIn K A.KeepOnceRule (.type "object") = some true
  xa_KeepAllRule : PySem.W.findIn K (.ref A.KeepAllRule) "__class__" = some (some (.builtin "object.__class__"))
  xm_KeepAllRule : PySem.W.mroIn K A.KeepAllRule (.type "object") = some true
  xa_KeepNoneRule : PySem.W.findIn K (.ref A.KeepNoneRule) "__class__" = some (some (.builtin "object.__class__"))
  xm_KeepNoneRule : PySem.W.mroIn K A.KeepNoneRule (.type "object") = some true
  xa_TurnRule : PySem.W.findIn K (.ref A.TurnRule) "__class__" = some (some (.builtin "object.__class__"))
  xm_TurnRule : PySem.W.mroIn K A.TurnRule (.type "object") = some true
  xa_RegroupOneRule : PySem.W.findIn K (.ref A.RegroupOneRule) "__class__" = some (some (.builtin "object.__class__"))
  xm_RegroupOneRule : PySem.W.mroIn K A.RegroupOneRule (.type "object") = some true
  xa_RegroupOtherRule : PySem.W.findIn K (.ref A.RegroupOtherRule) "__class__" = some (some (.builtin "object.__class__"))
  xm_RegroupOtherRule : PySem.W.mroIn K A.RegroupOtherRule (.type "object") = some true
  xa_SortGoneRule : PySem.W.findIn K (.ref A.SortGoneRule) "__class__" = some (some (.builtin "object.__class__"))
  xm_SortGoneRule : PySem.W.mroIn K A.SortGoneRule (.type "object") = some true
  xa_FirstsRule : PySem.W.findIn K (.ref A.FirstsRule) "__class__" = some (some (.builtin "object.__class__"))
  xm_FirstsRule : PySem.W.mroIn K A.FirstsRule (.type "object") = some true
  xn : PySem.W.specialIn K (.builtin "object.__class__") "__get__" = some (some (.builtin "getset_descriptor.__get__"))
  xt : PySem.W.takesIn K (.builtin "object.__class__") = some true
  mo_PartRule : PySem.W.makesIn K A.PartRule = true
  io_PartRule : PySem.W.findIn K (.ref A.PartRule) "__init__" = some (some (.builtin "object.__init__"))
  kc_PartRule : PySem.W.keepIn K (.ref A.PartRule) = true
  mo_UniteRule : PySem.W.makesIn K A.UniteRule = true
  io_UniteRule : PySem.W.findIn K (.ref A.UniteRule) "__init__" = some (some (.builtin "object.__init__"))
  kc_UniteRule : PySem.W.keepIn K (.ref A.UniteRule) = true
  mo_SwapRule : PySem.W.makesIn K A.SwapRule = true
  io_SwapRule : PySem.W.findIn K (.ref A.SwapRule) "__init__" = some (some (.builtin "object.__init__"))
  kc_SwapRule : PySem.W.keepIn K (.ref A.SwapRule) = true
  mo_ClearRule : PySem.W.makesIn K A.ClearRule = true
  io_ClearRule : PySem.W.findIn K (.ref A.ClearRule) "__init__" = some (some (.builtin "object.__init__"))
  kc_ClearRule : PySem.W.keepIn K (.ref A.ClearRule) = true
  mo_MirrorRule : PySem.W.makesIn K A.MirrorRule = true
  io_MirrorRule : PySem.W.findIn K (.ref A.MirrorRule) "__init__" = some (some (.builtin "object.__init__"))
  kc_MirrorRule : PySem.W.keepIn K (.ref A.MirrorRule) = true
  mo_IntoOneRule : PySem.W.makesIn K A.IntoOneRule = true
  io_IntoOneRule : PySem.W.findIn K (.ref A.IntoOneRule) "__init__" = some (some (.builtin "object.__init__"))
  kc_IntoOneRule : PySem.W.keepIn K (.ref A.IntoOneRule) = true
  mo_IntoOtherRule : PySem.W.makesIn K A.IntoOtherRule = true
  io_IntoOtherRule : PySem.W.findIn K (.ref A.IntoOtherRule) "__init__" = some (some (.builtin "object.__init__"))
  kc_IntoOtherRule : PySem.W.keepIn K (.ref A.IntoOtherRule) = true
  mo_OutOfOneRule : PySem.W.makesIn K A.OutOfOneRule = true
  io_OutOfOneRule : PySem.W.findIn K (.ref A.OutOfOneRule) "__init__" = some (some (.builtin "object.__init__"))
  kc_OutOfOneRule : PySem.W.keepIn K (.ref A.OutOfOneRule) = true
  mo_OutOfOtherRule : PySem.W.makesIn K A.OutOfOtherRule = true
  io_OutOfOtherRule : PySem.W.findIn K (.ref A.OutOfOtherRule) "__init__" = some (some (.builtin "object.__init__"))
  kc_OutOfOtherRule : PySem.W.keepIn K (.ref A.OutOfOtherRule) = true
  mo_UnderGroupRule : PySem.W.makesIn K A.UnderGroupRule = true
  io_UnderGroupRule : PySem.W.findIn K (.ref A.UnderGroupRule) "__init__" = some (some (.builtin "object.__init__"))
  kc_UnderGroupRule : PySem.W.keepIn K (.ref A.UnderGroupRule) = true
  mo_KeepOneRule : PySem.W.makesIn K A.KeepOneRule = true
  io_KeepOneRule : PySem.W.findIn K (.ref A.KeepOneRule) "__init__" = some (some (.builtin "object.__init__"))
  kc_KeepOneRule : PySem.W.keepIn K (.ref A.KeepOneRule) = true
  mo_KeepOtherRule : PySem.W.makesIn K A.KeepOtherRule = true
  io_KeepOtherRule : PySem.W.findIn K (.ref A.KeepOtherRule) "__init__" = some (some (.builtin "object.__init__"))
  kc_KeepOtherRule : PySem.W.keepIn K (.ref A.KeepOtherRule) = true
  mo_KeepUpRule : PySem.W.makesIn K A.KeepUpRule = true
  io_KeepUpRule : PySem.W.findIn K (.ref A.KeepUpRule) "__init__" = some (some (.builtin "object.__init__"))
  kc_KeepUpRule : PySem.W.keepIn K (.ref A.KeepUpRule) = true
  mo_KeepDownRule : PySem.W.makesIn K A.KeepDownRule = true
  io_KeepDownRule : PySem.W.findIn K (.ref A.KeepDownRule) "__init__" = some (some (.builtin "object.__init__"))
  kc_KeepDownRule : PySem.W.keepIn K (.ref A.KeepDownRule) = true
  mo_KeepOnceRule : PySem.W.makesIn K A.KeepOnceRule = true
  io_KeepOnceRule : PySem.W.findIn K (.ref A.KeepOnceRule) "__init__" = some (some (.builtin "object.__init__"))
  kc_KeepOnceRule : PySem.W.keepIn K (.ref A.KeepOnceRule) = true
  mo_KeepAllRule : PySem.W.makesIn K A.KeepAllRule = true
  io_KeepAllRule : PySem.W.findIn K (.ref A.KeepAllRule) "__init__" = some (some (.builtin "object.__init__"))
  kc_KeepAllRule : PySem.W.keepIn K (.ref A.KeepAllRule) = true
  mo_KeepNoneRule : PySem.W.makesIn K A.KeepNoneRule = true
  io_KeepNoneRule : PySem.W.findIn K (.ref A.KeepNoneRule) "__init__" = some (some (.builtin "object.__init__"))
  kc_KeepNoneRule : PySem.W.keepIn K (.ref A.KeepNoneRule) = true
  mo_TurnRule : PySem.W.makesIn K A.TurnRule = true
  io_TurnRule : PySem.W.findIn K (.ref A.TurnRule) "__init__" = some (some (.builtin "object.__init__"))
  kc_TurnRule : PySem.W.keepIn K (.ref A.TurnRule) = true
  mo_RegroupOneRule : PySem.W.makesIn K A.RegroupOneRule = true
  io_RegroupOneRule : PySem.W.findIn K (.ref A.RegroupOneRule) "__init__" = some (some (.builtin "object.__init__"))
  kc_RegroupOneRule : PySem.W.keepIn K (.ref A.RegroupOneRule) = true
  mo_RegroupOtherRule : PySem.W.makesIn K A.RegroupOtherRule = true
  io_RegroupOtherRule : PySem.W.findIn K (.ref A.RegroupOtherRule) "__init__" = some (some (.builtin "object.__init__"))
  kc_RegroupOtherRule : PySem.W.keepIn K (.ref A.RegroupOtherRule) = true
  mo_SortGoneRule : PySem.W.makesIn K A.SortGoneRule = true
  io_SortGoneRule : PySem.W.findIn K (.ref A.SortGoneRule) "__init__" = some (some (.builtin "object.__init__"))
  kc_SortGoneRule : PySem.W.keepIn K (.ref A.SortGoneRule) = true
  mo_FirstsRule : PySem.W.makesIn K A.FirstsRule = true
  io_FirstsRule : PySem.W.findIn K (.ref A.FirstsRule) "__init__" = some (some (.builtin "object.__init__"))
  kc_FirstsRule : PySem.W.keepIn K (.ref A.FirstsRule) = true
  cb_Rule : PySem.W.isClsIn K A.Rule = true
  tb_Rule : PySem.W.typeIn K (.ref A.Rule) = some (.type "type")
  sub_PartRule_Rule : PySem.W.subIn K (.ref A.PartRule) (.ref A.Rule) = some true
  sub_UniteRule_Rule : PySem.W.subIn K (.ref A.UniteRule) (.ref A.Rule) = some true
  sub_SwapRule_Rule : PySem.W.subIn K (.ref A.SwapRule) (.ref A.Rule) = some true
  sub_ClearRule_Rule : PySem.W.subIn K (.ref A.ClearRule) (.ref A.Rule) = some true
  sub_MirrorRule_Rule : PySem.W.subIn K (.ref A.MirrorRule) (.ref A.Rule) = some true
  sub_IntoOneRule_Rule : PySem.W.subIn K (.ref A.IntoOneRule) (.ref A.Rule) = some true
  sub_IntoOtherRule_Rule : PySem.W.subIn K (.ref A.IntoOtherRule) (.ref A.Rule) = some true
  sub_OutOfOneRule_Rule : PySem.W.subIn K (.ref A.OutOfOneRule) (.ref A.Rule) = some true
  sub_OutOfOtherRule_Rule : PySem.W.subIn K (.ref A.OutOfOtherRule) (.ref A.Rule) = some true
  sub_UnderGroupRule_Rule : PySem.W.subIn K (.ref A.UnderGroupRule) (.ref A.Rule) = some true
  sub_KeepOneRule_Rule : PySem.W.subIn K (.ref A.KeepOneRule) (.ref A.Rule) = some true
  sub_KeepOtherRule_Rule : PySem.W.subIn K (.ref A.KeepOtherRule) (.ref A.Rule) = some true
  sub_KeepUpRule_Rule : PySem.W.subIn K (.ref A.KeepUpRule) (.ref A.Rule) = some true
  sub_KeepDownRule_Rule : PySem.W.subIn K (.ref A.KeepDownRule) (.ref A.Rule) = some true
  sub_KeepOnceRule_Rule : PySem.W.subIn K (.ref A.KeepOnceRule) (.ref A.Rule) = some true
  sub_KeepAllRule_Rule : PySem.W.subIn K (.ref A.KeepAllRule) (.ref A.Rule) = some true
  sub_KeepNoneRule_Rule : PySem.W.subIn K (.ref A.KeepNoneRule) (.ref A.Rule) = some true
  sub_TurnRule_Rule : PySem.W.subIn K (.ref A.TurnRule) (.ref A.Rule) = some true
  sub_RegroupOneRule_Rule : PySem.W.subIn K (.ref A.RegroupOneRule) (.ref A.Rule) = some true
  sub_RegroupOtherRule_Rule : PySem.W.subIn K (.ref A.RegroupOtherRule) (.ref A.Rule) = some true
  sub_SortGoneRule_Rule : PySem.W.subIn K (.ref A.SortGoneRule) (.ref A.Rule) = some true
  sub_FirstsRule_Rule : PySem.W.subIn K (.ref A.FirstsRule) (.ref A.Rule) = some true
  b_isinstance : mg "isinstance" = none
  b_len : mg "len" = none
  b_list : mg "list" = none
  b_max : mg "max" = none
  b_min : mg "min" = none
  b_range : mg "range" = none
  b_str : mg "str" = none
local macro_rules | `(tactic| walk_at "z cls") => `(tactic| first | assumption | exact (‹Txt _ _ _›).c_Rule | exact (‹Txt _ _ _›).c_PartRule | exact (‹Txt _ _ _›).c_UniteRule | exact (‹Txt _ _ _›).c_SwapRule | exact (‹Txt _ _ _›).c_ClearRule | exact (‹Txt _ _ _›).c_MirrorRule | exact (‹Txt _ _ _›).c_IntoOneRule | exact (‹Txt _ _ _›).c_IntoOtherRule | exact (‹Txt _ _ _›).c_OutOfOneRule | exact (‹Txt _ _ _›).c_OutOfOtherRule | exact (‹Txt _ _ _›).c_UnderGroupRule | exact (‹Txt _ _ _›).c_KeepOneRule | exact (‹Txt _ _ _›).c_KeepOtherRule | exact (‹Txt _ _ _›).c_KeepUpRule | exact (‹Txt _ _ _›).c_KeepDownRule | exact (‹Txt _ _ _›).c_KeepOnceRule | exact (‹Txt _ _ _›).c_KeepAllRule | exact (‹Txt _ _ _›).c_KeepNoneRule | exact (‹Txt _ _ _›).c_TurnRule | exact (‹Txt _ _ _›).c_RegroupOneRule | exact (‹Txt _ _ _›).c_RegroupOtherRule | exact (‹Txt _ _ _›).c_SortGoneRule | exact (‹Txt _ _ _›).c_FirstsRule)
local macro_rules | `(tactic| walk_at "z attr") => `(tactic| first | fail)
def News (new : List (Addr × HO)) (H H' : Hp) : Prop := Z.Hs new H H'
theorem News.same {new : List (Addr × HO)} {H H' : Hp} (h : News new H H') : Same H H' := h.fr
def spWord (z : Str) : Sp := fun vs H Q _ => ∃ x, vs = [x] ∧ Q (.str z) H
def W : List Str := ["part", "unite", "swap", "clear", "mirror", "intoone", "intoother", "outofone", "outofother", "undergroup", "keepone", "keepother", "keepup", "keepdown", "keeponce", "keepall", "keepnone", "turn", "regroupone", "regroupother", "sortgone", "firsts"]
def Rk (A : Adr) : List (Addr × Str) := [(A.PartRule, "part"), (A.UniteRule, "unite"), (A.SwapRule, "swap"), (A.ClearRule, "clear"), (A.MirrorRule, "mirror"), (A.IntoOneRule, "intoone"), (A.IntoOtherRule, "intoother"), (A.OutOfOneRule, "outofone"), (A.OutOfOtherRule, "outofother"), (A.UnderGroupRule, "undergroup"), (A.KeepOneRule, "keepone"), (A.KeepOtherRule, "keepother"), (A.KeepUpRule, "keepup"), (A.KeepDownRule, "keepdown"), (A.KeepOnceRule, "keeponce"), (A.KeepAllRule, "keepall"), (A.KeepNoneRule, "keepnone"), (A.TurnRule, "turn"), (A.RegroupOneRule, "regroupone"), (A.RegroupOtherRule, "regroupother"), (A.SortGoneRule, "sortgone"), (A.FirstsRule, "firsts")]
def sp_PartRule_rule_word (K : PySem.W.Frag) (A : Adr) : Sp := spWord "part"
def sp_UniteRule_rule_word (K : PySem.W.Frag) (A : Adr) : Sp := spWord "unite"
def sp_SwapRule_rule_word (K : PySem.W.Frag) (A : Adr) : Sp := spWord "swap"
def sp_ClearRule_rule_word (K : PySem.W.Frag) (A : Adr) : Sp := spWord "clear"
def sp_MirrorRule_rule_word (K : PySem.W.Frag) (A : Adr) : Sp := spWord "mirror"
def sp_IntoOneRule_rule_word (K : PySem.W.Frag) (A : Adr) : Sp := spWord "intoone"
def sp_IntoOtherRule_rule_word (K : PySem.W.Frag) (A : Adr) : Sp := spWord "intoother"
def sp_OutOfOneRule_rule_word (K : PySem.W.Frag) (A : Adr) : Sp := spWord "outofone"
def sp_OutOfOtherRule_rule_word (K : PySem.W.Frag) (A : Adr) : Sp := spWord "outofother"
def sp_UnderGroupRule_rule_word (K : PySem.W.Frag) (A : Adr) : Sp := spWord "undergroup"
def sp_KeepOneRule_rule_word (K : PySem.W.Frag) (A : Adr) : Sp := spWord "keepone"
def sp_KeepOtherRule_rule_word (K : PySem.W.Frag) (A : Adr) : Sp := spWord "keepother"
def sp_KeepUpRule_rule_word (K : PySem.W.Frag) (A : Adr) : Sp := spWord "keepup"
def sp_KeepDownRule_rule_word (K : PySem.W.Frag) (A : Adr) : Sp := spWord "keepdown"
def sp_KeepOnceRule_rule_word (K : PySem.W.Frag) (A : Adr) : Sp := spWord "keeponce"
def sp_KeepAllRule_rule_word (K : PySem.W.Frag) (A : Adr) : Sp := spWord "keepall"
def sp_KeepNoneRule_rule_word (K : PySem.W.Frag) (A : Adr) : Sp := spWord "keepnone"
def sp_TurnRule_rule_word (K : PySem.W.Frag) (A : Adr) : Sp := spWord "turn"
def sp_RegroupOneRule_rule_word (K : PySem.W.Frag) (A : Adr) : Sp := spWord "regroupone"
def sp_RegroupOtherRule_rule_word (K : PySem.W.Frag) (A : Adr) : Sp := spWord "regroupother"
def sp_SortGoneRule_rule_word (K : PySem.W.Frag) (A : Adr) : Sp := spWord "sortgone"
def sp_FirstsRule_rule_word (K : PySem.W.Frag) (A : Adr) : Sp := spWord "firsts"
theorem rk_w {A : Adr} : (Rk A).map (·.2) = W := rfl
theorem w_ok : ∀ x ∈ W, PyData.strOk x = true := by decide +kernel
theorem w_len : ∀ x ∈ W, 1 ≤ x.length ∧ x.length ≤ 12 := by decide +kernel
/-- the instances' cells -/
def rcells (cs : List Addr) (rs : List (Addr × Addr)) : List (Addr × HO) := List.zipWith (fun C r => (r.1, HO.ins C r.2 [])) cs rs
theorem rcells_at {cs : List Addr} {rs : List (Addr × Addr)} {i : Nat} {C : Addr} {r : Addr × Addr} (h1 : cs[i]? = some C) (h2 : rs[i]? = some r) : (rcells cs rs)[i]? = some (r.1, .ins C r.2 []) := by
  unfold rcells
  rw [List.getElem?_zipWith, h1, h2]
/-- not a text -/
def NoStr (H : Hp) (v : V) : Prop := v = .non ∨ (∃ i, v = .int i) ∨ (∃ b, v = .bl b) ∨ (∃ a xs, v = .ref a ∧ H a = some (.lst xs)) ∨ (∃ a xs, v = .ref a ∧ H a = some (.tup xs)) ∨ ∃ a kvs, v = .ref a ∧ H a = some (.dK kvs)
def Thing (H : Hp) (v : V) : Prop := (∃ z : Str, v = .str z) ∨ NoStr H v
def sp_all_rules (K : PySem.W.Frag) (A : Adr) : Sp := fun vs H Q _ => vs = [] ∧ ∀ l (rs : List (Addr × Addr)) H', rs.length = 22 → News ((l, .lst (rs.map fun r => V.ref r.1)) :: rcells ((Rk A).map (·.1)) rs) H H' → Q (.ref l) H'
def sp_rules_told (K : PySem.W.Frag) (A : Adr) : Sp := fun vs H Q _ => vs = [] ∧ ∀ l H', News [(l, .lst (W.map V.str))] H H' → Q (.ref l) H'
def sp_law_all (K : PySem.W.Frag) (A : Adr) : Sp := fun vs H Q _ => vs = [] ∧ ∀ l H', News [(l, .lst (W.map V.str))] H H' → Q (.ref l) H'
def sp_rule_by (K : PySem.W.Frag) (A : Adr) : Sp := fun vs H Q _ => ∃ v, vs = [v] ∧ Thing H v ∧ (∀ H', Same H H' → (∀ z, v = .str z → z ∉ W) → Q .non H') ∧
  ∀ H' a r dx, Same H H' → r ∈ Rk A → v = .str r.2 → H' a = some (.ins r.1 dx []) → Q (.ref a) H'
def sp_law_rich (K : PySem.W.Frag) (A : Adr) : Sp := fun vs H Q _ => ∃ c, vs = [.int c] ∧ ∀ r, Q (.int r) H
def sp_law_purse (K : PySem.W.Frag) (A : Adr) : Sp := fun vs H Q _ => ∃ (a : Addr) (ns : List Int) (k : Nat), vs = [.ref a, .int k] ∧ SqL K H a (ns.map V.int) ∧ ∀ p (xs : List Int) H', xs ≠ [] → xs.length ≤ 2 → News [(p, .lst (xs.map V.int))] H H' → Q (.ref p) H'
def sp_law_take (K : PySem.W.Frag) (A : Adr) : Sp := fun vs H Q _ => ∃ (F : Hp) (p : Addr) (xs : List Int) (b : Int), vs = [.ref p, .int b] ∧ xs ≠ [] ∧ xs.length ≤ 2 ∧ 1 ≤ b ∧ b ≤ 1000 ∧ Z.Hs [(p, .lst (xs.map V.int))] F H ∧
  ∀ r (ys : List Int) H', 0 ≤ r → r < b → ys ≠ [] → ys.length ≤ 2 → Z.Hs [(p, .lst (ys.map V.int))] F H' → Q (.int r) H'
def sp_law_thing (K : PySem.W.Frag) (A : Adr) : Sp := fun vs H Q _ => ∃ (F : Hp) (p : Addr) (xs : List Int), vs = [.ref p] ∧ xs ≠ [] ∧ xs.length ≤ 2 ∧ Z.Hs [(p, .lst (xs.map V.int))] F H ∧ ∀ v H', Same F H' → Thing H' v → Q v H'
def spLaw (K : PySem.W.Frag) : Sp := fun vs H Q _ => ∃ (a : Addr) (ns : List Int), vs = [.ref a] ∧ SqL K H a (ns.map V.int) ∧ ns.length ≤ 63 ∧ ∀ H', Q (.bl true) H'
section
variable {P : Program} {w : World} {K : PySem.W.Frag} {mg : Str → Option Value} {base : Heap} {A : Adr}
theorem ok_PartRule_rule_word (T : Txt K mg A) : ∃ fd, FnOk P w K mg base CX0 1 A.f_PartRule_rule_word fd ["self"] (sp_PartRule_rule_word K A) ∧ Binds K fd ["self"] [] := by
  have ⟨fd, F, b⟩ := T.d_PartRule_rule_word
  refine ⟨fd, F.ok sc_PartRule_rule_word (fun vs H Q E h => ?_) (fun cdv Ar outer s H vs Q E hr h => ?_), b⟩
  · obtain ⟨x, rfl, _⟩ := h
    rfl
  · obtain ⟨x, rfl, k⟩ := h
    have nd := sc_PartRule_rule_word.nd
    have hu := hu_of hr
    refine ⟨_, (pss_one (ps_ret pe_str)), ?_⟩
    simp only [cxOf, Cx.nox, L2.start, List.map_cons, List.map_nil, List.length_cons, List.length_nil, Nat.reduceAdd, Nat.reduceSub, List.replicate, List.cons_append, List.nil_append]
    walk_at "z"
    exact k
theorem ok_UniteRule_rule_word (T : Txt K mg A) : ∃ fd, FnOk P w K mg base CX0 1 A.f_UniteRule_rule_word fd ["self"] (sp_UniteRule_rule_word K A) ∧ Binds K fd ["self"] [] := by
  have ⟨fd, F, b⟩ := T.d_UniteRule_rule_word
  refine ⟨fd, F.ok sc_UniteRule_rule_word (fun vs H Q E h => ?_) (fun cdv Ar outer s H vs Q E hr h => ?_), b⟩
  · obtain ⟨x, rfl, _⟩ := h
    rfl
  · obtain ⟨x, rfl, k⟩ := h
    have nd := sc_UniteRule_rule_word.nd
    have hu := hu_of hr
    refine ⟨_, (pss_one (ps_ret pe_str)), ?_⟩
    simp only [cxOf, Cx.nox, L2.start, List.map_cons, List.map_nil, List.length_cons, List.length_nil, Nat.reduceAdd, Nat.reduceSub, List.replicate, List.cons_append, List.nil_append]
    walk_at "z"
    exact k
theorem ok_SwapRule_rule_word (T : Txt K mg A) : ∃ fd, FnOk P w K mg base CX0 1 A.f_SwapRule_rule_word fd ["self"] (sp_SwapRule_rule_word K A) ∧ Binds K fd ["self"] [] := by
  have ⟨fd, F, b⟩ := T.d_SwapRule_rule_word
  refine ⟨fd, F.ok sc_SwapRule_rule_word (fun vs H Q E h => ?_) (fun cdv Ar outer s H vs Q E hr h => ?_), b⟩
  · obtain ⟨x, rfl, _⟩ := h
    rfl
  · obtain ⟨x, rfl, k⟩ := h
    have nd := sc_SwapRule_rule_word.nd
    have hu := hu_of hr
    refine ⟨_, (pss_one (ps_ret pe_str)), ?_⟩
    simp only [cxOf, Cx.nox, L2.start, List.map_cons, List.map_nil, List.length_cons, List.length_nil, Nat.reduceAdd, Nat.reduceSub, List.replicate, List.cons_append, List.nil_append]
    walk_at "z"
    exact k
theorem ok_ClearRule_rule_word (T : Txt K mg A) : ∃ fd, FnOk P w K mg base CX0 1 A.f_ClearRule_rule_word fd ["self"] (sp_ClearRule_rule_word K A) ∧ Binds K fd ["self"] [] := by
  have ⟨fd, F, b⟩ := T.d_ClearRule_rule_word
  refine ⟨fd, F.ok sc_ClearRule_rule_word (fun vs H Q E h => ?_) (fun cdv Ar outer s H vs Q E hr h => ?_), b⟩
  · obtain ⟨x, rfl, _⟩ := h
    rfl
  · obtain ⟨x, rfl, k⟩ := h
    have nd := sc_ClearRule_rule_word.nd
    have hu := hu_of hr
    refine ⟨_, (pss_one (ps_ret pe_str)), ?_⟩
    simp only [cxOf, Cx.nox, L2.start, List.map_cons, List.map_nil, List.length_cons, List.length_nil, Nat.reduceAdd, Nat.reduceSub, List.replicate, List.cons_append, List.nil_append]
    walk_at "z"
    exact k
theorem ok_MirrorRule_rule_word (T : Txt K mg A) : ∃ fd, FnOk P w K mg base CX0 1 A.f_MirrorRule_rule_word fd ["self"] (sp_MirrorRule_rule_word K A) ∧ Binds K fd ["self"] [] := by
  have ⟨fd, F, b⟩ := T.d_MirrorRule_rule_word
  refine ⟨fd, F.ok sc_MirrorRule_rule_word (fun vs H Q E h => ?_) (fun cdv Ar outer s H vs Q E hr h => ?_), b⟩
  · obtain ⟨x, rfl, _⟩ := h
    rfl
  · obtain ⟨x, rfl, k⟩ := h
    have nd := sc_MirrorRule_rule_word.nd
    have hu := hu_of hr
    refine ⟨_, (pss_one (ps_ret pe_str)), ?_⟩
    simp only [cxOf, Cx.nox, L2.start, List.map_cons, List.map_nil, List.length_cons, List.length_nil, Nat.reduceAdd, Nat.reduceSub, List.replicate, List.cons_append, List.nil_append]
    walk_at "z"
    exact k
theorem ok_IntoOneRule_rule_word (T : Txt K mg A) : ∃ fd, FnOk P w K mg base CX0 1 A.f_IntoOneRule_rule_word fd ["self"] (sp_IntoOneRule_rule_word K A) ∧ Binds K fd ["self"] [] := by
  have ⟨fd, F, b⟩ := T.d_IntoOneRule_rule_word
  refine ⟨fd, F.ok sc_IntoOneRule_rule_word (fun vs H Q E h => ?_) (fun cdv Ar outer s H vs Q E hr h => ?_), b⟩
  · obtain ⟨x, rfl, _⟩ := h
    rfl
  · obtain ⟨x, rfl, k⟩ := h
    have nd := sc_IntoOneRule_rule_word.nd
    have hu := hu_of hr
    refine ⟨_, (pss_one (ps_ret pe_str)), ?_⟩
    simp only [cxOf, Cx.nox, L2.start, List.map_cons, List.map_nil, List.length_cons, List.length_nil, Nat.reduceAdd, Nat.reduceSub, List.replicate, List.cons_append, List.nil_append]
    walk_at "z"
    exact k
theorem ok_IntoOtherRule_rule_word (T : Txt K mg A) : ∃ fd, FnOk P w K mg base CX0 1 A.f_IntoOtherRule_rule_word fd ["self"] (sp_IntoOtherRule_rule_word K A) ∧ Binds K fd ["self"] [] := by
  have ⟨fd, F, b⟩ := T.d_IntoOtherRule_rule_word
  refine ⟨fd, F.ok sc_IntoOtherRule_rule_word (fun vs H Q E h => ?_) (fun cdv Ar outer s H vs Q E hr h => ?_), b⟩
  · obtain ⟨x, rfl, _⟩ := h
    rfl
  · obtain ⟨x, rfl, k⟩ := h
    have nd := sc_IntoOtherRule_rule_word.nd
    have hu := hu_of hr
    refine ⟨_, (pss_one (ps_ret pe_str)), ?_⟩
    simp only [cxOf, Cx.nox, L2.start, List.map_cons, List.map_nil, List.length_cons, List.length_nil, Nat.reduceAdd, Nat.reduceSub, List.replicate, List.cons_append, List.nil_append]
    walk_at "z"
    exact k
theorem ok_OutOfOneRule_rule_word (T : Txt K mg A) : ∃ fd, FnOk P w K mg base CX0 1 A.f_OutOfOneRule_rule_word fd ["self"] (sp_OutOfOneRule_rule_word K A) ∧ Binds K fd ["self"] [] := by
  have ⟨fd, F, b⟩ := T.d_OutOfOneRule_rule_word
  refine ⟨fd, F.ok sc_OutOfOneRule_rule_word (fun vs H Q E h => ?_) (fun cdv Ar outer s H vs Q E hr h => ?_), b⟩
  · obtain ⟨x, rfl, _⟩ := h
    rfl
  · obtain ⟨x, rfl, k⟩ := h
    have nd := sc_OutOfOneRule_rule_word.nd
    have hu := hu_of hr
    refine ⟨_, (pss_one (ps_ret pe_str)), ?_⟩
    simp only [cxOf, Cx.nox, L2.start, List.map_cons, List.map_nil, List.length_cons, List.length_nil, Nat.reduceAdd, Nat.reduceSub, List.replicate, List.cons_append, List.nil_append]
    walk_at "z"
    exact k
theorem ok_OutOfOtherRule_rule_word (T : Txt K mg A) : ∃ fd, FnOk P w K mg base CX0 1 A.f_OutOfOtherRule_rule_word fd ["self"] (sp_OutOfOtherRule_rule_word K A) ∧ Binds K fd ["self"] [] := by
  have ⟨fd, F, b⟩ := T.d_OutOfOtherRule_rule_word
  refine ⟨fd, F.ok sc_OutOfOtherRule_rule_word (fun vs H Q E h => ?_) (fun cdv Ar outer s H vs Q E hr h => ?_), b⟩
  · obtain ⟨x, rfl, _⟩ := h
    rfl
  · obtain ⟨x, rfl, k⟩ := h
    have nd := sc_OutOfOtherRule_rule_word.nd
    have hu := hu_of hr
    refine ⟨_, (pss_one (ps_ret pe_str)), ?_⟩
    simp only [cxOf, Cx.nox, L2.start, List.map_cons, List.map_nil, List.length_cons, List.length_nil, Nat.reduceAdd, Nat.reduceSub, List.replicate, List.cons_append, List.nil_append]
    walk_at "z"
    exact k
theorem ok_UnderGroupRule_rule_word (T : Txt K mg A) : ∃ fd, FnOk P w K mg base CX0 1 A.f_UnderGroupRule_rule_word fd ["self"] (sp_UnderGroupRule_rule_word K A) ∧ Binds K fd ["self"] [] := by
  have ⟨fd, F, b⟩ := T.d_UnderGroupRule_rule_word
  refine ⟨fd, F.ok sc_UnderGroupRule_rule_word (fun vs H Q E h => ?_) (fun cdv Ar outer s H vs Q E hr h => ?_), b⟩
  · obtain ⟨x, rfl, _⟩ := h
    rfl
  · obtain ⟨x, rfl, k⟩ := h
    have nd := sc_UnderGroupRule_rule_word.nd
    have hu := hu_of hr
    refine ⟨_, (pss_one (ps_ret pe_str)), ?_⟩
    simp only [cxOf, Cx.nox, L2.start, List.map_cons, List.map_nil, List.length_cons, List.length_nil, Nat.reduceAdd, Nat.reduceSub, List.replicate, List.cons_append, List.nil_append]
    walk_at "z"
    exact k
theorem ok_KeepOneRule_rule_word (T : Txt K mg A) : ∃ fd, FnOk P w K mg base CX0 1 A.f_KeepOneRule_rule_word fd ["self"] (sp_KeepOneRule_rule_word K A) ∧ Binds K fd ["self"] [] := by
  have ⟨fd, F, b⟩ := T.d_KeepOneRule_rule_word
  refine ⟨fd, F.ok sc_KeepOneRule_rule_word (fun vs H Q E h => ?_) (fun cdv Ar outer s H vs Q E hr h => ?_), b⟩
  · obtain ⟨x, rfl, _⟩ := h
    rfl
  · obtain ⟨x, rfl, k⟩ := h
    have nd := sc_KeepOneRule_rule_word.nd
    have hu := hu_of hr
    refine ⟨_, (pss_one (ps_ret pe_str)), ?_⟩
    simp only [cxOf, Cx.nox, L2.start, List.map_cons, List.map_nil, List.length_cons, List.length_nil, Nat.reduceAdd, Nat.reduceSub, List.replicate, List.cons_append, List.nil_append]
    walk_at "z"
    exact k
theorem ok_KeepOtherRule_rule_word (T : Txt K mg A) : ∃ fd, FnOk P w K mg base CX0 1 A.f_KeepOtherRule_rule_word fd ["self"] (sp_KeepOtherRule_rule_word K A) ∧ Binds K fd ["self"] [] := by
  have ⟨fd, F, b⟩ := T.d_KeepOtherRule_rule_word
  refine ⟨fd, F.ok sc_KeepOtherRule_rule_word (fun vs H Q E h => ?_) (fun cdv Ar outer s H vs Q E hr h => ?_), b⟩
  · obtain ⟨x, rfl, _⟩ := h
    rfl
  · obtain ⟨x, rfl, k⟩ := h
    have nd := sc_KeepOtherRule_rule_word.nd
    have hu := hu_of hr
    refine ⟨_, (pss_one (ps_ret pe_str)), ?_⟩
    simp only [cxOf, Cx.nox, L2.start, List.map_cons, List.map_nil, List.length_cons, List.length_nil, Nat.reduceAdd, Nat.reduceSub, List.replicate, List.cons_append, List.nil_append]
    walk_at "z"
    exact k
theorem ok_KeepUpRule_rule_word (T : Txt K mg A) : ∃ fd, FnOk P w K mg base CX0 1 A.f_KeepUpRule_rule_word fd ["self"] (sp_KeepUpRule_rule_word K A) ∧ Binds K fd ["self"] [] := by
  have ⟨fd, F, b⟩ := T.d_KeepUpRule_rule_word
  refine ⟨fd, F.ok sc_KeepUpRule_rule_word (fun vs H Q E h => ?_) (fun cdv Ar outer s H vs Q E hr h => ?_), b⟩
  · obtain ⟨x, rfl, _⟩ := h
    rfl
  · obtain ⟨x, rfl, k⟩ := h
    have nd := sc_KeepUpRule_rule_word.nd
    have hu := hu_of hr
    refine ⟨_, (pss_one (ps_ret pe_str)), ?_⟩
    simp only [cxOf, Cx.nox, L2.start, List.map_cons, List.map_nil, List.length_cons, List.length_nil, Nat.reduceAdd, Nat.reduceSub, List.replicate, List.cons_append, List.nil_append]
    walk_at "z"
    exact k
theorem ok_KeepDownRule_rule_word (T : Txt K mg A) : ∃ fd, FnOk P w K mg base CX0 1 A.f_KeepDownRule_rule_word fd ["self"] (sp_KeepDownRule_rule_word K A) ∧ Binds K fd ["self"] [] := by
  have ⟨fd, F, b⟩ := T.d_KeepDownRule_rule_word
  refine ⟨fd, F.ok sc_KeepDownRule_rule_word (fun vs H Q E h => ?_) (fun cdv Ar outer s H vs Q E hr h => ?_), b⟩
  · obtain ⟨x, rfl, _⟩ := h
    rfl
  · obtain ⟨x, rfl, k⟩ := h
    have nd := sc_KeepDownRule_rule_word.nd
    have hu := hu_of hr
    refine ⟨_, (pss_one (ps_ret pe_str)), ?_⟩
    simp only [cxOf, Cx.nox, L2.start, List.map_cons, List.map_nil, List.length_cons, List.length_nil, Nat.reduceAdd, Nat.reduceSub, List.replicate, List.cons_append, List.nil_append]
    walk_at "z"
    exact k
theorem ok_KeepOnceRule_rule_word (T : Txt K mg A) : ∃ fd, FnOk P w K mg base CX0 1 A.f_KeepOnceRule_rule_word fd ["self"] (sp_KeepOnceRule_rule_word K A) ∧ Binds K fd ["self"] [] := by
  have ⟨fd, F, b⟩ := T.d_KeepOnceRule_rule_word
  refine ⟨fd, F.ok sc_KeepOnceRule_rule_word (fun vs H Q E h => ?_) (fun cdv Ar outer s H vs Q E hr h => ?_), b⟩
  · obtain ⟨x, rfl, _⟩ := h
    rfl
  · obtain ⟨x, rfl, k⟩ := h
    have nd := sc_KeepOnceRule_rule_word.nd
    have hu := hu_of hr
    refine ⟨_, (pss_one (ps_ret pe_str)), ?_⟩
    simp only [cxOf, Cx.nox, L2.start, List.map_cons, List.map_nil, List.length_cons, List.length_nil, Nat.reduceAdd, Nat.reduceSub, List.replicate, List.cons_append, List.nil_append]
    walk_at "z"
    exact k
theorem ok_KeepAllRule_rule_word (T : Txt K mg A) : ∃ fd, FnOk P w K mg base CX0 1 A.f_KeepAllRule_rule_word fd ["self"] (sp_KeepAllRule_rule_word K A) ∧ Binds K fd ["self"] [] := by
  have ⟨fd, F, b⟩ := T.d_KeepAllRule_rule_word
  refine ⟨fd, F.ok sc_KeepAllRule_rule_word (fun vs H Q E h => ?_) (fun cdv Ar outer s H vs Q E hr h => ?_), b⟩
  · obtain ⟨x, rfl, _⟩ := h
    rfl
  · obtain ⟨x, rfl, k⟩ := h
    have nd := sc_KeepAllRule_rule_word.nd
    have hu := hu_of hr
    refine ⟨_, (pss_one (ps_ret pe_str)), ?_⟩
    simp only [cxOf, Cx.nox, L2.start, List.map_cons, List.map_nil, List.length_cons, List.length_nil, Nat.reduceAdd, Nat.reduceSub, List.replicate, List.cons_append, List.nil_append]
    walk_at "z"
    exact k
theorem ok_KeepNoneRule_rule_word (T : Txt K mg A) : ∃ fd, FnOk P w K mg base CX0 1 A.f_KeepNoneRule_rule_word fd ["self"] (sp_KeepNoneRule_rule_word K A) ∧ Binds K fd ["self"] [] := by
  have ⟨fd, F, b⟩ := T.d_KeepNoneRule_rule_word
  refine ⟨fd, F.ok sc_KeepNoneRule_rule_word (fun vs H Q E h => ?_) (fun cdv Ar outer s H vs Q E hr h => ?_), b⟩
  · obtain ⟨x, rfl, _⟩ := h
    rfl
  · obtain ⟨x, rfl, k⟩ := h
    have nd := sc_KeepNoneRule_rule_word.nd
    have hu := hu_of hr
    refine ⟨_, (pss_one (ps_ret pe_str)), ?_⟩
    simp only [cxOf, Cx.nox, L2.start, List.map_cons, List.map_nil, List.length_cons, List.length_nil, Nat.reduceAdd, Nat.reduceSub, List.replicate, List.cons_append, List.nil_append]
    walk_at "z"
    exact k
theorem ok_TurnRule_rule_word (T : Txt K mg A) : ∃ fd, FnOk P w K mg base CX0 1 A.f_TurnRule_rule_word fd ["self"] (sp_TurnRule_rule_word K A) ∧ Binds K fd ["self"] [] := by
  have ⟨fd, F, b⟩ := T.d_TurnRule_rule_word
  refine ⟨fd, F.ok sc_TurnRule_rule_word (fun vs H Q E h => ?_) (fun cdv Ar outer s H vs Q E hr h => ?_), b⟩
  · obtain ⟨x, rfl, _⟩ := h
    rfl
  · obtain ⟨x, rfl, k⟩ := h
    have nd := sc_TurnRule_rule_word.nd
    have hu := hu_of hr
    refine ⟨_, (pss_one (ps_ret pe_str)), ?_⟩
    simp only [cxOf, Cx.nox, L2.start, List.map_cons, List.map_nil, List.length_cons, List.length_nil, Nat.reduceAdd, Nat.reduceSub, List.replicate, List.cons_append, List.nil_append]
    walk_at "z"
    exact k
theorem ok_RegroupOneRule_rule_word (T : Txt K mg A) : ∃ fd, FnOk P w K mg base CX0 1 A.f_RegroupOneRule_rule_word fd ["self"] (sp_RegroupOneRule_rule_word K A) ∧ Binds K fd ["self"] [] := by
  have ⟨fd, F, b⟩ := T.d_RegroupOneRule_rule_word
  refine ⟨fd, F.ok sc_RegroupOneRule_rule_word (fun vs H Q E h => ?_) (fun cdv Ar outer s H vs Q E hr h => ?_), b⟩
  · obtain ⟨x, rfl, _⟩ := h
    rfl
  · obtain ⟨x, rfl, k⟩ := h
    have nd := sc_RegroupOneRule_rule_word.nd
    have hu := hu_of hr
    refine ⟨_, (pss_one (ps_ret pe_str)), ?_⟩
    simp only [cxOf, Cx.nox, L2.start, List.map_cons, List.map_nil, List.length_cons, List.length_nil, Nat.reduceAdd, Nat.reduceSub, List.replicate, List.cons_append, List.nil_append]
    walk_at "z"
    exact k
theorem ok_RegroupOtherRule_rule_word (T : Txt K mg A) : ∃ fd, FnOk P w K mg base CX0 1 A.f_RegroupOtherRule_rule_word fd ["self"] (sp_RegroupOtherRule_rule_word K A) ∧ Binds K fd ["self"] [] := by
  have ⟨fd, F, b⟩ := T.d_RegroupOtherRule_rule_word
  refine ⟨fd, F.ok sc_RegroupOtherRule_rule_word (fun vs H Q E h => ?_) (fun cdv Ar outer s H vs Q E hr h => ?_), b⟩
  · obtain ⟨x, rfl, _⟩ := h
    rfl
  · obtain ⟨x, rfl, k⟩ := h
    have nd := sc_RegroupOtherRule_rule_word.nd
    have hu := hu_of hr
    refine ⟨_, (pss_one (ps_ret pe_str)), ?_⟩
    simp only [cxOf, Cx.nox, L2.start, List.map_cons, List.map_nil, List.length_cons, List.length_nil, Nat.reduceAdd, Nat.reduceSub, List.replicate, List.cons_append, List.nil_append]
    walk_at "z"
    exact k
theorem ok_SortGoneRule_rule_word (T : Txt K mg A) : ∃ fd, FnOk P w K mg base CX0 1 A.f_SortGoneRule_rule_word fd ["self"] (sp_SortGoneRule_rule_word K A) ∧ Binds K fd ["self"] [] := by
  have ⟨fd, F, b⟩ := T.d_SortGoneRule_rule_word
  refine ⟨fd, F.ok sc_SortGoneRule_rule_word (fun vs H Q E h => ?_) (fun cdv Ar outer s H vs Q E hr h => ?_), b⟩
  · obtain ⟨x, rfl, _⟩ := h
    rfl
  · obtain ⟨x, rfl, k⟩ := h
    have nd := sc_SortGoneRule_rule_word.nd
    have hu := hu_of hr
    refine ⟨_, (pss_one (ps_ret pe_str)), ?_⟩
    simp only [cxOf, Cx.nox, L2.start, List.map_cons, List.map_nil, List.length_cons, List.length_nil, Nat.reduceAdd, Nat.reduceSub, List.replicate, List.cons_append, List.nil_append]
    walk_at "z"
    exact k
theorem ok_FirstsRule_rule_word (T : Txt K mg A) : ∃ fd, FnOk P w K mg base CX0 1 A.f_FirstsRule_rule_word fd ["self"] (sp_FirstsRule_rule_word K A) ∧ Binds K fd ["self"] [] := by
  have ⟨fd, F, b⟩ := T.d_FirstsRule_rule_word
  refine ⟨fd, F.ok sc_FirstsRule_rule_word (fun vs H Q E h => ?_) (fun cdv Ar outer s H vs Q E hr h => ?_), b⟩
  · obtain ⟨x, rfl, _⟩ := h
    rfl
  · obtain ⟨x, rfl, k⟩ := h
    have nd := sc_FirstsRule_rule_word.nd
    have hu := hu_of hr
    refine ⟨_, (pss_one (ps_ret pe_str)), ?_⟩
    simp only [cxOf, Cx.nox, L2.start, List.map_cons, List.map_nil, List.length_cons, List.length_nil, Nat.reduceAdd, Nat.reduceSub, List.replicate, List.cons_append, List.nil_append]
    walk_at "z"
    exact k
theorem words (T : Txt K mg A) : ∀ r ∈ Rk A, ∃ f fd, Cls K r.1 ∧ Meth K r.1 "rule_word" f ∧ FnOk P w K mg base CX0 1 f fd ["self"] (spWord r.2) ∧ Binds K fd ["self"] [] := by
  intro r h
  simp only [Rk, List.mem_cons, List.not_mem_nil, or_false] at h
  rcases h with rfl | rfl | rfl | rfl | rfl | rfl | rfl | rfl | rfl | rfl | rfl | rfl | rfl | rfl | rfl | rfl | rfl | rfl | rfl | rfl | rfl | rfl
  · have ⟨fd, G, b⟩ := ok_PartRule_rule_word (P := P) (w := w) (base := base) T
    exact ⟨_, fd, T.c_PartRule, T.m_PartRule_rule_word, G, b⟩
  · have ⟨fd, G, b⟩ := ok_UniteRule_rule_word (P := P) (w := w) (base := base) T
    exact ⟨_, fd, T.c_UniteRule, T.m_UniteRule_rule_word, G, b⟩
  · have ⟨fd, G, b⟩ := ok_SwapRule_rule_word (P := P) (w := w) (base := base) T
    exact ⟨_, fd, T.c_SwapRule, T.m_SwapRule_rule_word, G, b⟩
  · have ⟨fd, G, b⟩ := ok_ClearRule_rule_word (P := P) (w := w) (base := base) T
    exact ⟨_, fd, T.c_ClearRule, T.m_ClearRule_rule_word, G, b⟩
  · have ⟨fd, G, b⟩ := ok_MirrorRule_rule_word (P := P) (w := w) (base := base) T
    exact ⟨_, fd, T.c_MirrorRule, T.m_MirrorRule_rule_word, G, b⟩
  · have ⟨fd, G, b⟩ := ok_IntoOneRule_rule_word (P := P) (w := w) (base := base) T
    exact ⟨_, fd, T.c_IntoOneRule, T.m_IntoOneRule_rule_word, G, b⟩
  · have ⟨fd, G, b⟩ := ok_IntoOtherRule_rule_word (P := P) (w := w) (base := base) T
    exact ⟨_, fd, T.c_IntoOtherRule, T.m_IntoOtherRule_rule_word, G, b⟩
  · have ⟨fd, G, b⟩ := ok_OutOfOneRule_rule_word (P := P) (w := w) (base := base) T
    exact ⟨_, fd, T.c_OutOfOneRule, T.m_OutOfOneRule_rule_word, G, b⟩
  · have ⟨fd, G, b⟩ := ok_OutOfOtherRule_rule_word (P := P) (w := w) (base := base) T
    exact ⟨_, fd, T.c_OutOfOtherRule, T.m_OutOfOtherRule_rule_word, G, b⟩
  · have ⟨fd, G, b⟩ := ok_UnderGroupRule_rule_word (P := P) (w := w) (base := base) T
    exact ⟨_, fd, T.c_UnderGroupRule, T.m_UnderGroupRule_rule_word, G, b⟩
  · have ⟨fd, G, b⟩ := ok_KeepOneRule_rule_word (P := P) (w := w) (base := base) T
    exact ⟨_, fd, T.c_KeepOneRule, T.m_KeepOneRule_rule_word, G, b⟩
  · have ⟨fd, G, b⟩ := ok_KeepOtherRule_rule_word (P := P) (w := w) (base := base) T
    exact ⟨_, fd, T.c_KeepOtherRule, T.m_KeepOtherRule_rule_word, G, b⟩
  · have ⟨fd, G, b⟩ := ok_KeepUpRule_rule_word (P := P) (w := w) (base := base) T
    exact ⟨_, fd, T.c_KeepUpRule, T.m_KeepUpRule_rule_word, G, b⟩
  · have ⟨fd, G, b⟩ := ok_KeepDownRule_rule_word (P := P) (w := w) (base := base) T
    exact ⟨_, fd, T.c_KeepDownRule, T.m_KeepDownRule_rule_word, G, b⟩
  · have ⟨fd, G, b⟩ := ok_KeepOnceRule_rule_word (P := P) (w := w) (base := base) T
    exact ⟨_, fd, T.c_KeepOnceRule, T.m_KeepOnceRule_rule_word, G, b⟩
  · have ⟨fd, G, b⟩ := ok_KeepAllRule_rule_word (P := P) (w := w) (base := base) T
    exact ⟨_, fd, T.c_KeepAllRule, T.m_KeepAllRule_rule_word, G, b⟩
  · have ⟨fd, G, b⟩ := ok_KeepNoneRule_rule_word (P := P) (w := w) (base := base) T
    exact ⟨_, fd, T.c_KeepNoneRule, T.m_KeepNoneRule_rule_word, G, b⟩
  · have ⟨fd, G, b⟩ := ok_TurnRule_rule_word (P := P) (w := w) (base := base) T
    exact ⟨_, fd, T.c_TurnRule, T.m_TurnRule_rule_word, G, b⟩
  · have ⟨fd, G, b⟩ := ok_RegroupOneRule_rule_word (P := P) (w := w) (base := base) T
    exact ⟨_, fd, T.c_RegroupOneRule, T.m_RegroupOneRule_rule_word, G, b⟩
  · have ⟨fd, G, b⟩ := ok_RegroupOtherRule_rule_word (P := P) (w := w) (base := base) T
    exact ⟨_, fd, T.c_RegroupOtherRule, T.m_RegroupOtherRule_rule_word, G, b⟩
  · have ⟨fd, G, b⟩ := ok_SortGoneRule_rule_word (P := P) (w := w) (base := base) T
    exact ⟨_, fd, T.c_SortGoneRule, T.m_SortGoneRule_rule_word, G, b⟩
  · have ⟨fd, G, b⟩ := ok_FirstsRule_rule_word (P := P) (w := w) (base := base) T
    exact ⟨_, fd, T.c_FirstsRule, T.m_FirstsRule_rule_word, G, b⟩
theorem isRule (T : Txt K mg A) : ∀ r ∈ Rk A, ∀ (H : Hp) a dx, H a = some (.ins r.1 dx []) → TyX K H (.ref a) (.ref r.1) ∧ PySem.W.kitOne K (.ref r.1) (.ref A.Rule) = some true := by
  intro r h H a dx ha
  simp only [Rk, List.mem_cons, List.not_mem_nil, or_false] at h
  rcases h with rfl | rfl | rfl | rfl | rfl | rfl | rfl | rfl | rfl | rfl | rfl | rfl | rfl | rfl | rfl | rfl | rfl | rfl | rfl | rfl | rfl | rfl
  · exact ⟨.base (.ins ha T.c_PartRule T.xa_PartRule T.xn T.xt T.xm_PartRule), Z.kit_yes T.cb_Rule T.tb_Rule T.sub_PartRule_Rule⟩
  · exact ⟨.base (.ins ha T.c_UniteRule T.xa_UniteRule T.xn T.xt T.xm_UniteRule), Z.kit_yes T.cb_Rule T.tb_Rule T.sub_UniteRule_Rule⟩
  · exact ⟨.base (.ins ha T.c_SwapRule T.xa_SwapRule T.xn T.xt T.xm_SwapRule), Z.kit_yes T.cb_Rule T.tb_Rule T.sub_SwapRule_Rule⟩
  · exact ⟨.base (.ins ha T.c_ClearRule T.xa_ClearRule T.xn T.xt T.xm_ClearRule), Z.kit_yes T.cb_Rule T.tb_Rule T.sub_ClearRule_Rule⟩
  · exact ⟨.base (.ins ha T.c_MirrorRule T.xa_MirrorRule T.xn T.xt T.xm_MirrorRule), Z.kit_yes T.cb_Rule T.tb_Rule T.sub_MirrorRule_Rule⟩
  · exact ⟨.base (.ins ha T.c_IntoOneRule T.xa_IntoOneRule T.xn T.xt T.xm_IntoOneRule), Z.kit_yes T.cb_Rule T.tb_Rule T.sub_IntoOneRule_Rule⟩
  · exact ⟨.base (.ins ha T.c_IntoOtherRule T.xa_IntoOtherRule T.xn T.xt T.xm_IntoOtherRule), Z.kit_yes T.cb_Rule T.tb_Rule T.sub_IntoOtherRule_Rule⟩
  · exact ⟨.base (.ins ha T.c_OutOfOneRule T.xa_OutOfOneRule T.xn T.xt T.xm_OutOfOneRule), Z.kit_yes T.cb_Rule T.tb_Rule T.sub_OutOfOneRule_Rule⟩
  · exact ⟨.base (.ins ha T.c_OutOfOtherRule T.xa_OutOfOtherRule T.xn T.xt T.xm_OutOfOtherRule), Z.kit_yes T.cb_Rule T.tb_Rule T.sub_OutOfOtherRule_Rule⟩
  · exact ⟨.base (.ins ha T.c_UnderGroupRule T.xa_UnderGroupRule T.xn T.xt T.xm_UnderGroupRule), Z.kit_yes T.cb_Rule T.tb_Rule T.sub_UnderGroupRule_Rule⟩
  · exact ⟨.base (.ins ha T.c_KeepOneRule T.xa_KeepOneRule T.xn T.xt T.xm_KeepOneRule), Z.kit_yes T.cb_Rule T.tb_Rule T.sub_KeepOneRule_Rule⟩
  · exact ⟨.base (.ins ha T.c_KeepOtherRule T.xa_KeepOtherRule T.xn T.xt T.xm_KeepOtherRule), Z.kit_yes T.cb_Rule T.tb_Rule T.sub_KeepOtherRule_Rule⟩
  · exact ⟨.base (.ins ha T.c_KeepUpRule T.xa_KeepUpRule T.xn T.xt T.xm_KeepUpRule), Z.kit_yes T.cb_Rule T.tb_Rule T.sub_KeepUpRule_Rule⟩
  · exact ⟨.base (.ins ha T.c_KeepDownRule T.xa_KeepDownRule T.xn T.xt T.xm_KeepDownRule), Z.kit_yes T.cb_Rule T.tb_Rule T.sub_KeepDownRule_Rule⟩
  · exact ⟨.base (.ins ha T.c_KeepOnceRule T.xa_KeepOnceRule T.xn T.xt T.xm_KeepOnceRule), Z.kit_yes T.cb_Rule T.tb_Rule T.sub_KeepOnceRule_Rule⟩
  · exact ⟨.base (.ins ha T.c_KeepAllRule T.xa_KeepAllRule T.xn T.xt T.xm_KeepAllRule), Z.kit_yes T.cb_Rule T.tb_Rule T.sub_KeepAllRule_Rule⟩
  · exact ⟨.base (.ins ha T.c_KeepNoneRule T.xa_KeepNoneRule T.xn T.xt T.xm_KeepNoneRule), Z.kit_yes T.cb_Rule T.tb_Rule T.sub_KeepNoneRule_Rule⟩
  · exact ⟨.base (.ins ha T.c_TurnRule T.xa_TurnRule T.xn T.xt T.xm_TurnRule), Z.kit_yes T.cb_Rule T.tb_Rule T.sub_TurnRule_Rule⟩
  · exact ⟨.base (.ins ha T.c_RegroupOneRule T.xa_RegroupOneRule T.xn T.xt T.xm_RegroupOneRule), Z.kit_yes T.cb_Rule T.tb_Rule T.sub_RegroupOneRule_Rule⟩
  · exact ⟨.base (.ins ha T.c_RegroupOtherRule T.xa_RegroupOtherRule T.xn T.xt T.xm_RegroupOtherRule), Z.kit_yes T.cb_Rule T.tb_Rule T.sub_RegroupOtherRule_Rule⟩
  · exact ⟨.base (.ins ha T.c_SortGoneRule T.xa_SortGoneRule T.xn T.xt T.xm_SortGoneRule), Z.kit_yes T.cb_Rule T.tb_Rule T.sub_SortGoneRule_Rule⟩
  · exact ⟨.base (.ins ha T.c_FirstsRule T.xa_FirstsRule T.xn T.xt T.xm_FirstsRule), Z.kit_yes T.cb_Rule T.tb_Rule T.sub_FirstsRule_Rule⟩
theorem ok_all_rules (T : Txt K mg A) : ∃ fd, FnOk P w K mg base CX0 1 A.f_all_rules fd [] (sp_all_rules K A) ∧ Binds K fd [] [] := by
  have ⟨fd, F, b⟩ := T.d_all_rules
  refine ⟨fd, F.ok sc_all_rules (fun vs H Q E h => ?_) (fun cdv Ar outer s H vs Q E hr h => ?_), b⟩
  · obtain ⟨rfl, _⟩ := h
    rfl
  · obtain ⟨rfl, k⟩ := h
    have nd := sc_all_rules.nd
    have hu := hu_of hr
    refine ⟨_, (pss_cons (ps_set (i := 0) nd rfl (Or.inl rfl) (pe_lst (pa_cons (Z.pe_makeO T.mo_PartRule T.io_PartRule T.kc_PartRule rfl T.g_PartRule) (pa_cons (Z.pe_makeO T.mo_UniteRule T.io_UniteRule T.kc_UniteRule rfl T.g_UniteRule) (pa_cons (Z.pe_makeO T.mo_SwapRule T.io_SwapRule T.kc_SwapRule rfl T.g_SwapRule) (pa_cons (Z.pe_makeO T.mo_ClearRule T.io_ClearRule T.kc_ClearRule rfl T.g_ClearRule) (pa_cons (Z.pe_makeO T.mo_MirrorRule T.io_MirrorRule T.kc_MirrorRule rfl T.g_MirrorRule) (pa_cons (Z.pe_makeO T.mo_IntoOneRule T.io_IntoOneRule T.kc_IntoOneRule rfl T.g_IntoOneRule) (pa_cons (Z.pe_makeO T.mo_IntoOtherRule T.io_IntoOtherRule T.kc_IntoOtherRule rfl T.g_IntoOtherRule) pa_nil)))))))))
      (pss_cons (ps_expr (pe_bm PySem.F.plainAttrs_list PySem.F.slot_list_extend PySem.F.type_list_extend mt_extend (pv 0) (pa_cons (pe_lst (pa_cons (Z.pe_makeO T.mo_OutOfOneRule T.io_OutOfOneRule T.kc_OutOfOneRule rfl T.g_OutOfOneRule) (pa_cons (Z.pe_makeO T.mo_OutOfOtherRule T.io_OutOfOtherRule T.kc_OutOfOtherRule rfl T.g_OutOfOtherRule) (pa_cons (Z.pe_makeO T.mo_UnderGroupRule T.io_UnderGroupRule T.kc_UnderGroupRule rfl T.g_UnderGroupRule) (pa_cons (Z.pe_makeO T.mo_KeepOneRule T.io_KeepOneRule T.kc_KeepOneRule rfl T.g_KeepOneRule) (pa_cons (Z.pe_makeO T.mo_KeepOtherRule T.io_KeepOtherRule T.kc_KeepOtherRule rfl T.g_KeepOtherRule) pa_nil)))))) pa_nil)))
      (pss_cons (ps_expr (pe_bm PySem.F.plainAttrs_list PySem.F.slot_list_extend PySem.F.type_list_extend mt_extend (pv 0) (pa_cons (pe_lst (pa_cons (Z.pe_makeO T.mo_KeepUpRule T.io_KeepUpRule T.kc_KeepUpRule rfl T.g_KeepUpRule) (pa_cons (Z.pe_makeO T.mo_KeepDownRule T.io_KeepDownRule T.kc_KeepDownRule rfl T.g_KeepDownRule) pa_nil))) pa_nil)))
      (pss_cons (ps_expr (pe_bm PySem.F.plainAttrs_list PySem.F.slot_list_extend PySem.F.type_list_extend mt_extend (pv 0) (pa_cons (pe_lst (pa_cons (Z.pe_makeO T.mo_KeepOnceRule T.io_KeepOnceRule T.kc_KeepOnceRule rfl T.g_KeepOnceRule) (pa_cons (Z.pe_makeO T.mo_KeepAllRule T.io_KeepAllRule T.kc_KeepAllRule rfl T.g_KeepAllRule) (pa_cons (Z.pe_makeO T.mo_KeepNoneRule T.io_KeepNoneRule T.kc_KeepNoneRule rfl T.g_KeepNoneRule) (pa_cons (Z.pe_makeO T.mo_TurnRule T.io_TurnRule T.kc_TurnRule rfl T.g_TurnRule) (pa_cons (Z.pe_makeO T.mo_RegroupOneRule T.io_RegroupOneRule T.kc_RegroupOneRule rfl T.g_RegroupOneRule) (pa_cons (Z.pe_makeO T.mo_RegroupOtherRule T.io_RegroupOtherRule T.kc_RegroupOtherRule rfl T.g_RegroupOtherRule) pa_nil))))))) pa_nil)))
      (pss_one (ps_ret (pe_op op_cat (pv 0) (pe_lst (pa_cons (Z.pe_makeO T.mo_SortGoneRule T.io_SortGoneRule T.kc_SortGoneRule rfl T.g_SortGoneRule) (pa_cons (Z.pe_makeO T.mo_FirstsRule T.io_FirstsRule T.kc_FirstsRule rfl T.g_FirstsRule) pa_nil)))))))))), ?_⟩
    simp only [cxOf, Cx.nox, L2.start, List.map_cons, List.map_nil, List.length_cons, List.length_nil, Nat.reduceAdd, Nat.reduceSub, List.replicate, List.cons_append, List.nil_append]
    have S0 : Z.Hs [] H H := Z.Hs.nil
    walk_at "z"
    intro x0 d0 ha0 hb0 hc0
    have S1 := Z.mkO (C := A.PartRule) S0 ha0 hb0 hc0
    walk_at "z"
    intro x1 d1 ha1 hb1 hc1
    have S2 := Z.mkO (C := A.UniteRule) S1 ha1 hb1 hc1
    walk_at "z"
    intro x2 d2 ha2 hb2 hc2
    have S3 := Z.mkO (C := A.SwapRule) S2 ha2 hb2 hc2
    walk_at "z"
    intro x3 d3 ha3 hb3 hc3
    have S4 := Z.mkO (C := A.ClearRule) S3 ha3 hb3 hc3
    walk_at "z"
    intro x4 d4 ha4 hb4 hc4
    have S5 := Z.mkO (C := A.MirrorRule) S4 ha4 hb4 hc4
    walk_at "z"
    intro x5 d5 ha5 hb5 hc5
    have S6 := Z.mkO (C := A.IntoOneRule) S5 ha5 hb5 hc5
    walk_at "z"
    intro x6 d6 ha6 hb6 hc6
    have S7 := Z.mkO (C := A.IntoOtherRule) S6 ha6 hb6 hc6
    walk_at "z"
    refine ⟨by simp only [List.length_cons, List.length_nil]; decide, fun l0 hl0 => ?_⟩
    have S8 := S7.new (o := .lst [.ref x0, .ref x1, .ref x2, .ref x3, .ref x4, .ref x5, .ref x6]) hl0
    walk_at "z"
    refine ⟨.inl ⟨rfl, _, SqL.of (S8.at 0 rfl)⟩, ?_⟩
    walk_at "z"
    intro x7 d7 ha7 hb7 hc7
    have S9 := Z.mkO (C := A.OutOfOneRule) S8 ha7 hb7 hc7
    walk_at "z"
    intro x8 d8 ha8 hb8 hc8
    have S10 := Z.mkO (C := A.OutOfOtherRule) S9 ha8 hb8 hc8
    walk_at "z"
    intro x9 d9 ha9 hb9 hc9
    have S11 := Z.mkO (C := A.UnderGroupRule) S10 ha9 hb9 hc9
    walk_at "z"
    intro x10 d10 ha10 hb10 hc10
    have S12 := Z.mkO (C := A.KeepOneRule) S11 ha10 hb10 hc10
    walk_at "z"
    intro x11 d11 ha11 hb11 hc11
    have S13 := Z.mkO (C := A.KeepOtherRule) S12 ha11 hb11 hc11
    walk_at "z"
    refine ⟨by simp only [List.length_cons, List.length_nil]; decide, fun m0 hm0 => ?_⟩
    have S14 := S13.new (o := .lst [.ref x7, .ref x8, .ref x9, .ref x10, .ref x11]) hm0
    walk_at "z"
    refine ⟨l0, m0, _, _, rfl, rfl, S14.at 6 rfl, S14.at 0 rfl, by simp only [List.length_cons, List.length_nil]; decide, ?_⟩
    have S15 := S14.set 6 rfl (.lst [.ref x0, .ref x1, .ref x2, .ref x3, .ref x4, .ref x5, .ref x6, .ref x7, .ref x8, .ref x9, .ref x10, .ref x11])
    walk_at "z"
    refine ⟨.inl ⟨rfl, _, SqL.of (S15.at 6 rfl)⟩, ?_⟩
    walk_at "z"
    intro x12 d12 ha12 hb12 hc12
    have S16 := Z.mkO (C := A.KeepUpRule) S15 ha12 hb12 hc12
    walk_at "z"
    intro x13 d13 ha13 hb13 hc13
    have S17 := Z.mkO (C := A.KeepDownRule) S16 ha13 hb13 hc13
    walk_at "z"
    refine ⟨by simp only [List.length_cons, List.length_nil]; decide, fun m1 hm1 => ?_⟩
    have S18 := S17.new (o := .lst [.ref x12, .ref x13]) hm1
    walk_at "z"
    refine ⟨l0, m1, _, _, rfl, rfl, S18.at 9 rfl, S18.at 0 rfl, by simp only [List.length_cons, List.length_nil]; decide, ?_⟩
    have S19 := S18.set 9 rfl (.lst [.ref x0, .ref x1, .ref x2, .ref x3, .ref x4, .ref x5, .ref x6, .ref x7, .ref x8, .ref x9, .ref x10, .ref x11, .ref x12, .ref x13])
    walk_at "z"
    refine ⟨.inl ⟨rfl, _, SqL.of (S19.at 9 rfl)⟩, ?_⟩
    walk_at "z"
    intro x14 d14 ha14 hb14 hc14
    have S20 := Z.mkO (C := A.KeepOnceRule) S19 ha14 hb14 hc14
    walk_at "z"
    intro x15 d15 ha15 hb15 hc15
    have S21 := Z.mkO (C := A.KeepAllRule) S20 ha15 hb15 hc15
    walk_at "z"
    intro x16 d16 ha16 hb16 hc16
    have S22 := Z.mkO (C := A.KeepNoneRule) S21 ha16 hb16 hc16
    walk_at "z"
    intro x17 d17 ha17 hb17 hc17
    have S23 := Z.mkO (C := A.TurnRule) S22 ha17 hb17 hc17
    walk_at "z"
    intro x18 d18 ha18 hb18 hc18
    have S24 := Z.mkO (C := A.RegroupOneRule) S23 ha18 hb18 hc18
    walk_at "z"
    intro x19 d19 ha19 hb19 hc19
    have S25 := Z.mkO (C := A.RegroupOtherRule) S24 ha19 hb19 hc19
    walk_at "z"
    refine ⟨by simp only [List.length_cons, List.length_nil]; decide, fun m2 hm2 => ?_⟩
    have S26 := S25.new (o := .lst [.ref x14, .ref x15, .ref x16, .ref x17, .ref x18, .ref x19]) hm2
    walk_at "z"
    refine ⟨l0, m2, _, _, rfl, rfl, S26.at 16 rfl, S26.at 0 rfl, by simp only [List.length_cons, List.length_nil]; decide, ?_⟩
    have S27 := S26.set 16 rfl (.lst [.ref x0, .ref x1, .ref x2, .ref x3, .ref x4, .ref x5, .ref x6, .ref x7, .ref x8, .ref x9, .ref x10, .ref x11, .ref x12, .ref x13, .ref x14, .ref x15, .ref x16, .ref x17, .ref x18, .ref x19])
    walk_at "z"
    intro x20 d20 ha20 hb20 hc20
    have S28 := Z.mkO (C := A.SortGoneRule) S27 ha20 hb20 hc20
    walk_at "z"
    intro x21 d21 ha21 hb21 hc21
    have S29 := Z.mkO (C := A.FirstsRule) S28 ha21 hb21 hc21
    walk_at "z"
    refine ⟨by simp only [List.length_cons, List.length_nil]; decide, fun m9 hm9 => ?_⟩
    have S30 := S29.new (o := .lst [.ref x20, .ref x21]) hm9
    walk_at "z"
    refine ⟨l0, m9, _, _, rfl, rfl, S30.at 19 rfl, S30.at 0 rfl, by simp only [List.length_cons, List.length_nil]; decide, fun q hq => ?_⟩
    have SE := S30.new (o := .lst [.ref x0, .ref x1, .ref x2, .ref x3, .ref x4, .ref x5, .ref x6, .ref x7, .ref x8, .ref x9, .ref x10, .ref x11, .ref x12, .ref x13, .ref x14, .ref x15, .ref x16, .ref x17, .ref x18, .ref x19, .ref x20, .ref x21]) hq
    exact k q [(x0, d0), (x1, d1), (x2, d2), (x3, d3), (x4, d4), (x5, d5), (x6, d6), (x7, d7), (x8, d8), (x9, d9), (x10, d10), (x11, d11), (x12, d12), (x13, d13), (x14, d14), (x15, d15), (x16, d16), (x17, d17), (x18, d18), (x19, d19), (x20, d20), (x21, d21)] _ rfl (SE.pick [0, 27, 26, 25, 24, 23, 22, 21, 19, 18, 17, 16, 15, 13, 12, 10, 9, 8, 7, 6, 5, 3, 2] (by decide) rfl)
theorem rk_at {A : Adr} {i : Nat} (h : i < 22) : ∃ r, (Rk A)[i]? = some r ∧ ((Rk A).map (·.1))[i]? = some r.1 ∧ W[i]? = some r.2 ∧ r ∈ Rk A := by
  have hl : i < (Rk A).length := h
  refine ⟨(Rk A)[i], List.getElem?_eq_getElem hl, ?_, ?_, List.getElem_mem hl⟩
  · rw [List.getElem?_map, List.getElem?_eq_getElem hl]
    rfl
  · rw [← rk_w (A := A), List.getElem?_map, List.getElem?_eq_getElem hl]
    rfl
theorem cell_at {A : Adr} {l : Addr} {o : HO} {rs : List (Addr × Addr)} {F H : Hp} (S : Z.Hs ((l, o) :: rcells ((Rk A).map (·.1)) rs) F H) {i : Nat} {r : Addr × Str} {c : Addr × Addr} (e2 : ((Rk A).map (·.1))[i]? = some r.1) (hc : rs[i]? = some c) :
    H c.1 = some (.ins r.1 c.2 []) := S.at (i + 1) (rcells_at e2 hc)
theorem take_str {i : Nat} {z : Str} (e : W[i]? = some z) : (W.take (i + 1)).map V.str = (W.take i).map V.str ++ [V.str z] := by
  rw [List.take_add_one, e, List.map_append]
  rfl
theorem ok_rules_told (T : Txt K mg A) : ∃ fd, FnOk P w K mg base CX0 2 A.f_rules_told fd [] (sp_rules_told K A) ∧ Binds K fd [] [] := by
  have ⟨fd, F, b⟩ := T.d_rules_told
  refine ⟨fd, F.ok sc_rules_told (fun vs H Q E h => ?_) (fun cdv Ar outer s H vs Q E hr h => ?_), b⟩
  · obtain ⟨rfl, _⟩ := h
    rfl
  · obtain ⟨rfl, k⟩ := h
    have nd := sc_rules_told.nd
    have hu := hu_of hr
    have ⟨fd_all_rules, G_all_rules, b_all_rules⟩ := ok_all_rules (P := P) (w := w) (base := base) T
    refine ⟨_, (pss_one (ps_ret (pe_lc (own := [("rule", 0)]) rfl nd (pi_list (pe_call0 G_all_rules (hr.mono (by decide)) (by rfl) T.g_all_rules T.d_all_rules.kp b_all_rules .nil pass0)) (blkOk_by (own := [("rule", 0)]) (N := ["rule"]) (sc := defScope s_rules_told) (by decide +kernel)) (fun _ _ _ _ _ => pg_name (i := 0) nd rfl (Or.inl rfl)) (fun _ _ _ _ _ => pts_nil) (fun _ _ _ _ _ => (Z.pe_ex (p := fun r => r ∈ Rk A) (t := fun r => tMeth r.1 "rule_word" (spWord r.2) [] E0 (tVar 0) tNil) fun r hm => (words (P := P) (w := w) (base := base) T r hm).elim fun f ⟨fd, c, m, G, b⟩ => pe_meth0 (pv 0) c m G (hr.mono (by decide)) b .nil pass0))))), ?_⟩
    simp only [cxOf, Cx.nox, L2.start, List.map_cons, List.map_nil, List.length_cons, List.length_nil, Nat.reduceAdd, Nat.reduceSub, List.replicate, List.cons_append, List.nil_append]
    walk_at "z"
    refine ⟨rfl, fun l rs H1 hl S => ?_⟩
    refine ⟨l, rfl, ⟨_, SqL.of (S.at 0 rfl)⟩, fun D hD => ?_⟩
    refine lc_list (K := K) (a := l) (xs := rs.map fun r => V.ref r.1) (fun i H' => Z.Hs [(D, .lst ((W.take i).map V.str))] H1 H') (Z.Hs.nil.new hD) (fun i H' _ S' => SqL.of (S'.fr _ _ (S.at 0 rfl))) ?_ ?_
    · intro i x H' hi S'
      have hi' : i < 22 := by
        have := (List.getElem?_eq_some_iff.mp hi).1
        rw [List.length_map, hl] at this
        exact this
      obtain ⟨r, e1, e2, e3, hm⟩ := rk_at (A := A) hi'
      obtain ⟨c, hc, rfl⟩ : ∃ c, rs[i]? = some c ∧ x = V.ref c.1 := by
        rw [List.getElem?_map] at hi
        cases e : rs[i]? with
        | none => rw [e] at hi; cases hi
        | some c => rw [e] at hi; exact ⟨c, rfl, (Option.some.inj hi).symm⟩
      have hcell := S'.fr _ _ (cell_at S e2 hc)
      refine ⟨rfl, ?_⟩
      walk_at "z"
      refine ⟨r, hm, ?_⟩
      walk_at "z"
      refine ⟨_, rfl, ?_⟩
      refine ⟨_, S'.at 0 rfl, by rw [List.length_map, List.length_take]; exact small1000 (by omega), ?_⟩
      have := S'.set 0 rfl (.lst ((W.take (i + 1)).map V.str))
      rw [← take_str e3]
      exact this
    · intro H' S'
      rw [List.length_map, hl] at S'
      exact k D H' (S'.base S.same)
theorem ok_law_all (T : Txt K mg A) : ∃ fd, FnOk P w K mg base CX0 1 A.f_law_all fd [] (sp_law_all K A) ∧ Binds K fd [] [] := by
  have ⟨fd, F, b⟩ := T.d_law_all
  refine ⟨fd, F.ok sc_law_all (fun vs H Q E h => ?_) (fun cdv Ar outer s H vs Q E hr h => ?_), b⟩
  · obtain ⟨rfl, _⟩ := h
    rfl
  · obtain ⟨rfl, k⟩ := h
    have nd := sc_law_all.nd
    have hu := hu_of hr
    refine ⟨_, (pss_cons (ps_set (i := 0) nd rfl (Or.inl rfl) (pe_lst (pa_cons pe_str (pa_cons pe_str (pa_cons pe_str (pa_cons pe_str (pa_cons pe_str (pa_cons pe_str (pa_cons pe_str (pa_cons pe_str (pa_cons pe_str pa_nil)))))))))))
      (pss_cons (ps_set (i := 0) nd rfl (Or.inl rfl) (pe_op op_cat (pv 0) (pe_lst (pa_cons pe_str (pa_cons pe_str (pa_cons pe_str (pa_cons pe_str (pa_cons pe_str (pa_cons pe_str (pa_cons pe_str (pa_cons pe_str pa_nil)))))))))))
      (pss_one (ps_ret (pe_op op_cat (pv 0) (pe_lst (pa_cons pe_str (pa_cons pe_str (pa_cons pe_str (pa_cons pe_str (pa_cons pe_str pa_nil))))))))))), ?_⟩
    simp only [cxOf, Cx.nox, L2.start, List.map_cons, List.map_nil, List.length_cons, List.length_nil, Nat.reduceAdd, Nat.reduceSub, List.replicate, List.cons_append, List.nil_append]
    walk_at "z"
    refine ⟨by simp only [List.length_cons, List.length_nil]; decide, fun l0 h0 => ?_⟩
    have S0 : Z.Hs _ H _ := Z.Hs.nil.new (o := .lst ((W.take 9).map V.str)) h0
    walk_at "z"
    refine ⟨by simp only [List.length_cons, List.length_nil]; decide, fun l1 h1 => ?_⟩
    have S1 := S0.new (o := .lst (((W.drop 9).take 8).map V.str)) h1
    refine ⟨l0, l1, _, _, rfl, rfl, S1.at 1 rfl, S1.at 0 rfl, by show 9 + 8 ≤ _; decide, fun q hq => ?_⟩
    have S2 := S1.new (o := .lst ((W.take 17).map V.str)) hq
    walk_at "z"
    refine ⟨by simp only [List.length_cons, List.length_nil]; decide, fun l2 h2 => ?_⟩
    have S3 := S2.new (o := .lst ((W.drop 17).map V.str)) h2
    refine ⟨q, l2, _, _, rfl, rfl, S3.at 1 rfl, S3.at 0 rfl, by show 17 + 5 ≤ _; decide, fun q2 hq2 => ?_⟩
    have S4 := S3.new (o := .lst (W.map V.str)) hq2
    exact k q2 _ (S4.pick [0] (by decide) rfl)
theorem NoStr.same {H H' : Hp} {v : V} (h : NoStr H v) (e : Same H H') : NoStr H' v := by
  rcases h with h | h | h | ⟨a, xs, h, q⟩ | ⟨a, xs, h, q⟩ | ⟨a, xs, h, q⟩
  · exact .inl h
  · exact .inr (.inl h)
  · exact .inr (.inr (.inl h))
  · exact .inr (.inr (.inr (.inl ⟨a, xs, h, e _ _ q⟩)))
  · exact .inr (.inr (.inr (.inr (.inl ⟨a, xs, h, e _ _ q⟩))))
  · exact .inr (.inr (.inr (.inr (.inr ⟨a, xs, h, e _ _ q⟩))))
theorem NoStr.ty {K : PySem.W.Frag} {H : Hp} {v : V} (h : NoStr H v) : ∃ t, TyX K H v t ∧ PySem.W.kitOne K t (.type "str") = some false := by
  rcases h with rfl | ⟨_, rfl⟩ | ⟨_, rfl⟩ | ⟨a, xs, rfl, q⟩ | ⟨a, xs, rfl, q⟩ | ⟨a, xs, rfl, q⟩
  · exact ⟨_, .base .non, kit_ty (by decide +kernel)⟩
  · exact ⟨_, .base (.int _), kit_ty (by decide +kernel)⟩
  · exact ⟨_, .base (.bl _), kit_ty (by decide +kernel)⟩
  · exact ⟨_, .base (.lst q), kit_ty (by decide +kernel)⟩
  · exact ⟨_, .base (.tup q), kit_ty (by decide +kernel)⟩
  · exact ⟨_, .base (.dK q), kit_ty (by decide +kernel)⟩
theorem NoStr.ne {H : Hp} {v : V} (h : NoStr H v) (z : Str) : v ≠ .str z := by
  rcases h with rfl | ⟨_, rfl⟩ | ⟨_, rfl⟩ | ⟨a, xs, rfl, q⟩ | ⟨a, xs, rfl, q⟩ | ⟨a, xs, rfl, q⟩ <;> exact fun e => nomatch e
theorem Thing.same {H H' : Hp} {v : V} (h : Thing H v) (e : Same H H') : Thing H' v := h.elim .inl fun h => .inr (h.same e)
theorem ok_rule_by (T : Txt K mg A) : ∃ fd, FnOk P w K mg base CX0 2 A.f_rule_by fd ["word"] (sp_rule_by K A) ∧ Binds K fd ["word"] [] := by
  have ⟨fd, F, b⟩ := T.d_rule_by
  refine ⟨fd, F.ok sc_rule_by (fun vs H Q E h => ?_) (fun cdv Ar outer s H vs Q E hr h => ?_), b⟩
  · obtain ⟨v, rfl, _⟩ := h
    rfl
  · obtain ⟨v, rfl, hv, k0, k1⟩ := h
    have nd := sc_rule_by.nd
    have hu := hu_of hr
    have ⟨fd_all_rules, G_all_rules, b_all_rules⟩ := ok_all_rules (P := P) (w := w) (base := base) T
    refine ⟨_, (pss_cons (ps_for PassesOwn.never rfl (pi_list (pe_call0 G_all_rules (hr.mono (by decide)) (by rfl) T.g_all_rules T.d_all_rules.kp b_all_rules .nil pass0)) (pg_name (i := 1) nd rfl (Or.inl rfl)) (pss_one (ps_if (PW.pt (pw_and (pt_val (pe_callB call_isi (by rfl) T.b_isinstance (by decide +kernel) (pa_cons (pv 0) (pa_cons (pe_bltn (v := .ty "str") (u := .type "str") (by rfl) T.b_str (by decide +kernel) rfl) pa_nil)))) (pw_and1 (pt_cmpR op_eq (Z.pe_ex (p := fun r => r ∈ Rk A) (t := fun r => tMeth r.1 "rule_word" (spWord r.2) [] E0 (tVar 1) tNil) fun r hm => (words (P := P) (w := w) (base := base) T r hm).elim fun f ⟨fd, c, m, G, b⟩ => pe_meth0 (pv 1) c m G (hr.mono (by decide)) b .nil pass0) (pv 0) (nomark _))))) (pss_one (ps_ret (pv 1))) pss_nil)))
      (pss_one (ps_ret pe_non))), ?_⟩
    simp only [cxOf, Cx.nox, L2.start, List.map_cons, List.map_nil, List.length_cons, List.length_nil, Nat.reduceAdd, Nat.reduceSub, List.replicate, List.cons_append, List.nil_append]
    walk_at "z"
    refine ⟨rfl, fun l rs H1 hl S => ?_⟩
    refine ⟨l, rfl, ⟨_, SqL.of (S.at 0 rfl)⟩, ?_⟩
    refine for_list (K := K) (a := l) (xs := rs.map fun r => V.ref r.1) (fun i σ H' => ∃ u, σ = [some v, u] ∧ Same H1 H' ∧ ∀ z, v = .str z → z ∉ W.take i)
      ⟨none, rfl, Same.refl _, fun z _ h => by simp at h⟩ (fun i σ H' _ ⟨u, _, s, _⟩ => SqL.of (s _ _ (S.at 0 rfl))) ?_ ?_
    · rintro i x σ H' hi ⟨u, rfl, s, hn⟩
      have hi' : i < 22 := by
        have := (List.getElem?_eq_some_iff.mp hi).1
        rw [List.length_map, hl] at this
        exact this
      obtain ⟨r, e1, e2, e3, hm⟩ := rk_at (A := A) hi'
      obtain ⟨c, hc, rfl⟩ : ∃ c, rs[i]? = some c ∧ x = V.ref c.1 := by
        rw [List.getElem?_map] at hi
        cases e : rs[i]? with
        | none => rw [e] at hi; cases hi
        | some c => rw [e] at hi; exact ⟨c, rfl, (Option.some.inj hi).symm⟩
      have hcell := s _ _ (cell_at S e2 hc)
      have sH : Same H H' := Same.trans S.same s
      walk_at "z"
      rcases hv with ⟨z, rfl⟩ | hv
      · refine ⟨_, _, .type "str", .type "str", true, rfl, .ty "str", .base (.str z), kit_ty (by decide +kernel), ?_⟩
        walk_at "z"
        refine ⟨r, hm, ?_⟩
        walk_at "z"
        refine ⟨_, rfl, ?_⟩
        walk_at "z"
        refine Z.iteD (fun e => ?_) (fun e => ?_)
        · walk_at "z"
          exact k1 H' c.1 r c.2 sH hm e.symm hcell
        · walk_at "z"
          refine ⟨_, rfl, s, fun z' ez h => ?_⟩
          cases ez
          rw [List.take_add_one, e3] at h
          rcases List.mem_append.mp h with h | h
          · exact hn z rfl h
          · exact e (by rw [List.mem_singleton.mp h])
      · obtain ⟨t, ty, kt⟩ := (hv.same sH).ty (K := K)
        refine ⟨_, _, t, .type "str", false, rfl, .ty "str", ty, kt, ?_⟩
        walk_at "z"
        exact ⟨_, rfl, s, fun z' ez _ => hv.ne z' ez⟩
    · rintro σ H' ⟨u, rfl, s, hn⟩
      walk_at "z"
      refine k0 H' (Same.trans S.same s) fun z ez => ?_
      have := hn z ez
      rw [List.length_map, hl] at this
      exact this
theorem ok_law_rich (T : Txt K mg A) : ∃ fd, FnOk P w K mg base CX0 1 A.f_law_rich fd ["_law_cell"] (sp_law_rich K A) ∧ Binds K fd ["_law_cell"] [] := by
  have ⟨fd, F, b⟩ := T.d_law_rich
  refine ⟨fd, F.ok sc_law_rich (fun vs H Q E h => ?_) (fun cdv Ar outer s H vs Q E hr h => ?_), b⟩
  · obtain ⟨c, rfl, _⟩ := h
    rfl
  · obtain ⟨c, rfl, k⟩ := h
    have nd := sc_law_rich.nd
    have hu := hu_of hr
    refine ⟨_, (pss_cons (ps_set (i := 1) nd rfl (Or.inl rfl) (pe_op op_mod (pv 0) pe_int))
      (pss_cons (ps_set (i := 2) nd rfl (Or.inl rfl) pe_int)
      (pss_cons (ps_for PassesOwn.never rfl (pi_range1 rfl T.b_range (pa_cons pe_int pa_nil)) (pg_name (i := 3) nd rfl (Or.inl rfl)) (pss_cons (ps_set (i := 1) nd rfl (Or.inl rfl) (pe_op op_mod (pe_op op_add (pe_op op_add (pe_op op_add (pe_op op_mul (pv 1) (pv 1)) (pe_op op_mul pe_int (pv 1))) (pe_op op_mul pe_int (pv 3))) pe_int) pe_int))
      (pss_one (ps_set (i := 2) nd rfl (Or.inl rfl) (pe_op op_add (pe_op op_mul (pv 2) pe_int) (pe_op op_mod (pe_op op_mul (pe_op op_add (pv 1) pe_int) (pe_op op_add (pv 1) pe_int)) pe_int))))))
      (pss_one (ps_ret (pv 2)))))), ?_⟩
    simp only [cxOf, Cx.nox, L2.start, List.map_cons, List.map_nil, List.length_cons, List.length_nil, Nat.reduceAdd, Nat.reduceSub, List.replicate, List.cons_append, List.nil_append]
    walk_at "z"
    refine ⟨12, rfl, by decide, by decide, for_range (lo := 0) (n := 12) (fun i σ H' => ∃ (n f : Int) (u : Option V), σ = [some (.int c), some (.int n), some (.int f), u] ∧ H' = H ∧ 0 ≤ n ∧ n < 2147483629) ⟨_, _, none, rfl, rfl, by omega, by omega⟩ ?_ ?_⟩
    · rintro i σ H' hi ⟨n, f, u, rfl, rfl, n0, n1⟩
      rw [Int.zero_add]
      walk_at "z"
      exact ⟨_, _, _, rfl, rfl, by omega, by omega⟩
    · rintro σ H' ⟨n, f, u, rfl, rfl, n0, n1⟩
      walk_at "z"
      exact k _
theorem ok_law_purse (T : Txt K mg A) : ∃ fd, FnOk P w K mg base CX0 2 A.f_law_purse fd ["_law_script", "_law_k"] (sp_law_purse K A) ∧ Binds K fd ["_law_script", "_law_k"] [] := by
  have ⟨fd, F, b⟩ := T.d_law_purse
  refine ⟨fd, F.ok sc_law_purse (fun vs H Q E h => ?_) (fun cdv Ar outer s H vs Q E hr h => ?_), b⟩
  · obtain ⟨a, ns, n, rfl, _⟩ := h
    rfl
  · obtain ⟨a, ns, n, rfl, hS, k⟩ := h
    have nd := sc_law_purse.nd
    have hu := hu_of hr
    have ⟨fd_law_rich, G_law_rich, b_law_rich⟩ := ok_law_rich (P := P) (w := w) (base := base) T
    refine ⟨_, (pss_cons (ps_set (i := 2) nd rfl (Or.inl rfl) pe_int)
      (Evl.pss_cut (ps_if (pt_cmpR op_lt (pv 1) (pe_callB call_len_seq (by rfl) T.b_len PySem.boot_len (pa_cons (pv 0) pa_nil)) (nomark _)) (pss_one (ps_set (i := 2) nd rfl (Or.inl rfl) (pe_ix ix_list (pv 0) (pv 1) (fun _ _ => rfl)))) pss_nil)
      (pss_cons (ps_if (pt_cmpR op_lt (pv 2) (pe_op op_pow pe_int pe_int) (nomark _)) (pss_one (ps_ret (pe_lst (pa_cons (pe_call G_law_rich (hr.mono (by decide)) (by rfl) T.g_law_rich T.d_law_rich.kp b_law_rich .nil pass0 (pa_cons (pv 2) pa_nil)) pa_nil)))) pss_nil)
      (pss_one (ps_ret (pe_lst (pa_cons (pe_op op_sub (pv 2) (pe_op op_pow pe_int pe_int)) (pa_cons (pe_call G_law_rich (hr.mono (by decide)) (by rfl) T.g_law_rich T.d_law_rich.kp b_law_rich .nil pass0 (pa_cons (pv 2) pa_nil)) pa_nil)))))))), ?_⟩
    simp only [cxOf, Cx.nox, L2.start, List.map_cons, List.map_nil, List.length_cons, List.length_nil, Nat.reduceAdd, Nat.reduceSub, List.replicate, List.cons_append, List.nil_append]
    walk_at "z"
    refine Z.cut (M := fun σ' H' => ∃ c, σ' = [some (.ref a), some (.int n), some (.int c)] ∧ H' = H) ?_ ?_
    · walk_at "z"
      refine Z.lenSeq hS ?_
      walk_at "z"
      refine Z.iteD (fun h => ?_) (fun h => ?_)
      · walk_at "z"
        rw [List.length_map] at h
        have hi : n < ns.length := by omega
        refine Z.ixL hS (by rw [List.getElem?_map, List.getElem?_eq_getElem hi]; rfl) ?_
        exact ⟨_, rfl, rfl⟩
      · walk_at "z"
        exact ⟨_, rfl, rfl⟩
    · rintro σ' H' ⟨c, rfl, rfl⟩
      walk_at "z"
      refine Z.iteD (fun h => ?_) (fun h => ?_)
      · walk_at "z"
        refine ⟨c, rfl, fun r => ?_⟩
        walk_at "z"
        refine ⟨by simp only [List.length_cons, List.length_nil]; decide, fun p hp => ?_⟩
        exact k p [r] _ (by simp) (by simp) (Z.Hs.nil.new hp)
      · walk_at "z"
        refine ⟨c, rfl, fun r => ?_⟩
        walk_at "z"
        refine ⟨by simp only [List.length_cons, List.length_nil]; decide, fun p hp => ?_⟩
        exact k p [_, r] _ (by simp) (by simp) (Z.Hs.nil.new hp)
theorem ok_law_take (T : Txt K mg A) : ∃ fd, FnOk P w K mg base CX0 1 A.f_law_take fd ["_law_purse_here", "_law_by"] (sp_law_take K A) ∧ Binds K fd ["_law_purse_here", "_law_by"] [] := by
  have ⟨fd, F, b⟩ := T.d_law_take
  refine ⟨fd, F.ok sc_law_take (fun vs H Q E h => ?_) (fun cdv Ar outer s H vs Q E hr h => ?_), b⟩
  · obtain ⟨F0, p, xs, b, rfl, _⟩ := h
    rfl
  · obtain ⟨F0, p, xs, b, rfl, h1, h2, h3, h4, S, k⟩ := h
    have nd := sc_law_take.nd
    have hu := hu_of hr
    refine ⟨_, (Evl.pss_cut (ps_if (PW.pt (pw_and (pt_cmpR op_eq (pe_ix ix_list (pv 0) pe_int (fun _ _ => rfl)) pe_int (nomark _)) (pw_and1 (pt_cmpR op_gt (pe_callB call_len_seq (by rfl) T.b_len PySem.boot_len (pa_cons (pv 0) pa_nil)) pe_int (nomark _))))) (pss_one (ps_asg (pe_bm0 PySem.F.plainAttrs_list PySem.F.slot_list_pop PySem.F.type_list_pop mt_pop (pv 0)) (pg_sub (pv 0) pe_int set_list))) pss_nil)
      (pss_cons (ps_set (i := 2) nd rfl (Or.inl rfl) (pe_op op_mod (pe_ix ix_list (pv 0) pe_int (fun _ _ => rfl)) (pv 1)))
      (pss_cons (ps_asg (pe_op op_fdiv (pe_ix ix_list (pv 0) pe_int (fun _ _ => rfl)) (pv 1)) (pg_sub (pv 0) pe_int set_list))
      (pss_one (ps_ret (pv 2)))))), ?_⟩
    simp only [cxOf, Cx.nox, L2.start, List.map_cons, List.map_nil, List.length_cons, List.length_nil, Nat.reduceAdd, Nat.reduceSub, List.replicate, List.cons_append, List.nil_append]
    refine Z.cut (M := fun σ' H' => ∃ ys : List Int, ys ≠ [] ∧ ys.length ≤ 2 ∧ σ' = [some (.ref p), some (.int b), none] ∧ Z.Hs [(p, .lst (ys.map V.int))] F0 H') ?_ ?_
    · obtain ⟨x, r, rfl⟩ : ∃ x r, xs = x :: r := by
        cases xs with
        | nil => exact absurd rfl h1
        | cons x r => exact ⟨x, r, rfl⟩
      walk_at "z"
      refine Z.ixL (i := 0) (SqL.of (S.at 0 rfl)) rfl ?_
      walk_at "z"
      refine Z.iteD (fun e => ?_) (fun e => ?_)
      · walk_at "z"
        refine Z.lenSeq (SqL.of (S.at 0 rfl)) ?_
        walk_at "z"
        refine Z.iteD (fun e2 => ?_) (fun e2 => ?_)
        · obtain ⟨y, rfl⟩ : ∃ y, r = [y] := by
            cases r with
            | nil => exact absurd e2 (by simp)
            | cons y t =>
              cases t with
              | nil => exact ⟨y, rfl⟩
              | cons z u => exact absurd h2 (by simp)
          walk_at "z"
          refine ⟨.inl ⟨rfl, _, SqL.of (S.at 0 rfl)⟩, ?_⟩
          refine ⟨p, _, .int y, rfl, rfl, S.at 0 rfl, rfl, ?_⟩
          have S1 := S.set 0 rfl (.lst [.int x])
          walk_at "z"
          refine Z.setLE (i := 0) (S1.at 0 rfl) (by simp) ?_
          exact ⟨[y], by simp, by simp, rfl, S1.set 0 rfl _⟩
        · walk_at "z"
          exact ⟨_, h1, h2, rfl, S⟩
      · walk_at "z"
        exact ⟨_, h1, h2, rfl, S⟩
    · rintro σ' H' ⟨ys, g1, g2, rfl, S⟩
      obtain ⟨x, r, rfl⟩ : ∃ x r, ys = x :: r := by
        cases ys with
        | nil => exact absurd rfl g1
        | cons x r => exact ⟨x, r, rfl⟩
      walk_at "z"
      refine Z.ixL (i := 0) (SqL.of (S.at 0 rfl)) rfl ?_
      walk_at "z"
      refine Z.ixL (i := 0) (SqL.of (S.at 0 rfl)) rfl ?_
      walk_at "z"
      refine Z.setLE (i := 0) (S.at 0 rfl) (by simp) ?_
      walk_at "z"
      exact k _ (x / b :: r) _ (Int.emod_nonneg _ (by omega)) (Int.emod_lt_of_pos _ (by omega)) (by simp) g2 (S.set 0 rfl _)
theorem w_at {P' : V → Prop} (h : ∀ x ∈ W, P' (.str x)) : ∀ v ∈ W.map V.str, P' v := fun v hv => by
  obtain ⟨x, hx, rfl⟩ := List.mem_map.mp hv
  exact h x hx
theorem ok_law_thing (T : Txt K mg A) : ∃ fd, FnOk P w K mg base CX0 2 A.f_law_thing fd ["_law_purse_here"] (sp_law_thing K A) ∧ Binds K fd ["_law_purse_here"] [] := by
  have ⟨fd, F, b⟩ := T.d_law_thing
  refine ⟨fd, F.ok sc_law_thing (fun vs H Q E h => ?_) (fun cdv Ar outer s H vs Q E hr h => ?_), b⟩
  · obtain ⟨F0, p, xs, rfl, _⟩ := h
    rfl
  · obtain ⟨F0, p, xs, rfl, h1, h2, S, k⟩ := h
    have nd := sc_law_thing.nd
    have hu := hu_of hr
    have ⟨fd_law_all, G_law_all, b_law_all⟩ := ok_law_all (P := P) (w := w) (base := base) T
    have ⟨fd_law_take, G_law_take, b_law_take⟩ := ok_law_take (P := P) (w := w) (base := base) T
    refine ⟨_, (pss_cons (ps_set (i := 1) nd rfl (Or.inl rfl) (pe_ix ix_list (pe_call0 G_law_all (hr.mono (by decide)) (by rfl) T.g_law_all T.d_law_all.kp b_law_all .nil pass0) (pe_call G_law_take (hr.mono (by decide)) (by rfl) T.g_law_take T.d_law_take.kp b_law_take .nil pass0 (pa_cons (pv 0) (pa_cons pe_int pa_nil))) (fun _ _ => rfl)))
      (pss_cons (ps_set (i := 2) nd rfl (Or.inl rfl) (pe_call G_law_take (hr.mono (by decide)) (by rfl) T.g_law_take T.d_law_take.kp b_law_take .nil pass0 (pa_cons (pv 0) (pa_cons pe_int pa_nil))))
      (pss_cons (ps_set (i := 3) nd rfl (Or.inl rfl) (pe_call G_law_take (hr.mono (by decide)) (by rfl) T.g_law_take T.d_law_take.kp b_law_take .nil pass0 (pa_cons (pv 0) (pa_cons (pe_callB call_len_str (by rfl) T.b_len PySem.boot_len (pa_cons (pv 1) pa_nil)) pa_nil))))
      (pss_cons (ps_set (i := 4) nd rfl (Or.inl rfl) (pe_ix ix_str pe_str (pe_call G_law_take (hr.mono (by decide)) (by rfl) T.g_law_take T.d_law_take.kp b_law_take .nil pass0 (pa_cons (pv 0) (pa_cons pe_int pa_nil))) (fun _ _ => rfl)))
      (pss_cons (ps_if (pt_cmpR op_eq (pv 2) pe_int (nomark _)) (pss_one (ps_ret (pe_ix ix_list (pe_lst (pa_cons pe_non (pa_cons pe_int (pa_cons pe_bl (pa_cons pe_str (pa_cons (pe_lst (pa_cons (pv 1) pa_nil)) (pa_cons (pe_tup (pa_cons (pv 1) pa_nil)) (pa_cons pe_dnewK (pa_cons pe_str pa_nil))))))))) (pe_call G_law_take (hr.mono (by decide)) (by rfl) T.g_law_take T.d_law_take.kp b_law_take .nil pass0 (pa_cons (pv 0) (pa_cons pe_int pa_nil))) (fun _ _ => rfl)))) pss_nil)
      (pss_cons (ps_if (pt_cmpR op_eq (pv 2) pe_int (nomark _)) (pss_one (ps_ret (pe_op op_add_str (pe_op op_add_str (pe_slice sl_str (pv 1) po_none (po_some (pv 3))) (pv 4)) (pe_slice sl_str (pv 1) (po_some (pe_op op_add (pv 3) pe_int)) po_none)))) pss_nil)
      (pss_cons (ps_if (pt_cmpR op_eq (pv 2) pe_int (nomark _)) (pss_one (ps_ret (pe_op op_add_str (pe_slice sl_str (pv 1) po_none (po_some (pv 3))) (pe_slice sl_str (pv 1) (po_some (pe_op op_add (pv 3) pe_int)) po_none)))) pss_nil)
      (pss_cons (ps_if (pt_cmpR op_eq (pv 2) pe_int (nomark _)) (pss_one (ps_ret (pe_op op_add_str (pe_op op_add_str (pe_slice sl_str (pv 1) po_none (po_some (pv 3))) (pv 4)) (pe_slice sl_str (pv 1) (po_some (pv 3)) po_none)))) pss_nil)
      (pss_cons (ps_if (pt_cmpR op_eq (pv 2) pe_int (nomark _)) (pss_one (ps_ret (pe_upper (pv 1)))) pss_nil)
      (pss_one (ps_ret (pv 1)))))))))))), ?_⟩
    simp only [cxOf, Cx.nox, L2.start, List.map_cons, List.map_nil, List.length_cons, List.length_nil, Nat.reduceAdd, Nat.reduceSub, List.replicate, List.cons_append, List.nil_append]
    walk_at "z"
    refine ⟨rfl, fun l H1 N1 => ?_⟩
    walk_at "z"
    obtain ⟨F1, S1, al1, sF1⟩ := (S.ext N1.same).all
    have nlp : l ∉ ([(p, HO.lst (xs.map V.int))] : List (Addr × HO)).map (·.1) := fun h => by
      have e : l = p := by simpa using h
      have := (N1.own l _ List.mem_cons_self).2
      rw [e, S.at 0 rfl] at this
      cases this
    have hl1 := al1 l _ nlp (N1.at 0 rfl)
    refine ⟨F1, p, xs, 22, rfl, h1, h2, by decide, by decide, S1, fun r1 y1 H2 a0 a1 a2 a3 S2 => ?_⟩
    refine Z.ixAll (G := fun v => ∃ z : Str, v = .str z ∧ 1 ≤ z.length ∧ z.length ≤ 12) (SqL.of (S2.fr _ _ hl1)) a0 a1 (w_at (P' := fun v => ∃ z : Str, v = .str z ∧ 1 ≤ z.length ∧ z.length ≤ 12) fun x hx => ⟨x, rfl, (w_len x hx).1, (w_len x hx).2⟩) (fun v ⟨z, e, z1, z2⟩ _ => ?_)
    subst e
    walk_at "z"
    have S2' := S2.base sF1
    refine ⟨F0, p, y1, 6, rfl, a2, a3, by decide, by decide, S2', fun r2 y2 H3 b0 b1 b2 b3 S3 => ?_⟩
    walk_at "z"
    refine ⟨_, rfl, Nat.le_trans z2 (by decide), ?_⟩
    refine ⟨F0, p, y2, _, rfl, b2, b3, by omega, by omega, S3, fun r3 y3 H4 c0 c1 c2 c3 S4 => ?_⟩
    walk_at "z"
    refine ⟨F0, p, y3, 27, rfl, c2, c3, by decide, by decide, S4, fun r4 y4 H5 d0 d1 d2 d3 S5 => ?_⟩
    refine Z.ixS (by decide +kernel) d0 (Int.lt_of_lt_of_le d1 (by decide +kernel)) (fun sg _ => ?_)
    walk_at "z"
    have sg1 : (⟨#[sg]⟩ : Str).length = 1 := rfl
    have e3 : r3 = ((r3.toNat : Nat) : Int) := by omega
    refine Z.iteD (fun _ => ?_) (fun _ => ?_)
    · walk_at "z"
      refine ⟨by simp only [List.length_cons, List.length_nil]; decide, fun q1 hq1 => ?_⟩
      have T1 := S5.new (o := .lst [.str z]) hq1
      walk_at "z"
      refine ⟨by simp only [List.length_cons, List.length_nil]; decide, fun q2 hq2 => ?_⟩
      have T2 := T1.new (o := .tup [.str z]) hq2
      walk_at "z"
      intro q3 hq3
      have T3 := T2.new (o := .dK []) hq3
      walk_at "z"
      refine ⟨by simp only [List.length_cons, List.length_nil]; decide, fun q4 hq4 => ?_⟩
      have T4 := T3.new (o := .lst [.non, .int 7, .bl true, .str "", .ref q1, .ref q2, .ref q3, .str "rule"]) hq4
      walk_at "z"
      obtain ⟨F7, S7, ⟨sF, see⟩, back⟩ := (T4.pick (L' := [(p, HO.lst (y4.map V.int))] ++ [(q4, .lst [.non, .int 7, .bl true, .str "", .ref q1, .ref q2, .ref q3, .str "rule"]), (q3, .dK []), (q2, .tup [.str z]), (q1, .lst [.str z])]) [4, 0, 1, 2, 3] (by decide) rfl).split
      refine ⟨F7, p, y4, 8, rfl, d2, d3, by decide, by decide, S7, fun r8 y8 H8 f0 f1 f2 f3 S8 => ?_⟩
      have g4 := S8.fr _ _ (see.at 0 rfl)
      have g3 := S8.fr _ _ (see.at 1 rfl)
      have g2 := S8.fr _ _ (see.at 2 rfl)
      have g1 := S8.fr _ _ (see.at 3 rfl)
      refine Z.ixAll (G := fun v => Thing H8 v) (SqL.of g4) f0 (by simp only [List.length_cons, List.length_nil]; omega) (fun v hv => ?_) (fun v th _ => k v H8 (sF.trans S8.fr) th)
      simp only [List.mem_cons, List.not_mem_nil, or_false] at hv
      rcases hv with rfl | rfl | rfl | rfl | rfl | rfl | rfl | rfl
      · exact .inr (.inl rfl)
      · exact .inr (.inr (.inl ⟨_, rfl⟩))
      · exact .inr (.inr (.inr (.inl ⟨_, rfl⟩)))
      · exact .inl ⟨_, rfl⟩
      · exact .inr (.inr (.inr (.inr (.inl ⟨_, _, rfl, g1⟩))))
      · exact .inr (.inr (.inr (.inr (.inr (.inl ⟨_, _, rfl, g2⟩)))))
      · exact .inr (.inr (.inr (.inr (.inr (.inr ⟨_, _, rfl, g3⟩)))))
      · exact .inl ⟨_, rfl⟩
    · have zc : ∀ lo hi, (cutS z lo hi).length ≤ 12 := fun lo hi => Nat.le_trans (cutS_length z lo hi) z2
      have zs : ∀ (x y : Str), (x ++ y).length = x.length + y.length := fun x y => Array.size_append
      walk_at "z"
      refine Z.iteD (fun _ => ?_) (fun _ => ?_)
      · walk_at "z"
        refine Z.slS (Nat.le_trans z2 (by decide)) ?_
        walk_at "z"
        refine Z.addS (by have := zc none (some r3); omega) ?_
        walk_at "z"
        refine Z.slS (Nat.le_trans z2 (by decide)) ?_
        refine Z.addS (by have := zc none (some r3); have := zc (some (r3 + 1)) none; rw [zs]; omega) ?_
        exact k _ _ S5.fr (.inl ⟨_, rfl⟩)
      · walk_at "z"
        refine Z.iteD (fun _ => ?_) (fun _ => ?_)
        · walk_at "z"
          refine Z.slS (Nat.le_trans z2 (by decide)) ?_
          walk_at "z"
          refine Z.slS (Nat.le_trans z2 (by decide)) ?_
          refine Z.addS (by have := zc none (some r3); have := zc (some (r3 + 1)) none; omega) ?_
          exact k _ _ S5.fr (.inl ⟨_, rfl⟩)
        · walk_at "z"
          refine Z.iteD (fun _ => ?_) (fun _ => ?_)
          · walk_at "z"
            refine Z.slS (Nat.le_trans z2 (by decide)) ?_
            walk_at "z"
            refine Z.addS (by have := zc none (some r3); omega) ?_
            walk_at "z"
            refine Z.slS (Nat.le_trans z2 (by decide)) ?_
            refine Z.addS (by have := zc none (some r3); have := zc (some r3) none; rw [zs]; omega) ?_
            exact k _ _ S5.fr (.inl ⟨_, rfl⟩)
          · walk_at "z"
            refine Z.iteD (fun _ => ?_) (fun _ => ?_)
            · walk_at "z"
              refine ⟨⟨_, rfl⟩, _, rfl, rfl, Nat.le_trans z2 (by decide), ?_⟩
              exact k _ _ S5.fr (.inl ⟨_, rfl⟩)
            · walk_at "z"
              exact k _ _ S5.fr (.inl ⟨_, rfl⟩)
theorem ok_law {f : Addr} {fd : FuncData} (F : Fun K "law" "law" s_law f fd) (T : Txt K mg A) : FnOk P w K mg base CX0 3 f fd ["_law_script"] (spLaw K) := by
  refine F.ok sc_law (fun vs H Q E h => ?_) (fun cdv Ar outer s H vs Q E hr h => ?_)
  · obtain ⟨a, ns, rfl, _⟩ := h
    rfl
  · obtain ⟨a, ns, rfl, hS, hlen, k⟩ := h
    have nd := sc_law.nd
    have hu := hu_of hr
    have ⟨fd_rules_told, G_rules_told, b_rules_told⟩ := ok_rules_told (P := P) (w := w) (base := base) T
    have ⟨fd_law_all, G_law_all, b_law_all⟩ := ok_law_all (P := P) (w := w) (base := base) T
    have ⟨fd_rule_by, G_rule_by, b_rule_by⟩ := ok_rule_by (P := P) (w := w) (base := base) T
    have ⟨fd_law_thing, G_law_thing, b_law_thing⟩ := ok_law_thing (P := P) (w := w) (base := base) T
    have ⟨fd_law_purse, G_law_purse, b_law_purse⟩ := ok_law_purse (P := P) (w := w) (base := base) T
    refine ⟨_, (pss_cons (ps_set (i := 1) nd rfl (Or.inl rfl) (pe_call0 G_rules_told (hr.mono (by decide)) (by rfl) T.g_rules_told T.d_rules_told.kp b_rules_told .nil pass0))
      (pss_cons (ps_if (PW.pt (pw_or (pt_cmpR (op_neD hr.units) (pv 1) (pe_call0 G_law_all (hr.mono (by decide)) (by rfl) T.g_law_all T.d_law_all.kp b_law_all .nil pass0) (nomark _)) (pw_or1 (pt_not (pt_val (pe_callB call_isi (by rfl) T.b_isinstance (by decide +kernel) (pa_cons (pv 1) (pa_cons (pe_bltn (v := .ty "list") (u := .type "list") (by rfl) T.b_list (by decide +kernel) rfl) pa_nil)))))))) (pss_one (ps_ret pe_bl)) pss_nil)
      (pss_cons (ps_expr (pe_bm0 PySem.F.plainAttrs_list PySem.F.slot_list_clear PySem.F.type_list_clear mt_clear (pv 1)))
      (pss_cons (ps_if (pt_cmpR (op_neD hr.units) (pe_call0 G_rules_told (hr.mono (by decide)) (by rfl) T.g_rules_told T.d_rules_told.kp b_rules_told .nil pass0) (pe_call0 G_law_all (hr.mono (by decide)) (by rfl) T.g_law_all T.d_law_all.kp b_law_all .nil pass0) (nomark _)) (pss_one (ps_ret pe_bl)) pss_nil)
      (pss_cons (ps_for PassesOwn.never rfl (pi_list (pe_call0 G_law_all (hr.mono (by decide)) (by rfl) T.g_law_all T.d_law_all.kp b_law_all .nil pass0)) (pg_name (i := 2) nd rfl (Or.inl rfl)) (pss_cons (ps_set (i := 3) nd rfl (Or.inl rfl) (pe_call G_rule_by (hr.mono (by decide)) (by rfl) T.g_rule_by T.d_rule_by.kp b_rule_by .nil pass0 (pa_cons (pv 2) pa_nil)))
      (pss_one (ps_if (PW.pt (pw_or (pt_not (pt_val (pe_callB call_isi (by rfl) T.b_isinstance (by decide +kernel) (pa_cons (pv 3) (pa_cons (pe_glob (v := .ref A.Rule) rfl T.g_Rule rfl) pa_nil))))) (pw_or1 (pt_cmpR op_ne (Z.pe_ex (p := fun r => r ∈ Rk A) (t := fun r => tMeth r.1 "rule_word" (spWord r.2) [] E0 (tVar 3) tNil) fun r hm => (words (P := P) (w := w) (base := base) T r hm).elim fun f ⟨fd, c, m, G, b⟩ => pe_meth0 (pv 3) c m G (hr.mono (by decide)) b .nil pass0) (pv 2) (nomark _))))) (pss_one (ps_ret pe_bl)) pss_nil))))
      (pss_cons (ps_for PassesOwn.never rfl (pi_range1 rfl T.b_range (pa_cons (pe_callB (call_max2 rfl) (by rfl) T.b_max (by decide +kernel) (pa_cons pe_int (pa_cons (pe_callB (call_min2 rfl) (by rfl) T.b_min (by decide +kernel) (pa_cons (pe_callB call_len_seq (by rfl) T.b_len PySem.boot_len (pa_cons (pv 0) pa_nil)) (pa_cons pe_int pa_nil))) pa_nil))) pa_nil)) (pg_name (i := 4) nd rfl (Or.inl rfl)) (pss_cons (ps_set (i := 5) nd rfl (Or.inl rfl) (pe_call G_law_thing (hr.mono (by decide)) (by rfl) T.g_law_thing T.d_law_thing.kp b_law_thing .nil pass0 (pa_cons (pe_call G_law_purse (hr.mono (by decide)) (by rfl) T.g_law_purse T.d_law_purse.kp b_law_purse .nil pass0 (pa_cons (pv 0) (pa_cons (pv 4) pa_nil))) pa_nil)))
      (pss_cons (ps_set (i := 3) nd rfl (Or.inl rfl) (pe_call G_rule_by (hr.mono (by decide)) (by rfl) T.g_rule_by T.d_rule_by.kp b_rule_by .nil pass0 (pa_cons (pv 5) pa_nil)))
      (pss_one (ps_if (PW.pt (pw_or (pt_not (pt_val (pe_callB call_isi (by rfl) T.b_isinstance (by decide +kernel) (pa_cons (pv 5) (pa_cons (pe_bltn (v := .ty "str") (u := .type "str") (by rfl) T.b_str (by decide +kernel) rfl) pa_nil))))) (pw_or1 (pt_cmpR op_notIn_seq (pv 5) (pe_call0 G_law_all (hr.mono (by decide)) (by rfl) T.g_law_all T.d_law_all.kp b_law_all .nil pass0) (by rfl))))) (pss_one (ps_if (pt_cmpR op_notN (pv 3) pe_non (nomark _)) (pss_one (ps_ret pe_bl)) pss_nil)) (pss_one (ps_if (PW.pt (pw_or (pt_cmpR op_isN (pv 3) pe_non (nomark _)) (pw_or1 (pt_cmpR op_ne (Z.pe_ex (p := fun r => r ∈ Rk A) (t := fun r => tMeth r.1 "rule_word" (spWord r.2) [] E0 (tVar 3) tNil) fun r hm => (words (P := P) (w := w) (base := base) T r hm).elim fun f ⟨fd, c, m, G, b⟩ => pe_meth0 (pv 3) c m G (hr.mono (by decide)) b .nil pass0) (pv 5) (nomark _))))) (pss_one (ps_ret pe_bl)) pss_nil)))))))
      (pss_one (ps_ret pe_bl)))))))), ?_⟩
    simp only [cxOf, Cx.nox, L2.start, List.map_cons, List.map_nil, List.length_cons, List.length_nil, Nat.reduceAdd, Nat.reduceSub, List.replicate, List.cons_append, List.nil_append]
    walk_at "z"
    refine ⟨rfl, fun l1 H1 N1 => ?_⟩
    walk_at "z"
    refine ⟨rfl, fun l2 H2 N2 => ?_⟩
    have hl1 := N2.same _ _ (N1.at 0 rfl)
    refine Z.neStrs (SqL.of hl1) (SqL.of (N2.at 0 rfl)) w_ok ?_
    walk_at "z"
    refine ⟨_, _, .type "list", .type "list", true, rfl, .ty "list", .base (.lst hl1), kit_ty (by decide +kernel), ?_⟩
    walk_at "z"
    refine ⟨.inl ⟨rfl, _, SqL.of hl1⟩, l1, _, rfl, rfl, hl1, ?_⟩
    have S3 := (N1.ext N2.same).set 0 rfl (.lst [])
    walk_at "z"
    refine ⟨rfl, fun l3 H3 N3 => ?_⟩
    walk_at "z"
    refine ⟨rfl, fun l4 H4 N4 => ?_⟩
    refine Z.neStrs (SqL.of (N4.same _ _ (N3.at 0 rfl))) (SqL.of (N4.at 0 rfl)) w_ok ?_
    have s4 : Same H H4 := (Same.trans S3.fr N3.same).trans N4.same
    walk_at "z"
    refine ⟨rfl, fun l5 H5 N5 => ?_⟩
    have s5 : Same H H5 := s4.trans N5.same
    refine ⟨l5, rfl, ⟨_, SqL.of (N5.at 0 rfl)⟩, ?_⟩
    refine for_list (K := K) (a := l5) (xs := W.map V.str) (fun i σ H' => ∃ u3 u2, σ = [some (.ref a), some (.ref l1), u2, u3, none, none] ∧ Same H5 H') ⟨none, none, rfl, Same.refl _⟩ (fun i σ H' _ ⟨_, _, _, s⟩ => SqL.of (s _ _ (N5.at 0 rfl))) ?_ ?_
    · rintro i x σ H6 hi ⟨u3, u2, rfl, s6⟩
      obtain ⟨z, hz, rfl⟩ : ∃ z, W[i]? = some z ∧ x = V.str z := by
        rw [List.getElem?_map] at hi
        cases e : W[i]? with
        | none => rw [e] at hi; cases hi
        | some c => rw [e] at hi; exact ⟨c, rfl, (Option.some.inj hi).symm⟩
      have hzW : z ∈ W := List.mem_of_getElem? hz
      walk_at "z"
      refine ⟨.str z, rfl, .inl ⟨z, rfl⟩, fun H7 s7 hn => absurd hzW (hn z rfl), fun H7 c r dx s7 hm e hc => ?_⟩
      have e' : z = r.2 := V.str.inj e
      subst e'
      obtain ⟨ty, kt⟩ := isRule T r hm H7 c dx hc
      walk_at "z"
      refine ⟨_, _, _, _, true, rfl, .own A.Rule, ty, kt, ?_⟩
      walk_at "z"
      refine ⟨r, hm, ?_⟩
      walk_at "z"
      refine ⟨_, rfl, ?_⟩
      walk_at "z"
      refine Z.iteN (fun h => (h rfl).elim) (fun _ => ?_)
      walk_at "z"
      exact ⟨_, _, rfl, s6.trans s7⟩
    · rintro σ H6 ⟨u3, u2, rfl, s6⟩
      have sH : Same H H6 := s5.trans s6
      walk_at "z"
      refine Z.lenSeq (sH.seq hS) ?_
      walk_at "z"
      refine ⟨_, _, rfl, ?_⟩
      walk_at "z"
      refine ⟨_, _, rfl, ?_⟩
      rw [List.length_map]
      have hT : ∃ t : Nat, t ≤ 40 ∧ (if (if (40 : Int) < ((ns.length : Nat) : Int) then 40 else ((ns.length : Nat) : Int)) > 1 then (if (40 : Int) < ((ns.length : Nat) : Int) then 40 else ((ns.length : Nat) : Int)) else (1 : Int)) = (t : Int) := by
        by_cases c : (40 : Int) < ((ns.length : Nat) : Int)
        · refine ⟨40, Nat.le_refl _, ?_⟩
          rw [if_pos c]; rfl
        · rw [if_neg c]
          by_cases c2 : ((ns.length : Nat) : Int) > 1
          · exact ⟨ns.length, by omega, by rw [if_pos c2]⟩
          · exact ⟨1, by omega, by rw [if_neg c2]; rfl⟩
      obtain ⟨t, ht, et⟩ := hT
      rw [et]
      refine ⟨(t : Int), rfl, by omega, by omega, ?_⟩
      rw [Int.toNat_natCast]
      refine (for_range (lo := 0) (n := t) (fun i σ H' => ∃ u2 u3 u4 u5, σ = [some (.ref a), some (.ref l1), u2, u3, u4, u5] ∧ Same H H') ⟨_, _, _, _, rfl, sH⟩ ?_ ?_)
      · rintro i σ H7 hi ⟨u2, u3, u4, u5, rfl, s7⟩
        rw [Int.zero_add]
        walk_at "z"
        refine ⟨a, ns, i, rfl, s7.seq hS, fun p xs H8 x1 x2 N8 => ?_⟩
        refine ⟨H7, p, xs, rfl, x1, x2, N8, fun v H9 s9 th => ?_⟩
        have s9' : Same H H9 := s7.trans s9
        walk_at "z"
        refine ⟨v, rfl, th, fun H10 s10 hn => ?_, fun H10 c r dx s10 hm e hc => ?_⟩
        · walk_at "z"
          rcases th with ⟨z, rfl⟩ | th
          · refine ⟨_, _, .type "str", .type "str", true, rfl, .ty "str", .base (.str z), kit_ty (by decide +kernel), ?_⟩
            walk_at "z"
            refine ⟨rfl, fun l6 H11 N11 => ?_⟩
            refine ⟨l6, _, rfl, .inl (SqL.of (N11.at 0 rfl)), rfl, by decide +kernel, ?_⟩
            have eV : inV (.str z) (W.map V.str) = false := by
              unfold inV
              rw [List.any_eq_false]
              intro y hy
              obtain ⟨x, hx, rfl⟩ := List.mem_map.mp hy
              show ¬ ((x == z) = true)
              intro e
              rw [beq_iff_eq] at e
              exact hn z rfl (e ▸ hx)
            rw [eV]
            walk_at "z"
            exact ⟨_, _, _, _, rfl, (s9'.trans s10).trans N11.same⟩
          · obtain ⟨ty0, ty, kt⟩ := (th.same s10).ty (K := K)
            refine ⟨_, _, ty0, .type "str", false, rfl, .ty "str", ty, kt, ?_⟩
            walk_at "z"
            exact ⟨_, _, _, _, rfl, s9'.trans s10⟩
        · subst e
          walk_at "z"
          refine ⟨_, _, .type "str", .type "str", true, rfl, .ty "str", .base (.str r.2), kit_ty (by decide +kernel), ?_⟩
          walk_at "z"
          refine ⟨rfl, fun l6 H11 N11 => ?_⟩
          have hc11 := N11.same _ _ hc
          refine ⟨l6, _, rfl, .inl (SqL.of (N11.at 0 rfl)), rfl, by decide +kernel, ?_⟩
          have hrW : r.2 ∈ W := by
            rw [← rk_w (A := A)]
            exact List.mem_map.mpr ⟨r, hm, rfl⟩
          have eV : inV (.str r.2) (W.map V.str) = true := by
            unfold inV
            rw [List.any_eq_true]
            exact ⟨.str r.2, List.mem_map.mpr ⟨_, hrW, rfl⟩, by show (r.2 == r.2) = true; exact beq_self_eq_true _⟩
          rw [eV]
          walk_at "z"
          refine ⟨r, hm, ?_⟩
          walk_at "z"
          refine ⟨_, rfl, ?_⟩
          walk_at "z"
          refine Z.iteN (fun h => (h rfl).elim) (fun _ => ?_)
          walk_at "z"
          exact ⟨_, _, _, _, rfl, (s9'.trans s10).trans N11.same⟩
      · rintro σ H7 ⟨u2, u3, u4, u5, rfl, s7⟩
        walk_at "z"
        exact k _
end
theorem all_mk {l : PySem.W.OpenLaw} {w : World} {K : PySem.W.Frag} {h : Heap} {mg : Str → Option Value} {fa : Addr} (X : K.In h) (G : h.Ns mainGlobals mg) (hfa : mg "law" = some (.ref fa))
    {CRule CPartRule CUniteRule CSwapRule CClearRule CMirrorRule CIntoOneRule CIntoOtherRule COutOfOneRule COutOfOtherRule CUnderGroupRule CKeepOneRule CKeepOtherRule CKeepUpRule CKeepDownRule CKeepOnceRule CKeepAllRule CKeepNoneRule CTurnRule CRegroupOneRule CRegroupOtherRule CSortGoneRule CFirstsRule f_PartRule_rule_word f_UniteRule_rule_word f_SwapRule_rule_word f_ClearRule_rule_word f_MirrorRule_rule_word f_IntoOneRule_rule_word f_IntoOtherRule_rule_word f_OutOfOneRule_rule_word f_OutOfOtherRule_rule_word f_UnderGroupRule_rule_word f_KeepOneRule_rule_word f_KeepOtherRule_rule_word f_KeepUpRule_rule_word f_KeepDownRule_rule_word f_KeepOnceRule_rule_word f_KeepAllRule_rule_word f_KeepNoneRule_rule_word f_TurnRule_rule_word f_RegroupOneRule_rule_word f_RegroupOtherRule_rule_word f_SortGoneRule_rule_word f_FirstsRule_rule_word f_all_rules f_rules_told f_rule_by f_law_rich f_law_purse f_law_take f_law_all f_law_thing f_law : Addr} {od_PartRule_rule_word an_PartRule_rule_word od_UniteRule_rule_word an_UniteRule_rule_word od_SwapRule_rule_word an_SwapRule_rule_word od_ClearRule_rule_word an_ClearRule_rule_word od_MirrorRule_rule_word an_MirrorRule_rule_word od_IntoOneRule_rule_word an_IntoOneRule_rule_word od_IntoOtherRule_rule_word an_IntoOtherRule_rule_word od_OutOfOneRule_rule_word an_OutOfOneRule_rule_word od_OutOfOtherRule_rule_word an_OutOfOtherRule_rule_word od_UnderGroupRule_rule_word an_UnderGroupRule_rule_word od_KeepOneRule_rule_word an_KeepOneRule_rule_word od_KeepOtherRule_rule_word an_KeepOtherRule_rule_word od_KeepUpRule_rule_word an_KeepUpRule_rule_word od_KeepDownRule_rule_word an_KeepDownRule_rule_word od_KeepOnceRule_rule_word an_KeepOnceRule_rule_word od_KeepAllRule_rule_word an_KeepAllRule_rule_word od_KeepNoneRule_rule_word an_KeepNoneRule_rule_word od_TurnRule_rule_word an_TurnRule_rule_word od_RegroupOneRule_rule_word an_RegroupOneRule_rule_word od_RegroupOtherRule_rule_word an_RegroupOtherRule_rule_word od_SortGoneRule_rule_word an_SortGoneRule_rule_word od_FirstsRule_rule_word an_FirstsRule_rule_word od_all_rules an_all_rules od_rules_told an_rules_told od_rule_by an_rule_by od_law_rich an_law_rich od_law_purse an_law_purse od_law_take an_law_take od_law_all an_law_all od_law_thing an_law_thing od_law an_law : Option Addr} {sl_PartRule_rule_word sl_UniteRule_rule_word sl_SwapRule_rule_word sl_ClearRule_rule_word sl_MirrorRule_rule_word sl_IntoOneRule_rule_word sl_IntoOtherRule_rule_word sl_OutOfOneRule_rule_word sl_OutOfOtherRule_rule_word sl_UnderGroupRule_rule_word sl_KeepOneRule_rule_word sl_KeepOtherRule_rule_word sl_KeepUpRule_rule_word sl_KeepDownRule_rule_word sl_KeepOnceRule_rule_word sl_KeepAllRule_rule_word sl_KeepNoneRule_rule_word sl_TurnRule_rule_word sl_RegroupOneRule_rule_word sl_RegroupOtherRule_rule_word sl_SortGoneRule_rule_word sl_FirstsRule_rule_word sl_all_rules sl_rules_told sl_rule_by sl_law_rich sl_law_purse sl_law_take sl_law_all sl_law_thing sl_law : Array (Option Value)} {oc_PartRule_rule_word kV_PartRule_rule_word dc_PartRule_rule_word pm_PartRule_rule_word cd_PartRule_rule_word ct_PartRule_rule_word oc_UniteRule_rule_word kV_UniteRule_rule_word dc_UniteRule_rule_word pm_UniteRule_rule_word cd_UniteRule_rule_word ct_UniteRule_rule_word oc_SwapRule_rule_word kV_SwapRule_rule_word dc_SwapRule_rule_word pm_SwapRule_rule_word cd_SwapRule_rule_word ct_SwapRule_rule_word oc_ClearRule_rule_word kV_ClearRule_rule_word dc_ClearRule_rule_word pm_ClearRule_rule_word cd_ClearRule_rule_word ct_ClearRule_rule_word oc_MirrorRule_rule_word kV_MirrorRule_rule_word dc_MirrorRule_rule_word pm_MirrorRule_rule_word cd_MirrorRule_rule_word ct_MirrorRule_rule_word oc_IntoOneRule_rule_word kV_IntoOneRule_rule_word dc_IntoOneRule_rule_word pm_IntoOneRule_rule_word cd_IntoOneRule_rule_word ct_IntoOneRule_rule_word oc_IntoOtherRule_rule_word kV_IntoOtherRule_rule_word dc_IntoOtherRule_rule_word pm_IntoOtherRule_rule_word cd_IntoOtherRule_rule_word ct_IntoOtherRule_rule_word oc_OutOfOneRule_rule_word kV_OutOfOneRule_rule_word dc_OutOfOneRule_rule_word pm_OutOfOneRule_rule_word cd_OutOfOneRule_rule_word ct_OutOfOneRule_rule_word oc_OutOfOtherRule_rule_word kV_OutOfOtherRule_rule_word dc_OutOfOtherRule_rule_word pm_OutOfOtherRule_rule_word cd_OutOfOtherRule_rule_word ct_OutOfOtherRule_rule_word oc_UnderGroupRule_rule_word kV_UnderGroupRule_rule_word dc_UnderGroupRule_rule_word pm_UnderGroupRule_rule_word cd_UnderGroupRule_rule_word ct_UnderGroupRule_rule_word oc_KeepOneRule_rule_word kV_KeepOneRule_rule_word dc_KeepOneRule_rule_word pm_KeepOneRule_rule_word cd_KeepOneRule_rule_word ct_KeepOneRule_rule_word oc_KeepOtherRule_rule_word kV_KeepOtherRule_rule_word dc_KeepOtherRule_rule_word pm_KeepOtherRule_rule_word cd_KeepOtherRule_rule_word ct_KeepOtherRule_rule_word oc_KeepUpRule_rule_word kV_KeepUpRule_rule_word dc_KeepUpRule_rule_word pm_KeepUpRule_rule_word cd_KeepUpRule_rule_word ct_KeepUpRule_rule_word oc_KeepDownRule_rule_word kV_KeepDownRule_rule_word dc_KeepDownRule_rule_word pm_KeepDownRule_rule_word cd_KeepDownRule_rule_word ct_KeepDownRule_rule_word oc_KeepOnceRule_rule_word kV_KeepOnceRule_rule_word dc_KeepOnceRule_rule_word pm_KeepOnceRule_rule_word cd_KeepOnceRule_rule_word ct_KeepOnceRule_rule_word oc_KeepAllRule_rule_word kV_KeepAllRule_rule_word dc_KeepAllRule_rule_word pm_KeepAllRule_rule_word cd_KeepAllRule_rule_word ct_KeepAllRule_rule_word oc_KeepNoneRule_rule_word kV_KeepNoneRule_rule_word dc_KeepNoneRule_rule_word pm_KeepNoneRule_rule_word cd_KeepNoneRule_rule_word ct_KeepNoneRule_rule_word oc_TurnRule_rule_word kV_TurnRule_rule_word dc_TurnRule_rule_word pm_TurnRule_rule_word cd_TurnRule_rule_word ct_TurnRule_rule_word oc_RegroupOneRule_rule_word kV_RegroupOneRule_rule_word dc_RegroupOneRule_rule_word pm_RegroupOneRule_rule_word cd_RegroupOneRule_rule_word ct_RegroupOneRule_rule_word oc_RegroupOtherRule_rule_word kV_RegroupOtherRule_rule_word dc_RegroupOtherRule_rule_word pm_RegroupOtherRule_rule_word cd_RegroupOtherRule_rule_word ct_RegroupOtherRule_rule_word oc_SortGoneRule_rule_word kV_SortGoneRule_rule_word dc_SortGoneRule_rule_word pm_SortGoneRule_rule_word cd_SortGoneRule_rule_word ct_SortGoneRule_rule_word oc_FirstsRule_rule_word kV_FirstsRule_rule_word dc_FirstsRule_rule_word pm_FirstsRule_rule_word cd_FirstsRule_rule_word ct_FirstsRule_rule_word oc_all_rules kV_all_rules dc_all_rules pm_all_rules cd_all_rules ct_all_rules oc_rules_told kV_rules_told dc_rules_told pm_rules_told cd_rules_told ct_rules_told oc_rule_by kV_rule_by dc_rule_by pm_rule_by cd_rule_by ct_rule_by oc_law_rich kV_law_rich dc_law_rich pm_law_rich cd_law_rich ct_law_rich oc_law_purse kV_law_purse dc_law_purse pm_law_purse cd_law_purse ct_law_purse oc_law_take kV_law_take dc_law_take pm_law_take cd_law_take ct_law_take oc_law_all kV_law_all dc_law_all pm_law_all cd_law_all ct_law_all oc_law_thing kV_law_thing dc_law_thing pm_law_thing cd_law_thing ct_law_thing oc_law kV_law dc_law pm_law cd_law ct_law : Value}
    (a_Rule : PySem.W.nsIn K mainGlobals "Rule" = some (some (.ref CRule)))
    (pg_Rule : PySem.W.plainGet K CRule Str.empty = true)
    (hd_Rule : PySem.W.hasDictIn K CRule = true)
    (po_Rule : PySem.W.plainOver K CRule = true)
    (sa_Rule : PySem.W.findIn K (.ref CRule) "__setattr__" = some (some (.builtin "object.__setattr__")))
    (a_PartRule : PySem.W.nsIn K mainGlobals "PartRule" = some (some (.ref CPartRule)))
    (pg_PartRule : PySem.W.plainGet K CPartRule Str.empty = true)
    (hd_PartRule : PySem.W.hasDictIn K CPartRule = true)
    (po_PartRule : PySem.W.plainOver K CPartRule = true)
    (sa_PartRule : PySem.W.findIn K (.ref CPartRule) "__setattr__" = some (some (.builtin "object.__setattr__")))
    (a_UniteRule : PySem.W.nsIn K mainGlobals "UniteRule" = some (some (.ref CUniteRule)))
    (pg_UniteRule : PySem.W.plainGet K CUniteRule Str.empty = true)
    (hd_UniteRule : PySem.W.hasDictIn K CUniteRule = true)
    (po_UniteRule : PySem.W.plainOver K CUniteRule = true)
    (sa_UniteRule : PySem.W.findIn K (.ref CUniteRule) "__setattr__" = some (some (.builtin "object.__setattr__")))
    (a_SwapRule : PySem.W.nsIn K mainGlobals "SwapRule" = some (some (.ref CSwapRule)))
    (pg_SwapRule : PySem.W.plainGet K CSwapRule Str.empty = true)
    (hd_SwapRule : PySem.W.hasDictIn K CSwapRule = true)
    (po_SwapRule : PySem.W.plainOver K CSwapRule = true)
    (sa_SwapRule : PySem.W.findIn K (.ref CSwapRule) "__setattr__" = some (some (.builtin "object.__setattr__")))
    (a_ClearRule : PySem.W.nsIn K mainGlobals "ClearRule" = some (some (.ref CClearRule)))
    (pg_ClearRule : PySem.W.plainGet K CClearRule Str.empty = true)
    (hd_ClearRule : PySem.W.hasDictIn K CClearRule = true)
    (po_ClearRule : PySem.W.plainOver K CClearRule = true)
    (sa_ClearRule : PySem.W.findIn K (.ref CClearRule) "__setattr__" = some (some (.builtin "object.__setattr__")))
    (a_MirrorRule : PySem.W.nsIn K mainGlobals "MirrorRule" = some (some (.ref CMirrorRule)))
    (pg_MirrorRule : PySem.W.plainGet K CMirrorRule Str.empty = true)
    (hd_MirrorRule : PySem.W.hasDictIn K CMirrorRule = true)
    (po_MirrorRule : PySem.W.plainOver K CMirrorRule = true)
    (sa_MirrorRule : PySem.W.findIn K (.ref CMirrorRule) "__setattr__" = some (some (.builtin "object.__setattr__")))
    (a_IntoOneRule : PySem.W.nsIn K mainGlobals "IntoOneRule" = some (some (.ref CIntoOneRule)))
    (pg_IntoOneRule : PySem.W.plainGet K CIntoOneRule Str.empty = true)
    (hd_IntoOneRule : PySem.W.hasDictIn K CIntoOneRule = true)
    (po_IntoOneRule : PySem.W.plainOver K CIntoOneRule = true)
    (sa_IntoOneRule : PySem.W.findIn K (.ref CIntoOneRule) "__setattr__" = some (some (.builtin "object.__setattr__")))
    (a_IntoOtherRule : PySem.W.nsIn K mainGlobals "IntoOtherRule" = some (some (.ref CIntoOtherRule)))
    (pg_IntoOtherRule : PySem.W.plainGet K CIntoOtherRule Str.empty = true)
    (hd_IntoOtherRule : PySem.W.hasDictIn K CIntoOtherRule = true)
    (po_IntoOtherRule : PySem.W.plainOver K CIntoOtherRule = true)
    (sa_IntoOtherRule : PySem.W.findIn K (.ref CIntoOtherRule) "__setattr__" = some (some (.builtin "object.__setattr__")))
    (a_OutOfOneRule : PySem.W.nsIn K mainGlobals "OutOfOneRule" = some (some (.ref COutOfOneRule)))
    (pg_OutOfOneRule : PySem.W.plainGet K COutOfOneRule Str.empty = true)
    (hd_OutOfOneRule : PySem.W.hasDictIn K COutOfOneRule = true)
    (po_OutOfOneRule : PySem.W.plainOver K COutOfOneRule = true)
    (sa_OutOfOneRule : PySem.W.findIn K (.ref COutOfOneRule) "__setattr__" = some (some (.builtin "object.__setattr__")))
    (a_OutOfOtherRule : PySem.W.nsIn K mainGlobals "OutOfOtherRule" = some (some (.ref COutOfOtherRule)))
    (pg_OutOfOtherRule : PySem.W.plainGet K COutOfOtherRule Str.empty = true)
    (hd_OutOfOtherRule : PySem.W.hasDictIn K COutOfOtherRule = true)
    (po_OutOfOtherRule : PySem.W.plainOver K COutOfOtherRule = true)
    (sa_OutOfOtherRule : PySem.W.findIn K (.ref COutOfOtherRule) "__setattr__" = some (some (.builtin "object.__setattr__")))
    (a_UnderGroupRule : PySem.W.nsIn K mainGlobals "UnderGroupRule" = some (some (.ref CUnderGroupRule)))
    (pg_UnderGroupRule : PySem.W.plainGet K CUnderGroupRule Str.empty = true)
    (hd_UnderGroupRule : PySem.W.hasDictIn K CUnderGroupRule = true)
    (po_UnderGroupRule : PySem.W.plainOver K CUnderGroupRule = true)
    (sa_UnderGroupRule : PySem.W.findIn K (.ref CUnderGroupRule) "__setattr__" = some (some (.builtin "object.__setattr__")))
    (a_KeepOneRule : PySem.W.nsIn K mainGlobals "KeepOneRule" = some (some (.ref CKeepOneRule)))
    (pg_KeepOneRule : PySem.W.plainGet K CKeepOneRule Str.empty = true)
    (hd_KeepOneRule : PySem.W.hasDictIn K CKeepOneRule = true)
    (po_KeepOneRule : PySem.W.plainOver K CKeepOneRule = true)
    (sa_KeepOneRule : PySem.W.findIn K (.ref CKeepOneRule) "__setattr__" = some (some (.builtin "object.__setattr__")))
    (a_KeepOtherRule : PySem.W.nsIn K mainGlobals "KeepOtherRule" = some (some (.ref CKeepOtherRule)))
    (pg_KeepOtherRule : PySem.W.plainGet K CKeepOtherRule Str.empty = true)
    (hd_KeepOtherRule : PySem.W.hasDictIn K CKeepOtherRule = true)
    (po_KeepOtherRule : PySem.W.plainOver K CKeepOtherRule = true)
    (sa_KeepOtherRule : PySem.W.findIn K (.ref CKeepOtherRule) "__setattr__" = some (some (.builtin "object.__setattr__")))
    (a_KeepUpRule : PySem.W.nsIn K mainGlobals "KeepUpRule" = some (some (.ref CKeepUpRule)))
    (pg_KeepUpRule : PySem.W.plainGet K CKeepUpRule Str.empty = true)
    (hd_KeepUpRule : PySem.W.hasDictIn K CKeepUpRule = true)
    (po_KeepUpRule : PySem.W.plainOver K CKeepUpRule = true)
    (sa_KeepUpRule : PySem.W.findIn K (.ref CKeepUpRule) "__setattr__" = some (some (.builtin "object.__setattr__")))
    (a_KeepDownRule : PySem.W.nsIn K mainGlobals "KeepDownRule" = some (some (.ref CKeepDownRule)))
    (pg_KeepDownRule : PySem.W.plainGet K CKeepDownRule Str.empty = true)
    (hd_KeepDownRule : PySem.W.hasDictIn K CKeepDownRule = true)
    (po_KeepDownRule : PySem.W.plainOver K CKeepDownRule = true)
    (sa_KeepDownRule : PySem.W.findIn K (.ref CKeepDownRule) "__setattr__" = some (some (.builtin "object.__setattr__")))
    (a_KeepOnceRule : PySem.W.nsIn K mainGlobals "KeepOnceRule" = some (some (.ref CKeepOnceRule)))
    (pg_KeepOnceRule : PySem.W.plainGet K CKeepOnceRule Str.empty = true)
    (hd_KeepOnceRule : PySem.W.hasDictIn K CKeepOnceRule = true)
    (po_KeepOnceRule : PySem.W.plainOver K CKeepOnceRule = true)
    (sa_KeepOnceRule : PySem.W.findIn K (.ref CKeepOnceRule) "__setattr__" = some (some (.builtin "object.__setattr__")))
    (a_KeepAllRule : PySem.W.nsIn K mainGlobals "KeepAllRule" = some (some (.ref CKeepAllRule)))
    (pg_KeepAllRule : PySem.W.plainGet K CKeepAllRule Str.empty = true)
    (hd_KeepAllRule : PySem.W.hasDictIn K CKeepAllRule = true)
    (po_KeepAllRule : PySem.W.plainOver K CKeepAllRule = true)
    (sa_KeepAllRule : PySem.W.findIn K (.ref CKeepAllRule) "__setattr__" = some (some (.builtin "object.__setattr__")))
    (a_KeepNoneRule : PySem.W.nsIn K mainGlobals "KeepNoneRule" = some (some (.ref CKeepNoneRule)))
    (pg_KeepNoneRule : PySem.W.plainGet K CKeepNoneRule Str.empty = true)
    (hd_KeepNoneRule : PySem.W.hasDictIn K CKeepNoneRule = true)
    (po_KeepNoneRule : PySem.W.plainOver K CKeepNoneRule = true)
    (sa_KeepNoneRule : PySem.W.findIn K (.ref CKeepNoneRule) "__setattr__" = some (some (.builtin "object.__setattr__")))
    (a_TurnRule : PySem.W.nsIn K mainGlobals "TurnRule" = some (some (.ref CTurnRule)))
    (pg_TurnRule : PySem.W.plainGet K CTurnRule Str.empty = true)
    (hd_TurnRule : PySem.W.hasDictIn K CTurnRule = true)
    (po_TurnRule : PySem.W.plainOver K CTurnRule = true)
    (sa_TurnRule : PySem.W.findIn K (.ref CTurnRule) "__setattr__" = some (some (.builtin "object.__setattr__")))
    (a_RegroupOneRule : PySem.W.nsIn K mainGlobals "RegroupOneRule" = some (some (.ref CRegroupOneRule)))
    (pg_RegroupOneRule : PySem.W.plainGet K CRegroupOneRule Str.empty = true)
    (hd_RegroupOneRule : PySem.W.hasDictIn K CRegroupOneRule = true)
    (po_RegroupOneRule : PySem.W.plainOver K CRegroupOneRule = true)
    (sa_RegroupOneRule : PySem.W.findIn K (.ref CRegroupOneRule) "__setattr__" = some (some (.builtin "object.__setattr__")))
    (a_RegroupOtherRule : PySem.W.nsIn K mainGlobals "RegroupOtherRule" = some (some (.ref CRegroupOtherRule)))
    (pg_RegroupOtherRule : PySem.W.plainGet K CRegroupOtherRule Str.empty = true)
    (hd_RegroupOtherRule : PySem.W.hasDictIn K CRegroupOtherRule = true)
    (po_RegroupOtherRule : PySem.W.plainOver K CRegroupOtherRule = true)
    (sa_RegroupOtherRule : PySem.W.findIn K (.ref CRegroupOtherRule) "__setattr__" = some (some (.builtin "object.__setattr__")))
    (a_SortGoneRule : PySem.W.nsIn K mainGlobals "SortGoneRule" = some (some (.ref CSortGoneRule)))
    (pg_SortGoneRule : PySem.W.plainGet K CSortGoneRule Str.empty = true)
    (hd_SortGoneRule : PySem.W.hasDictIn K CSortGoneRule = true)
    (po_SortGoneRule : PySem.W.plainOver K CSortGoneRule = true)
    (sa_SortGoneRule : PySem.W.findIn K (.ref CSortGoneRule) "__setattr__" = some (some (.builtin "object.__setattr__")))
    (a_FirstsRule : PySem.W.nsIn K mainGlobals "FirstsRule" = some (some (.ref CFirstsRule)))
    (pg_FirstsRule : PySem.W.plainGet K CFirstsRule Str.empty = true)
    (hd_FirstsRule : PySem.W.hasDictIn K CFirstsRule = true)
    (po_FirstsRule : PySem.W.plainOver K CFirstsRule = true)
    (sa_FirstsRule : PySem.W.findIn K (.ref CFirstsRule) "__setattr__" = some (some (.builtin "object.__setattr__")))
    (a_PartRule_rule_word : PySem.W.findIn K (.ref CPartRule) "rule_word" = some (some (.ref f_PartRule_rule_word)))
    (i_PartRule_rule_word : PySem.W.isFn K (.ref f_PartRule_rule_word) = true)
    (l_PartRule_rule_word : K.lookup f_PartRule_rule_word = some ⟨oc_PartRule_rule_word, od_PartRule_rule_word, .func (PySem.W.fnOf "rule_word" "PartRule.rule_word" (defArgs s_PartRule_rule_word) (defBody s_PartRule_rule_word) (defScope s_PartRule_rule_word) .none kV_PartRule_rule_word dc_PartRule_rule_word pm_PartRule_rule_word an_PartRule_rule_word cd_PartRule_rule_word ct_PartRule_rule_word), sl_PartRule_rule_word⟩)
    (c_PartRule_rule_word : PySem.W.codeIn K cd_PartRule_rule_word "PartRule.rule_word" = true)
    (k_PartRule_rule_word : PySem.W.keepIn K (.ref f_PartRule_rule_word) = true)
    (a_UniteRule_rule_word : PySem.W.findIn K (.ref CUniteRule) "rule_word" = some (some (.ref f_UniteRule_rule_word)))
    (i_UniteRule_rule_word : PySem.W.isFn K (.ref f_UniteRule_rule_word) = true)
    (l_UniteRule_rule_word : K.lookup f_UniteRule_rule_word = some ⟨oc_UniteRule_rule_word, od_UniteRule_rule_word, .func (PySem.W.fnOf "rule_word" "UniteRule.rule_word" (defArgs s_UniteRule_rule_word) (defBody s_UniteRule_rule_word) (defScope s_UniteRule_rule_word) .none kV_UniteRule_rule_word dc_UniteRule_rule_word pm_UniteRule_rule_word an_UniteRule_rule_word cd_UniteRule_rule_word ct_UniteRule_rule_word), sl_UniteRule_rule_word⟩)
    (c_UniteRule_rule_word : PySem.W.codeIn K cd_UniteRule_rule_word "UniteRule.rule_word" = true)
    (k_UniteRule_rule_word : PySem.W.keepIn K (.ref f_UniteRule_rule_word) = true)
    (a_SwapRule_rule_word : PySem.W.findIn K (.ref CSwapRule) "rule_word" = some (some (.ref f_SwapRule_rule_word)))
    (i_SwapRule_rule_word : PySem.W.isFn K (.ref f_SwapRule_rule_word) = true)
    (l_SwapRule_rule_word : K.lookup f_SwapRule_rule_word = some ⟨oc_SwapRule_rule_word, od_SwapRule_rule_word, .func (PySem.W.fnOf "rule_word" "SwapRule.rule_word" (defArgs s_SwapRule_rule_word) (defBody s_SwapRule_rule_word) (defScope s_SwapRule_rule_word) .none kV_SwapRule_rule_word dc_SwapRule_rule_word pm_SwapRule_rule_word an_SwapRule_rule_word cd_SwapRule_rule_word ct_SwapRule_rule_word), sl_SwapRule_rule_word⟩)
    (c_SwapRule_rule_word : PySem.W.codeIn K cd_SwapRule_rule_word "SwapRule.rule_word" = true)
    (k_SwapRule_rule_word : PySem.W.keepIn K (.ref f_SwapRule_rule_word) = true)
    (a_ClearRule_rule_word : PySem.W.findIn K (.ref CClearRule) "rule_word" = some (some (.ref f_ClearRule_rule_word)))
    (i_ClearRule_rule_word : PySem.W.isFn K (.ref f_ClearRule_rule_word) = true)
    (l_ClearRule_rule_word : K.lookup f_ClearRule_rule_word = some ⟨oc_ClearRule_rule_word, od_ClearRule_rule_word, .func (PySem.W.fnOf "rule_word" "ClearRule.rule_word" (defArgs s_ClearRule_rule_word) (defBody s_ClearRule_rule_word) (defScope s_ClearRule_rule_word) .none kV_ClearRule_rule_word dc_ClearRule_rule_word pm_ClearRule_rule_word an_ClearRule_rule_word cd_ClearRule_rule_word ct_ClearRule_rule_word), sl_ClearRule_rule_word⟩)
    (c_ClearRule_rule_word : PySem.W.codeIn K cd_ClearRule_rule_word "ClearRule.rule_word" = true)
    (k_ClearRule_rule_word : PySem.W.keepIn K (.ref f_ClearRule_rule_word) = true)
    (a_MirrorRule_rule_word : PySem.W.findIn K (.ref CMirrorRule) "rule_word" = some (some (.ref f_MirrorRule_rule_word)))
    (i_MirrorRule_rule_word : PySem.W.isFn K (.ref f_MirrorRule_rule_word) = true)
    (l_MirrorRule_rule_word : K.lookup f_MirrorRule_rule_word = some ⟨oc_MirrorRule_rule_word, od_MirrorRule_rule_word, .func (PySem.W.fnOf "rule_word" "MirrorRule.rule_word" (defArgs s_MirrorRule_rule_word) (defBody s_MirrorRule_rule_word) (defScope s_MirrorRule_rule_word) .none kV_MirrorRule_rule_word dc_MirrorRule_rule_word pm_MirrorRule_rule_word an_MirrorRule_rule_word cd_MirrorRule_rule_word ct_MirrorRule_rule_word), sl_MirrorRule_rule_word⟩)
    (c_MirrorRule_rule_word : PySem.W.codeIn K cd_MirrorRule_rule_word "MirrorRule.rule_word" = true)
    (k_MirrorRule_rule_word : PySem.W.keepIn K (.ref f_MirrorRule_rule_word) = true)
    (a_IntoOneRule_rule_word : PySem.W.findIn K (.ref CIntoOneRule) "rule_word" = some (some (.ref f_IntoOneRule_rule_word)))
    (i_IntoOneRule_rule_word : PySem.W.isFn K (.ref f_IntoOneRule_rule_word) = true)
    (l_IntoOneRule_rule_word : K.lookup f_IntoOneRule_rule_word = some ⟨oc_IntoOneRule_rule_word, od_IntoOneRule_rule_word, .func (PySem.W.fnOf "rule_word" "IntoOneRule.rule_word" (defArgs s_IntoOneRule_rule_word) (defBody s_IntoOneRule_rule_word) (defScope s_IntoOneRule_rule_word) .none kV_IntoOneRule_rule_word dc_IntoOneRule_rule_word pm_IntoOneRule_rule_word an_IntoOneRule_rule_word cd_IntoOneRule_rule_word ct_IntoOneRule_rule_word), sl_IntoOneRule_rule_word⟩)
    (c_IntoOneRule_rule_word : PySem.W.codeIn K cd_IntoOneRule_rule_word "IntoOneRule.rule_word" = true)
    (k_IntoOneRule_rule_word : PySem.W.keepIn K (.ref f_IntoOneRule_rule_word) = true)
    (a_IntoOtherRule_rule_word : PySem.W.findIn K (.ref CIntoOtherRule) "rule_word" = some (some (.ref f_IntoOtherRule_rule_word)))
    (i_IntoOtherRule_rule_word : PySem.W.isFn K (.ref f_IntoOtherRule_rule_word) = true)
    (l_IntoOtherRule_rule_word : K.lookup f_IntoOtherRule_rule_word = some ⟨oc_IntoOtherRule_rule_word, od_IntoOtherRule_rule_word, .func (PySem.W.fnOf "rule_word" "IntoOtherRule.rule_word" (defArgs s_IntoOtherRule_rule_word) (defBody s_IntoOtherRule_rule_word) (defScope s_IntoOtherRule_rule_word) .none kV_IntoOtherRule_rule_word dc_IntoOtherRule_rule_word pm_IntoOtherRule_rule_word an_IntoOtherRule_rule_word cd_IntoOtherRule_rule_word ct_IntoOtherRule_rule_word), sl_IntoOtherRule_rule_word⟩)
    (c_IntoOtherRule_rule_word : PySem.W.codeIn K cd_IntoOtherRule_rule_word "IntoOtherRule.rule_word" = true)
    (k_IntoOtherRule_rule_word : PySem.W.keepIn K (.ref f_IntoOtherRule_rule_word) = true)
    (a_OutOfOneRule_rule_word : PySem.W.findIn K (.ref COutOfOneRule) "rule_word" = some (some (.ref f_OutOfOneRule_rule_word)))
    (i_OutOfOneRule_rule_word : PySem.W.isFn K (.ref f_OutOfOneRule_rule_word) = true)
    (l_OutOfOneRule_rule_word : K.lookup f_OutOfOneRule_rule_word = some ⟨oc_OutOfOneRule_rule_word, od_OutOfOneRule_rule_word, .func (PySem.W.fnOf "rule_word" "OutOfOneRule.rule_word" (defArgs s_OutOfOneRule_rule_word) (defBody s_OutOfOneRule_rule_word) (defScope s_OutOfOneRule_rule_word) .none kV_OutOfOneRule_rule_word dc_OutOfOneRule_rule_word pm_OutOfOneRule_rule_word an_OutOfOneRule_rule_word cd_OutOfOneRule_rule_word ct_OutOfOneRule_rule_word), sl_OutOfOneRule_rule_word⟩)
    (c_OutOfOneRule_rule_word : PySem.W.codeIn K cd_OutOfOneRule_rule_word "OutOfOneRule.rule_word" = true)
    (k_OutOfOneRule_rule_word : PySem.W.keepIn K (.ref f_OutOfOneRule_rule_word) = true)
    (a_OutOfOtherRule_rule_word : PySem.W.findIn K (.ref COutOfOtherRule) "rule_word" = some (some (.ref f_OutOfOtherRule_rule_word)))
    (i_OutOfOtherRule_rule_word : PySem.W.isFn K (.ref f_OutOfOtherRule_rule_word) = true)
    (l_OutOfOtherRule_rule_word : K.lookup f_OutOfOtherRule_rule_word = some ⟨oc_OutOfOtherRule_rule_word, od_OutOfOtherRule_rule_word, .func (PySem.W.fnOf "rule_word" "OutOfOtherRule.rule_word" (defArgs s_OutOfOtherRule_rule_word) (defBody s_OutOfOtherRule_rule_word) (defScope s_OutOfOtherRule_rule_word) .none kV_OutOfOtherRule_rule_word dc_OutOfOtherRule_rule_word pm_OutOfOtherRule_rule_word an_OutOfOtherRule_rule_word cd_OutOfOtherRule_rule_word ct_OutOfOtherRule_rule_word), sl_OutOfOtherRule_rule_word⟩)
    (c_OutOfOtherRule_rule_word : PySem.W.codeIn K cd_OutOfOtherRule_rule_word "OutOfOtherRule.rule_word" = true)
    (k_OutOfOtherRule_rule_word : PySem.W.keepIn K (.ref f_OutOfOtherRule_rule_word) = true)
    (a_UnderGroupRule_rule_word : PySem.W.findIn K (.ref CUnderGroupRule) "rule_word" = some (some (.ref f_UnderGroupRule_rule_word)))
    (i_UnderGroupRule_rule_word : PySem.W.isFn K (.ref f_UnderGroupRule_rule_word) = true)
    (l_UnderGroupRule_rule_word : K.lookup f_UnderGroupRule_rule_word = some ⟨oc_UnderGroupRule_rule_word, od_UnderGroupRule_rule_word, .func (PySem.W.fnOf "rule_word" "UnderGroupRule.rule_word" (defArgs s_UnderGroupRule_rule_word) (defBody s_UnderGroupRule_rule_word) (defScope s_UnderGroupRule_rule_word) .none kV_UnderGroupRule_rule_word dc_UnderGroupRule_rule_word pm_UnderGroupRule_rule_word an_UnderGroupRule_rule_word cd_UnderGroupRule_rule_word ct_UnderGroupRule_rule_word), sl_UnderGroupRule_rule_word⟩)
    (c_UnderGroupRule_rule_word : PySem.W.codeIn K cd_UnderGroupRule_rule_word "UnderGroupRule.rule_word" = true)
    (k_UnderGroupRule_rule_word : PySem.W.keepIn K (.ref f_UnderGroupRule_rule_word) = true)
    (a_KeepOneRule_rule_word : PySem.W.findIn K (.ref CKeepOneRule) "rule_word" = some (some (.ref f_KeepOneRule_rule_word)))
    (i_KeepOneRule_rule_word : PySem.W.isFn K (.ref f_KeepOneRule_rule_word) = true)
    (l_KeepOneRule_rule_word : K.lookup f_KeepOneRule_rule_word = some ⟨oc_KeepOneRule_rule_word, od_KeepOneRule_rule_word, .func (PySem.W.fnOf "rule_word" "KeepOneRule.rule_word" (defArgs s_KeepOneRule_rule_word) (defBody s_KeepOneRule_rule_word) (defScope s_KeepOneRule_rule_word) .none kV_KeepOneRule_rule_word dc_KeepOneRule_rule_word pm_KeepOneRule_rule_word an_KeepOneRule_rule_word cd_KeepOneRule_rule_word ct_KeepOneRule_rule_word), sl_KeepOneRule_rule_word⟩)
    (c_KeepOneRule_rule_word : PySem.W.codeIn K cd_KeepOneRule_rule_word "KeepOneRule.rule_word" = true)
    (k_KeepOneRule_rule_word : PySem.W.keepIn K (.ref f_KeepOneRule_rule_word) = true)
    (a_KeepOtherRule_rule_word : PySem.W.findIn K (.ref CKeepOtherRule) "rule_word" = some (some (.ref f_KeepOtherRule_rule_word)))
    (i_KeepOtherRule_rule_word : PySem.W.isFn K (.ref f_KeepOtherRule_rule_word) = true)
    (l_KeepOtherRule_rule_word : K.lookup f_KeepOtherRule_rule_word = some ⟨oc_KeepOtherRule_rule_word, od_KeepOtherRule_rule_word, .func (PySem.W.fnOf "rule_word" "KeepOtherRule.rule_word" (defArgs s_KeepOtherRule_rule_word) (defBody s_KeepOtherRule_rule_word) (defScope s_KeepOtherRule_rule_word) .none kV_KeepOtherRule_rule_word dc_KeepOtherRule_rule_word pm_KeepOtherRule_rule_word an_KeepOtherRule_rule_word cd_KeepOtherRule_rule_word ct_KeepOtherRule_rule_word), sl_KeepOtherRule_rule_word⟩)
    (c_KeepOtherRule_rule_word : PySem.W.codeIn K cd_KeepOtherRule_rule_word "KeepOtherRule.rule_word" = true)
    (k_KeepOtherRule_rule_word : PySem.W.keepIn K (.ref f_KeepOtherRule_rule_word) = true)
    (a_KeepUpRule_rule_word : PySem.W.findIn K (.ref CKeepUpRule) "rule_word" = some (some (.ref f_KeepUpRule_rule_word)))
    (i_KeepUpRule_rule_word : PySem.W.isFn K (.ref f_KeepUpRule_rule_word) = true)
    (l_KeepUpRule_rule_word : K.lookup f_KeepUpRule_rule_word = some ⟨oc_KeepUpRule_rule_word, od_KeepUpRule_rule_word, .func (PySem.W.fnOf "rule_word" "KeepUpRule.rule_word" (defArgs s_KeepUpRule_rule_word) (defBody s_KeepUpRule_rule_word) (defScope s_KeepUpRule_rule_word) .none kV_KeepUpRule_rule_word dc_KeepUpRule_rule_word pm_KeepUpRule_rule_word an_KeepUpRule_rule_word cd_KeepUpRule_rule_word ct_KeepUpRule_rule_word), sl_KeepUpRule_rule_word⟩)
    (c_KeepUpRule_rule_word : PySem.W.codeIn K cd_KeepUpRule_rule_word "KeepUpRule.rule_word" = true)
    (k_KeepUpRule_rule_word : PySem.W.keepIn K (.ref f_KeepUpRule_rule_word) = true)
    (a_KeepDownRule_rule_word : PySem.W.findIn K (.ref CKeepDownRule) "rule_word" = some (some (.ref f_KeepDownRule_rule_word)))
    (i_KeepDownRule_rule_word : PySem.W.isFn K (.ref f_KeepDownRule_rule_word) = true)
    (l_KeepDownRule_rule_word : K.lookup f_KeepDownRule_rule_word = some ⟨oc_KeepDownRule_rule_word, od_KeepDownRule_rule_word, .func (PySem.W.fnOf "rule_word" "KeepDownRule.rule_word" (defArgs s_KeepDownRule_rule_word) (defBody s_KeepDownRule_rule_word) (defScope s_KeepDownRule_rule_word) .none kV_KeepDownRule_rule_word dc_KeepDownRule_rule_word pm_KeepDownRule_rule_word an_KeepDownRule_rule_word cd_KeepDownRule_rule_word ct_KeepDownRule_rule_word), sl_KeepDownRule_rule_word⟩)
    (c_KeepDownRule_rule_word : PySem.W.codeIn K cd_KeepDownRule_rule_word "KeepDownRule.rule_word" = true)
    (k_KeepDownRule_rule_word : PySem.W.keepIn K (.ref f_KeepDownRule_rule_word) = true)
    (a_KeepOnceRule_rule_word : PySem.W.findIn K (.ref CKeepOnceRule) "rule_word" = some (some (.ref f_KeepOnceRule_rule_word)))
    (i_KeepOnceRule_rule_word : PySem.W.isFn K (.ref f_KeepOnceRule_rule_word) = true)
    (l_KeepOnceRule_rule_word : K.lookup f_KeepOnceRule_rule_word = some ⟨oc_KeepOnceRule_rule_word, od_KeepOnceRule_rule_word, .func (PySem.W.fnOf "rule_word" "KeepOnceRule.rule_word" (defArgs s_KeepOnceRule_rule_word) (defBody s_KeepOnceRule_rule_word) (defScope s_KeepOnceRule_rule_word) .none kV_KeepOnceRule_rule_word dc_KeepOnceRule_rule_word pm_KeepOnceRule_rule_word an_KeepOnceRule_rule_word cd_KeepOnceRule_rule_word ct_KeepOnceRule_rule_word), sl_KeepOnceRule_rule_word⟩)
    (c_KeepOnceRule_rule_word : PySem.W.codeIn K cd_KeepOnceRule_rule_word "KeepOnceRule.rule_word" = true)
    (k_KeepOnceRule_rule_word : PySem.W.keepIn K (.ref f_KeepOnceRule_rule_word) = true)
    (a_KeepAllRule_rule_word : PySem.W.findIn K (.ref CKeepAllRule) "rule_word" = some (some (.ref f_KeepAllRule_rule_word)))
    (i_KeepAllRule_rule_word : PySem.W.isFn K (.ref f_KeepAllRule_rule_word) = true)
    (l_KeepAllRule_rule_word : K.lookup f_KeepAllRule_rule_word = some ⟨oc_KeepAllRule_rule_word, od_KeepAllRule_rule_word, .func (PySem.W.fnOf "rule_word" "KeepAllRule.rule_word" (defArgs s_KeepAllRule_rule_word) (defBody s_KeepAllRule_rule_word) (defScope s_KeepAllRule_rule_word) .none kV_KeepAllRule_rule_word dc_KeepAllRule_rule_word pm_KeepAllRule_rule_word an_KeepAllRule_rule_word cd_KeepAllRule_rule_word ct_KeepAllRule_rule_word), sl_KeepAllRule_rule_word⟩)
    (c_KeepAllRule_rule_word : PySem.W.codeIn K cd_KeepAllRule_rule_word "KeepAllRule.rule_word" = true)
    (k_KeepAllRule_rule_word : PySem.W.keepIn K (.ref f_KeepAllRule_rule_word) = true)
    (a_KeepNoneRule_rule_word : PySem.W.findIn K (.ref CKeepNoneRule) "rule_word" = some (some (.ref f_KeepNoneRule_rule_word)))
    (i_KeepNoneRule_rule_word : PySem.W.isFn K (.ref f_KeepNoneRule_rule_word) = true)
    (l_KeepNoneRule_rule_word : K.lookup f_KeepNoneRule_rule_word = some ⟨oc_KeepNoneRule_rule_word, od_KeepNoneRule_rule_word, .func (PySem.W.fnOf "rule_word" "KeepNoneRule.rule_word" (defArgs s_KeepNoneRule_rule_word) (defBody s_KeepNoneRule_rule_word) (defScope s_KeepNoneRule_rule_word) .none kV_KeepNoneRule_rule_word dc_KeepNoneRule_rule_word pm_KeepNoneRule_rule_word an_KeepNoneRule_rule_word cd_KeepNoneRule_rule_word ct_KeepNoneRule_rule_word), sl_KeepNoneRule_rule_word⟩)
    (c_KeepNoneRule_rule_word : PySem.W.codeIn K cd_KeepNoneRule_rule_word "KeepNoneRule.rule_word" = true)
    (k_KeepNoneRule_rule_word : PySem.W.keepIn K (.ref f_KeepNoneRule_rule_word) = true)
    (a_TurnRule_rule_word : PySem.W.findIn K (.ref CTurnRule) "rule_word" = some (some (.ref f_TurnRule_rule_word)))
    (i_TurnRule_rule_word : PySem.W.isFn K (.ref f_TurnRule_rule_word) = true)
    (l_TurnRule_rule_word : K.lookup f_TurnRule_rule_word = some ⟨oc_TurnRule_rule_word, od_TurnRule_rule_word, .func (PySem.W.fnOf "rule_word" "TurnRule.rule_word" (defArgs s_TurnRule_rule_word) (defBody s_TurnRule_rule_word) (defScope s_TurnRule_rule_word) .none kV_TurnRule_rule_word dc_TurnRule_rule_word pm_TurnRule_rule_word an_TurnRule_rule_word cd_TurnRule_rule_word ct_TurnRule_rule_word), sl_TurnRule_rule_word⟩)
    (c_TurnRule_rule_word : PySem.W.codeIn K cd_TurnRule_rule_word "TurnRule.rule_word" = true)
    (k_TurnRule_rule_word : PySem.W.keepIn K (.ref f_TurnRule_rule_word) = true)
    (a_RegroupOneRule_rule_word : PySem.W.findIn K (.ref CRegroupOneRule) "rule_word" = some (some (.ref f_RegroupOneRule_rule_word)))
    (i_RegroupOneRule_rule_word : PySem.W.isFn K (.ref f_RegroupOneRule_rule_word) = true)
    (l_RegroupOneRule_rule_word : K.lookup f_RegroupOneRule_rule_word = some ⟨oc_RegroupOneRule_rule_word, od_RegroupOneRule_rule_word, .func (PySem.W.fnOf "rule_word" "RegroupOneRule.rule_word" (defArgs s_RegroupOneRule_rule_word) (defBody s_RegroupOneRule_rule_word) (defScope s_RegroupOneRule_rule_word) .none kV_RegroupOneRule_rule_word dc_RegroupOneRule_rule_word pm_RegroupOneRule_rule_word an_RegroupOneRule_rule_word cd_RegroupOneRule_rule_word ct_RegroupOneRule_rule_word), sl_RegroupOneRule_rule_word⟩)
    (c_RegroupOneRule_rule_word : PySem.W.codeIn K cd_RegroupOneRule_rule_word "RegroupOneRule.rule_word" = true)
    (k_RegroupOneRule_rule_word : PySem.W.keepIn K (.ref f_RegroupOneRule_rule_word) = true)
    (a_RegroupOtherRule_rule_word : PySem.W.findIn K (.ref CRegroupOtherRule) "rule_word" = some (some (.ref f_RegroupOtherRule_rule_word)))
    (i_RegroupOtherRule_rule_word : PySem.W.isFn K (.ref f_RegroupOtherRule_rule_word) = true)
    (l_RegroupOtherRule_rule_word : K.lookup f_RegroupOtherRule_rule_word = some ⟨oc_RegroupOtherRule_rule_word, od_RegroupOtherRule_rule_word, .func (PySem.W.fnOf "rule_word" "RegroupOtherRule.rule_word" (defArgs s_RegroupOtherRule_rule_word) (defBody s_RegroupOtherRule_rule_word) (defScope s_RegroupOtherRule_rule_word) .none kV_RegroupOtherRule_rule_word dc_RegroupOtherRule_rule_word pm_RegroupOtherRule_rule_word an_RegroupOtherRule_rule_word cd_RegroupOtherRule_rule_word ct_RegroupOtherRule_rule_word), sl_RegroupOtherRule_rule_word⟩)
    (c_RegroupOtherRule_rule_word : PySem.W.codeIn K cd_RegroupOtherRule_rule_word "RegroupOtherRule.rule_word" = true)
    (k_RegroupOtherRule_rule_word : PySem.W.keepIn K (.ref f_RegroupOtherRule_rule_word) = true)
    (a_SortGoneRule_rule_word : PySem.W.findIn K (.ref CSortGoneRule) "rule_word" = some (some (.ref f_SortGoneRule_rule_word)))
    (i_SortGoneRule_rule_word : PySem.W.isFn K (.ref f_SortGoneRule_rule_word) = true)
    (l_SortGoneRule_rule_word : K.lookup f_SortGoneRule_rule_word = some ⟨oc_SortGoneRule_rule_word, od_SortGoneRule_rule_word, .func (PySem.W.fnOf "rule_word" "SortGoneRule.rule_word" (defArgs s_SortGoneRule_rule_word) (defBody s_SortGoneRule_rule_word) (defScope s_SortGoneRule_rule_word) .none kV_SortGoneRule_rule_word dc_SortGoneRule_rule_word pm_SortGoneRule_rule_word an_SortGoneRule_rule_word cd_SortGoneRule_rule_word ct_SortGoneRule_rule_word), sl_SortGoneRule_rule_word⟩)
    (c_SortGoneRule_rule_word : PySem.W.codeIn K cd_SortGoneRule_rule_word "SortGoneRule.rule_word" = true)
    (k_SortGoneRule_rule_word : PySem.W.keepIn K (.ref f_SortGoneRule_rule_word) = true)
    (a_FirstsRule_rule_word : PySem.W.findIn K (.ref CFirstsRule) "rule_word" = some (some (.ref f_FirstsRule_rule_word)))
    (i_FirstsRule_rule_word : PySem.W.isFn K (.ref f_FirstsRule_rule_word) = true)
    (l_FirstsRule_rule_word : K.lookup f_FirstsRule_rule_word = some ⟨oc_FirstsRule_rule_word, od_FirstsRule_rule_word, .func (PySem.W.fnOf "rule_word" "FirstsRule.rule_word" (defArgs s_FirstsRule_rule_word) (defBody s_FirstsRule_rule_word) (defScope s_FirstsRule_rule_word) .none kV_FirstsRule_rule_word dc_FirstsRule_rule_word pm_FirstsRule_rule_word an_FirstsRule_rule_word cd_FirstsRule_rule_word ct_FirstsRule_rule_word), sl_FirstsRule_rule_word⟩)
    (c_FirstsRule_rule_word : PySem.W.codeIn K cd_FirstsRule_rule_word "FirstsRule.rule_word" = true)
    (k_FirstsRule_rule_word : PySem.W.keepIn K (.ref f_FirstsRule_rule_word) = true)
    (a_all_rules : PySem.W.nsIn K mainGlobals "all_rules" = some (some (.ref f_all_rules)))
    (l_all_rules : K.lookup f_all_rules = some ⟨oc_all_rules, od_all_rules, .func (PySem.W.fnOf "all_rules" "all_rules" (defArgs s_all_rules) (defBody s_all_rules) (defScope s_all_rules) .none kV_all_rules dc_all_rules pm_all_rules an_all_rules cd_all_rules ct_all_rules), sl_all_rules⟩)
    (c_all_rules : PySem.W.codeIn K cd_all_rules "all_rules" = true)
    (k_all_rules : PySem.W.keepIn K (.ref f_all_rules) = true)
    (a_rules_told : PySem.W.nsIn K mainGlobals "rules_told" = some (some (.ref f_rules_told)))
    (l_rules_told : K.lookup f_rules_told = some ⟨oc_rules_told, od_rules_told, .func (PySem.W.fnOf "rules_told" "rules_told" (defArgs s_rules_told) (defBody s_rules_told) (defScope s_rules_told) .none kV_rules_told dc_rules_told pm_rules_told an_rules_told cd_rules_told ct_rules_told), sl_rules_told⟩)
    (c_rules_told : PySem.W.codeIn K cd_rules_told "rules_told" = true)
    (k_rules_told : PySem.W.keepIn K (.ref f_rules_told) = true)
    (a_rule_by : PySem.W.nsIn K mainGlobals "rule_by" = some (some (.ref f_rule_by)))
    (l_rule_by : K.lookup f_rule_by = some ⟨oc_rule_by, od_rule_by, .func (PySem.W.fnOf "rule_by" "rule_by" (defArgs s_rule_by) (defBody s_rule_by) (defScope s_rule_by) .none kV_rule_by dc_rule_by pm_rule_by an_rule_by cd_rule_by ct_rule_by), sl_rule_by⟩)
    (c_rule_by : PySem.W.codeIn K cd_rule_by "rule_by" = true)
    (k_rule_by : PySem.W.keepIn K (.ref f_rule_by) = true)
    (a_law_rich : PySem.W.nsIn K mainGlobals "_law_rich" = some (some (.ref f_law_rich)))
    (l_law_rich : K.lookup f_law_rich = some ⟨oc_law_rich, od_law_rich, .func (PySem.W.fnOf "_law_rich" "_law_rich" (defArgs s_law_rich) (defBody s_law_rich) (defScope s_law_rich) .none kV_law_rich dc_law_rich pm_law_rich an_law_rich cd_law_rich ct_law_rich), sl_law_rich⟩)
    (c_law_rich : PySem.W.codeIn K cd_law_rich "_law_rich" = true)
    (k_law_rich : PySem.W.keepIn K (.ref f_law_rich) = true)
    (a_law_purse : PySem.W.nsIn K mainGlobals "_law_purse" = some (some (.ref f_law_purse)))
    (l_law_purse : K.lookup f_law_purse = some ⟨oc_law_purse, od_law_purse, .func (PySem.W.fnOf "_law_purse" "_law_purse" (defArgs s_law_purse) (defBody s_law_purse) (defScope s_law_purse) .none kV_law_purse dc_law_purse pm_law_purse an_law_purse cd_law_purse ct_law_purse), sl_law_purse⟩)
    (c_law_purse : PySem.W.codeIn K cd_law_purse "_law_purse" = true)
    (k_law_purse : PySem.W.keepIn K (.ref f_law_purse) = true)
    (a_law_take : PySem.W.nsIn K mainGlobals "_law_take" = some (some (.ref f_law_take)))
    (l_law_take : K.lookup f_law_take = some ⟨oc_law_take, od_law_take, .func (PySem.W.fnOf "_law_take" "_law_take" (defArgs s_law_take) (defBody s_law_take) (defScope s_law_take) .none kV_law_take dc_law_take pm_law_take an_law_take cd_law_take ct_law_take), sl_law_take⟩)
    (c_law_take : PySem.W.codeIn K cd_law_take "_law_take" = true)
    (k_law_take : PySem.W.keepIn K (.ref f_law_take) = true)
    (a_law_all : PySem.W.nsIn K mainGlobals "_law_all" = some (some (.ref f_law_all)))
    (l_law_all : K.lookup f_law_all = some ⟨oc_law_all, od_law_all, .func (PySem.W.fnOf "_law_all" "_law_all" (defArgs s_law_all) (defBody s_law_all) (defScope s_law_all) .none kV_law_all dc_law_all pm_law_all an_law_all cd_law_all ct_law_all), sl_law_all⟩)
    (c_law_all : PySem.W.codeIn K cd_law_all "_law_all" = true)
    (k_law_all : PySem.W.keepIn K (.ref f_law_all) = true)
    (a_law_thing : PySem.W.nsIn K mainGlobals "_law_thing" = some (some (.ref f_law_thing)))
    (l_law_thing : K.lookup f_law_thing = some ⟨oc_law_thing, od_law_thing, .func (PySem.W.fnOf "_law_thing" "_law_thing" (defArgs s_law_thing) (defBody s_law_thing) (defScope s_law_thing) .none kV_law_thing dc_law_thing pm_law_thing an_law_thing cd_law_thing ct_law_thing), sl_law_thing⟩)
    (c_law_thing : PySem.W.codeIn K cd_law_thing "_law_thing" = true)
    (k_law_thing : PySem.W.keepIn K (.ref f_law_thing) = true)
    (a_law : PySem.W.nsIn K mainGlobals "law" = some (some (.ref f_law)))
    (l_law : K.lookup f_law = some ⟨oc_law, od_law, .func (PySem.W.fnOf "law" "law" (defArgs s_law) (defBody s_law) (defScope s_law) .none kV_law dc_law pm_law an_law cd_law ct_law), sl_law⟩)
    (c_law : PySem.W.codeIn K cd_law "law" = true)
    (k_law : PySem.W.keepIn K (.ref f_law) = true)
    (xa_PartRule : PySem.W.findIn K (.ref CPartRule) "__class__" = some (some (.builtin "object.__class__")))
    (xm_PartRule : PySem.W.mroIn K CPartRule (.type "object") = some true)
    (xa_UniteRule : PySem.W.findIn K (.ref CUniteRule) "__class__" = some (some (.builtin "object.__class__")))
    (xm_UniteRule : PySem.W.mroIn K CUniteRule (.type "object") = some true)
    (xa_SwapRule : PySem.W.findIn K (.ref CSwapRule) "__class__" = some (some (.builtin "object.__class__")))
    (xm_SwapRule : PySem.W.mroIn K CSwapRule (.type "object") = some true)
    (xa_ClearRule : PySem.W.findIn K (.ref CClearRule) "__class__" = some (some (.builtin "object.__class__")))
    (xm_ClearRule : PySem.W.mroIn K CClearRule (.type "object") = some true)
    (xa_MirrorRule : PySem.W.findIn K (.ref CMirrorRule) "__class__" = some (some (.builtin "object.__class__")))
    (xm_MirrorRule : PySem.W.mroIn K CMirrorRule (.type "object") = some true)
    (xa_IntoOneRule : PySem.W.findIn K (.ref CIntoOneRule) "__class__" = some (some (.builtin "object.__class__")))
    (xm_IntoOneRule : PySem.W.mroIn K CIntoOneRule (.type "object") = some true)
    (xa_IntoOtherRule : PySem.W.findIn K (.ref CIntoOtherRule) "__class__" = some (some (.builtin "object.__class__")))
    (xm_IntoOtherRule : PySem.W.mroIn K CIntoOtherRule (.type "object") = some true)
    (xa_OutOfOneRule : PySem.W.findIn K (.ref COutOfOneRule) "__class__" = some (some (.builtin "object.__class__")))
    (xm_OutOfOneRule : PySem.W.mroIn K COutOfOneRule (.type "object") = some true)
    (xa_OutOfOtherRule : PySem.W.findIn K (.ref COutOfOtherRule) "__class__" = some (some (.builtin "object.__class__")))
    (xm_OutOfOtherRule : PySem.W.mroIn K COutOfOtherRule (.type "object") = some true)
    (xa_UnderGroupRule : PySem.W.findIn K (.ref CUnderGroupRule) "__class__" = some (some (.builtin "object.__class__")))
    (xm_UnderGroupRule : PySem.W.mroIn K CUnderGroupRule (.type "object") = some true)
    (xa_KeepOneRule : PySem.W.findIn K (.ref CKeepOneRule) "__class__" = some (some (.builtin "object.__class__")))
    (xm_KeepOneRule : PySem.W.mroIn K CKeepOneRule (.type "object") = some true)
    (xa_KeepOtherRule : PySem.W.findIn K (.ref CKeepOtherRule) "__class__" = some (some (.builtin "object.__class__")))
    (xm_KeepOtherRule : PySem.W.mroIn K CKeepOtherRule (.type "object") = some true)
    (xa_KeepUpRule : PySem.W.findIn K (.ref CKeepUpRule) "__class__" = some (some (.builtin "object.__class__")))
    (xm_KeepUpRule : PySem.W.mroIn K CKeepUpRule (.type "object") = some true)
    (xa_KeepDownRule : PySem.W.findIn K (.ref CKeepDownRule) "__class__" = some (some (.builtin "object.__class__")))
    (xm_KeepDownRule : PySem.W.mroIn K CKeepDownRule (.type "object") = some true)
    (xa_KeepOnceRule : PySem.W.findIn K (.ref CKeepOnceRule) "__class__" = some (some (.builtin "object.__class__")))
    (xm_KeepOnceRule : PySem.W.mroIn K CKeepOnceRule (.type "object") = some true)
    (xa_KeepAllRule : PySem.W.findIn K (.ref CKeepAllRule) "__class__" = some (some (.builtin "object.__class__")))
    (xm_KeepAllRule : PySem.W.mroIn K CKeepAllRule (.type "object") = some true)
    (xa_KeepNoneRule : PySem.W.findIn K (.ref CKeepNoneRule) "__class__" = some (some (.builtin "object.__class__")))
    (xm_KeepNoneRule : PySem.W.mroIn K CKeepNoneRule (.type "object") = some true)
    (xa_TurnRule : PySem.W.findIn K (.ref CTurnRule) "__class__" = some (some (.builtin "object.__class__")))
    (xm_TurnRule : PySem.W.mroIn K CTurnRule (.type "object") = some true)
    (xa_RegroupOneRule : PySem.W.findIn K (.ref CRegroupOneRule) "__class__" = some (some (.builtin "object.__class__")))
    (xm_RegroupOneRule : PySem.W.mroIn K CRegroupOneRule (.type "object") = some true)
    (xa_RegroupOtherRule : PySem.W.findIn K (.ref CRegroupOtherRule) "__class__" = some (some (.builtin "object.__class__")))
    (xm_RegroupOtherRule : PySem.W.mroIn K CRegroupOtherRule (.type "object") = some true)
    (xa_SortGoneRule : PySem.W.findIn K (.ref CSortGoneRule) "__class__" = some (some (.builtin "object.__class__")))
    (xm_SortGoneRule : PySem.W.mroIn K CSortGoneRule (.type "object") = some true)
    (xa_FirstsRule : PySem.W.findIn K (.ref CFirstsRule) "__class__" = some (some (.builtin "object.__class__")))
    (xm_FirstsRule : PySem.W.mroIn K CFirstsRule (.type "object") = some true)
    (xn : PySem.W.specialIn K (.builtin "object.__class__") "__get__" = some (some (.builtin "getset_descriptor.__get__")))
    (xt : PySem.W.takesIn K (.builtin "object.__class__") = some true)
    (mo_PartRule : PySem.W.makesIn K CPartRule = true)
    (io_PartRule : PySem.W.findIn K (.ref CPartRule) "__init__" = some (some (.builtin "object.__init__")))
    (kc_PartRule : PySem.W.keepIn K (.ref CPartRule) = true)
    (mo_UniteRule : PySem.W.makesIn K CUniteRule = true)
    (io_UniteRule : PySem.W.findIn K (.ref CUniteRule) "__init__" = some (some (.builtin "object.__init__")))
    (kc_UniteRule : PySem.W.keepIn K (.ref CUniteRule) = true)
    (mo_SwapRule : PySem.W.makesIn K CSwapRule = true)
    (io_SwapRule : PySem.W.findIn K (.ref CSwapRule) "__init__" = some (some (.builtin "object.__init__")))
    (kc_SwapRule : PySem.W.keepIn K (.ref CSwapRule) = true)
    (mo_ClearRule : PySem.W.makesIn K CClearRule = true)
    (io_ClearRule : PySem.W.findIn K (.ref CClearRule) "__init__" = some (some (.builtin "object.__init__")))
    (kc_ClearRule : PySem.W.keepIn K (.ref CClearRule) = true)
    (mo_MirrorRule : PySem.W.makesIn K CMirrorRule = true)
    (io_MirrorRule : PySem.W.findIn K (.ref CMirrorRule) "__init__" = some (some (.builtin "object.__init__")))
    (kc_MirrorRule : PySem.W.keepIn K (.ref CMirrorRule) = true)
    (mo_IntoOneRule : PySem.W.makesIn K CIntoOneRule = true)
    (io_IntoOneRule : PySem.W.findIn K (.ref CIntoOneRule) "__init__" = some (some (.builtin "object.__init__")))
    (kc_IntoOneRule : PySem.W.keepIn K (.ref CIntoOneRule) = true)
    (mo_IntoOtherRule : PySem.W.makesIn K CIntoOtherRule = true)
    (io_IntoOtherRule : PySem.W.findIn K (.ref CIntoOtherRule) "__init__" = some (some (.builtin "object.__init__")))
    (kc_IntoOtherRule : PySem.W.keepIn K (.ref CIntoOtherRule) = true)
    (mo_OutOfOneRule : PySem.W.makesIn K COutOfOneRule = true)
    (io_OutOfOneRule : PySem.W.findIn K (.ref COutOfOneRule) "__init__" = some (some (.builtin "object.__init__")))
    (kc_OutOfOneRule : PySem.W.keepIn K (.ref COutOfOneRule) = true)
    (mo_OutOfOtherRule : PySem.W.makesIn K COutOfOtherRule = true)
    (io_OutOfOtherRule : PySem.W.findIn K (.ref COutOfOtherRule) "__init__" = some (some (.builtin "object.__init__")))
    (kc_OutOfOtherRule : PySem.W.keepIn K (.ref COutOfOtherRule) = true)
    (mo_UnderGroupRule : PySem.W.makesIn K CUnderGroupRule = true)
    (io_UnderGroupRule : PySem.W.findIn K (.ref CUnderGroupRule) "__init__" = some (some (.builtin "object.__init__")))
    (kc_UnderGroupRule : PySem.W.keepIn K (.ref CUnderGroupRule) = true)
    (mo_KeepOneRule : PySem.W.makesIn K CKeepOneRule = true)
    (io_KeepOneRule : PySem.W.findIn K (.ref CKeepOneRule) "__init__" = some (some (.builtin "object.__init__")))
    (kc_KeepOneRule : PySem.W.keepIn K (.ref CKeepOneRule) = true)
    (mo_KeepOtherRule : PySem.W.makesIn K CKeepOtherRule = true)
    (io_KeepOtherRule : PySem.W.findIn K (.ref CKeepOtherRule) "__init__" = some (some (.builtin "object.__init__")))
    (kc_KeepOtherRule : PySem.W.keepIn K (.ref CKeepOtherRule) = true)
    (mo_KeepUpRule : PySem.W.makesIn K CKeepUpRule = true)
    (io_KeepUpRule : PySem.W.findIn K (.ref CKeepUpRule) "__init__" = some (some (.builtin "object.__init__")))
    (kc_KeepUpRule : PySem.W.keepIn K (.ref CKeepUpRule) = true)
    (mo_KeepDownRule : PySem.W.makesIn K CKeepDownRule = true)
    (io_KeepDownRule : PySem.W.findIn K (.ref CKeepDownRule) "__init__" = some (some (.builtin "object.__init__")))
    (kc_KeepDownRule : PySem.W.keepIn K (.ref CKeepDownRule) = true)
    (mo_KeepOnceRule : PySem.W.makesIn K CKeepOnceRule = true)
    (io_KeepOnceRule : PySem.W.findIn K (.ref CKeepOnceRule) "__init__" = some (some (.builtin "object.__init__")))
    (kc_KeepOnceRule : PySem.W.keepIn K (.ref CKeepOnceRule) = true)
    (mo_KeepAllRule : PySem.W.makesIn K CKeepAllRule = true)
    (io_KeepAllRule : PySem.W.findIn K (.ref CKeepAllRule) "__init__" = some (some (.builtin "object.__init__")))
    (kc_KeepAllRule : PySem.W.keepIn K (.ref CKeepAllRule) = true)
    (mo_KeepNoneRule : PySem.W.makesIn K CKeepNoneRule = true)
    (io_KeepNoneRule : PySem.W.findIn K (.ref CKeepNoneRule) "__init__" = some (some (.builtin "object.__init__")))
    (kc_KeepNoneRule : PySem.W.keepIn K (.ref CKeepNoneRule) = true)
    (mo_TurnRule : PySem.W.makesIn K CTurnRule = true)
    (io_TurnRule : PySem.W.findIn K (.ref CTurnRule) "__init__" = some (some (.builtin "object.__init__")))
    (kc_TurnRule : PySem.W.keepIn K (.ref CTurnRule) = true)
    (mo_RegroupOneRule : PySem.W.makesIn K CRegroupOneRule = true)
    (io_RegroupOneRule : PySem.W.findIn K (.ref CRegroupOneRule) "__init__" = some (some (.builtin "object.__init__")))
    (kc_RegroupOneRule : PySem.W.keepIn K (.ref CRegroupOneRule) = true)
    (mo_RegroupOtherRule : PySem.W.makesIn K CRegroupOtherRule = true)
    (io_RegroupOtherRule : PySem.W.findIn K (.ref CRegroupOtherRule) "__init__" = some (some (.builtin "object.__init__")))
    (kc_RegroupOtherRule : PySem.W.keepIn K (.ref CRegroupOtherRule) = true)
    (mo_SortGoneRule : PySem.W.makesIn K CSortGoneRule = true)
    (io_SortGoneRule : PySem.W.findIn K (.ref CSortGoneRule) "__init__" = some (some (.builtin "object.__init__")))
    (kc_SortGoneRule : PySem.W.keepIn K (.ref CSortGoneRule) = true)
    (mo_FirstsRule : PySem.W.makesIn K CFirstsRule = true)
    (io_FirstsRule : PySem.W.findIn K (.ref CFirstsRule) "__init__" = some (some (.builtin "object.__init__")))
    (kc_FirstsRule : PySem.W.keepIn K (.ref CFirstsRule) = true)
    (cb_Rule : PySem.W.isClsIn K CRule = true)
    (tb_Rule : PySem.W.typeIn K (.ref CRule) = some (.type "type"))
    (sub_PartRule_Rule : PySem.W.subIn K (.ref CPartRule) (.ref CRule) = some true)
    (sub_UniteRule_Rule : PySem.W.subIn K (.ref CUniteRule) (.ref CRule) = some true)
    (sub_SwapRule_Rule : PySem.W.subIn K (.ref CSwapRule) (.ref CRule) = some true)
    (sub_ClearRule_Rule : PySem.W.subIn K (.ref CClearRule) (.ref CRule) = some true)
    (sub_MirrorRule_Rule : PySem.W.subIn K (.ref CMirrorRule) (.ref CRule) = some true)
    (sub_IntoOneRule_Rule : PySem.W.subIn K (.ref CIntoOneRule) (.ref CRule) = some true)
    (sub_IntoOtherRule_Rule : PySem.W.subIn K (.ref CIntoOtherRule) (.ref CRule) = some true)
    (sub_OutOfOneRule_Rule : PySem.W.subIn K (.ref COutOfOneRule) (.ref CRule) = some true)
    (sub_OutOfOtherRule_Rule : PySem.W.subIn K (.ref COutOfOtherRule) (.ref CRule) = some true)
    (sub_UnderGroupRule_Rule : PySem.W.subIn K (.ref CUnderGroupRule) (.ref CRule) = some true)
    (sub_KeepOneRule_Rule : PySem.W.subIn K (.ref CKeepOneRule) (.ref CRule) = some true)
    (sub_KeepOtherRule_Rule : PySem.W.subIn K (.ref CKeepOtherRule) (.ref CRule) = some true)
    (sub_KeepUpRule_Rule : PySem.W.subIn K (.ref CKeepUpRule) (.ref CRule) = some true)
    (sub_KeepDownRule_Rule : PySem.W.subIn K (.ref CKeepDownRule) (.ref CRule) = some true)
    (sub_KeepOnceRule_Rule : PySem.W.subIn K (.ref CKeepOnceRule) (.ref CRule) = some true)
    (sub_KeepAllRule_Rule : PySem.W.subIn K (.ref CKeepAllRule) (.ref CRule) = some true)
    (sub_KeepNoneRule_Rule : PySem.W.subIn K (.ref CKeepNoneRule) (.ref CRule) = some true)
    (sub_TurnRule_Rule : PySem.W.subIn K (.ref CTurnRule) (.ref CRule) = some true)
    (sub_RegroupOneRule_Rule : PySem.W.subIn K (.ref CRegroupOneRule) (.ref CRule) = some true)
    (sub_RegroupOtherRule_Rule : PySem.W.subIn K (.ref CRegroupOtherRule) (.ref CRule) = some true)
    (sub_SortGoneRule_Rule : PySem.W.subIn K (.ref CSortGoneRule) (.ref CRule) = some true)
    (sub_FirstsRule_Rule : PySem.W.subIn K (.ref CFirstsRule) (.ref CRule) = some true)
    (z_isinstance : PySem.W.nsIn K mainGlobals "isinstance" = some none)
    (z_len : PySem.W.nsIn K mainGlobals "len" = some none)
    (z_list : PySem.W.nsIn K mainGlobals "list" = some none)
    (z_max : PySem.W.nsIn K mainGlobals "max" = some none)
    (z_min : PySem.W.nsIn K mainGlobals "min" = some none)
    (z_range : PySem.W.nsIn K mainGlobals "range" = some none)
    (z_str : PySem.W.nsIn K mainGlobals "str" = some none)
    : ∃ fd : FuncData, (∀ (s : Shared) (v : Value), BindsTo s fd ⟨[v], []⟩ [("_law_script", v)]) ∧ ∀ base : Heap, K.In base → base.Ns mainGlobals mg → FnOk l.prog w K mg base CX0 3 fa fd ["_law_script"] (spLaw K) := by
  have e := hfa.symm.trans (PySem.W.mg_of X G a_law)
  cases e
  have T : Txt K mg { Rule := CRule, PartRule := CPartRule, UniteRule := CUniteRule, SwapRule := CSwapRule, ClearRule := CClearRule, MirrorRule := CMirrorRule, IntoOneRule := CIntoOneRule, IntoOtherRule := CIntoOtherRule, OutOfOneRule := COutOfOneRule, OutOfOtherRule := COutOfOtherRule, UnderGroupRule := CUnderGroupRule, KeepOneRule := CKeepOneRule, KeepOtherRule := CKeepOtherRule, KeepUpRule := CKeepUpRule, KeepDownRule := CKeepDownRule, KeepOnceRule := CKeepOnceRule, KeepAllRule := CKeepAllRule, KeepNoneRule := CKeepNoneRule, TurnRule := CTurnRule, RegroupOneRule := CRegroupOneRule, RegroupOtherRule := CRegroupOtherRule, SortGoneRule := CSortGoneRule, FirstsRule := CFirstsRule, f_PartRule_rule_word := f_PartRule_rule_word, f_UniteRule_rule_word := f_UniteRule_rule_word, f_SwapRule_rule_word := f_SwapRule_rule_word, f_ClearRule_rule_word := f_ClearRule_rule_word, f_MirrorRule_rule_word := f_MirrorRule_rule_word, f_IntoOneRule_rule_word := f_IntoOneRule_rule_word, f_IntoOtherRule_rule_word := f_IntoOtherRule_rule_word, f_OutOfOneRule_rule_word := f_OutOfOneRule_rule_word, f_OutOfOtherRule_rule_word := f_OutOfOtherRule_rule_word, f_UnderGroupRule_rule_word := f_UnderGroupRule_rule_word, f_KeepOneRule_rule_word := f_KeepOneRule_rule_word, f_KeepOtherRule_rule_word := f_KeepOtherRule_rule_word, f_KeepUpRule_rule_word := f_KeepUpRule_rule_word, f_KeepDownRule_rule_word := f_KeepDownRule_rule_word, f_KeepOnceRule_rule_word := f_KeepOnceRule_rule_word, f_KeepAllRule_rule_word := f_KeepAllRule_rule_word, f_KeepNoneRule_rule_word := f_KeepNoneRule_rule_word, f_TurnRule_rule_word := f_TurnRule_rule_word, f_RegroupOneRule_rule_word := f_RegroupOneRule_rule_word, f_RegroupOtherRule_rule_word := f_RegroupOtherRule_rule_word, f_SortGoneRule_rule_word := f_SortGoneRule_rule_word, f_FirstsRule_rule_word := f_FirstsRule_rule_word, f_all_rules := f_all_rules, f_rules_told := f_rules_told, f_rule_by := f_rule_by, f_law_rich := f_law_rich, f_law_purse := f_law_purse, f_law_take := f_law_take, f_law_all := f_law_all, f_law_thing := f_law_thing, f_law := fa } := { c_Rule := ⟨pg_Rule, hd_Rule, po_Rule, sa_Rule⟩, g_Rule := PySem.W.mg_of X G a_Rule, c_PartRule := ⟨pg_PartRule, hd_PartRule, po_PartRule, sa_PartRule⟩, g_PartRule := PySem.W.mg_of X G a_PartRule, c_UniteRule := ⟨pg_UniteRule, hd_UniteRule, po_UniteRule, sa_UniteRule⟩, g_UniteRule := PySem.W.mg_of X G a_UniteRule, c_SwapRule := ⟨pg_SwapRule, hd_SwapRule, po_SwapRule, sa_SwapRule⟩, g_SwapRule := PySem.W.mg_of X G a_SwapRule, c_ClearRule := ⟨pg_ClearRule, hd_ClearRule, po_ClearRule, sa_ClearRule⟩, g_ClearRule := PySem.W.mg_of X G a_ClearRule, c_MirrorRule := ⟨pg_MirrorRule, hd_MirrorRule, po_MirrorRule, sa_MirrorRule⟩, g_MirrorRule := PySem.W.mg_of X G a_MirrorRule, c_IntoOneRule := ⟨pg_IntoOneRule, hd_IntoOneRule, po_IntoOneRule, sa_IntoOneRule⟩, g_IntoOneRule := PySem.W.mg_of X G a_IntoOneRule, c_IntoOtherRule := ⟨pg_IntoOtherRule, hd_IntoOtherRule, po_IntoOtherRule, sa_IntoOtherRule⟩, g_IntoOtherRule := PySem.W.mg_of X G a_IntoOtherRule, c_OutOfOneRule := ⟨pg_OutOfOneRule, hd_OutOfOneRule, po_OutOfOneRule, sa_OutOfOneRule⟩, g_OutOfOneRule := PySem.W.mg_of X G a_OutOfOneRule, c_OutOfOtherRule := ⟨pg_OutOfOtherRule, hd_OutOfOtherRule, po_OutOfOtherRule, sa_OutOfOtherRule⟩, g_OutOfOtherRule := PySem.W.mg_of X G a_OutOfOtherRule, c_UnderGroupRule := ⟨pg_UnderGroupRule, hd_UnderGroupRule, po_UnderGroupRule, sa_UnderGroupRule⟩, g_UnderGroupRule := PySem.W.mg_of X G a_UnderGroupRule, c_KeepOneRule := ⟨pg_KeepOneRule, hd_KeepOneRule, po_KeepOneRule, sa_KeepOneRule⟩, g_KeepOneRule := PySem.W.mg_of X G a_KeepOneRule, c_KeepOtherRule := ⟨pg_KeepOtherRule, hd_KeepOtherRule, po_KeepOtherRule, sa_KeepOtherRule⟩, g_KeepOtherRule := PySem.W.mg_of X G a_KeepOtherRule, c_KeepUpRule := ⟨pg_KeepUpRule, hd_KeepUpRule, po_KeepUpRule, sa_KeepUpRule⟩, g_KeepUpRule := PySem.W.mg_of X G a_KeepUpRule, c_KeepDownRule := ⟨pg_KeepDownRule, hd_KeepDownRule, po_KeepDownRule, sa_KeepDownRule⟩, g_KeepDownRule := PySem.W.mg_of X G a_KeepDownRule, c_KeepOnceRule := ⟨pg_KeepOnceRule, hd_KeepOnceRule, po_KeepOnceRule, sa_KeepOnceRule⟩, g_KeepOnceRule := PySem.W.mg_of X G a_KeepOnceRule, c_KeepAllRule := ⟨pg_KeepAllRule, hd_KeepAllRule, po_KeepAllRule, sa_KeepAllRule⟩, g_KeepAllRule := PySem.W.mg_of X G a_KeepAllRule, c_KeepNoneRule := ⟨pg_KeepNoneRule, hd_KeepNoneRule, po_KeepNoneRule, sa_KeepNoneRule⟩, g_KeepNoneRule := PySem.W.mg_of X G a_KeepNoneRule, c_TurnRule := ⟨pg_TurnRule, hd_TurnRule, po_TurnRule, sa_TurnRule⟩, g_TurnRule := PySem.W.mg_of X G a_TurnRule, c_RegroupOneRule := ⟨pg_RegroupOneRule, hd_RegroupOneRule, po_RegroupOneRule, sa_RegroupOneRule⟩, g_RegroupOneRule := PySem.W.mg_of X G a_RegroupOneRule, c_RegroupOtherRule := ⟨pg_RegroupOtherRule, hd_RegroupOtherRule, po_RegroupOtherRule, sa_RegroupOtherRule⟩, g_RegroupOtherRule := PySem.W.mg_of X G a_RegroupOtherRule, c_SortGoneRule := ⟨pg_SortGoneRule, hd_SortGoneRule, po_SortGoneRule, sa_SortGoneRule⟩, g_SortGoneRule := PySem.W.mg_of X G a_SortGoneRule, c_FirstsRule := ⟨pg_FirstsRule, hd_FirstsRule, po_FirstsRule, sa_FirstsRule⟩, g_FirstsRule := PySem.W.mg_of X G a_FirstsRule, d_PartRule_rule_word := ⟨_, fun_mk (st := s_PartRule_rule_word) l_PartRule_rule_word c_PartRule_rule_word k_PartRule_rule_word, (fun_mk (st := s_PartRule_rule_word) l_PartRule_rule_word c_PartRule_rule_word k_PartRule_rule_word).binds (ps := ["self"]) fun _ _ _ _ _ _ us hl => match us, hl with | [_], _ => rfl⟩, m_PartRule_rule_word := ⟨a_PartRule_rule_word, i_PartRule_rule_word, k_PartRule_rule_word⟩, d_UniteRule_rule_word := ⟨_, fun_mk (st := s_UniteRule_rule_word) l_UniteRule_rule_word c_UniteRule_rule_word k_UniteRule_rule_word, (fun_mk (st := s_UniteRule_rule_word) l_UniteRule_rule_word c_UniteRule_rule_word k_UniteRule_rule_word).binds (ps := ["self"]) fun _ _ _ _ _ _ us hl => match us, hl with | [_], _ => rfl⟩, m_UniteRule_rule_word := ⟨a_UniteRule_rule_word, i_UniteRule_rule_word, k_UniteRule_rule_word⟩, d_SwapRule_rule_word := ⟨_, fun_mk (st := s_SwapRule_rule_word) l_SwapRule_rule_word c_SwapRule_rule_word k_SwapRule_rule_word, (fun_mk (st := s_SwapRule_rule_word) l_SwapRule_rule_word c_SwapRule_rule_word k_SwapRule_rule_word).binds (ps := ["self"]) fun _ _ _ _ _ _ us hl => match us, hl with | [_], _ => rfl⟩, m_SwapRule_rule_word := ⟨a_SwapRule_rule_word, i_SwapRule_rule_word, k_SwapRule_rule_word⟩, d_ClearRule_rule_word := ⟨_, fun_mk (st := s_ClearRule_rule_word) l_ClearRule_rule_word c_ClearRule_rule_word k_ClearRule_rule_word, (fun_mk (st := s_ClearRule_rule_word) l_ClearRule_rule_word c_ClearRule_rule_word k_ClearRule_rule_word).binds (ps := ["self"]) fun _ _ _ _ _ _ us hl => match us, hl with | [_], _ => rfl⟩, m_ClearRule_rule_word := ⟨a_ClearRule_rule_word, i_ClearRule_rule_word, k_ClearRule_rule_word⟩, d_MirrorRule_rule_word := ⟨_, fun_mk (st := s_MirrorRule_rule_word) l_MirrorRule_rule_word c_MirrorRule_rule_word k_MirrorRule_rule_word, (fun_mk (st := s_MirrorRule_rule_word) l_MirrorRule_rule_word c_MirrorRule_rule_word k_MirrorRule_rule_word).binds (ps := ["self"]) fun _ _ _ _ _ _ us hl => match us, hl with | [_], _ => rfl⟩, m_MirrorRule_rule_word := ⟨a_MirrorRule_rule_word, i_MirrorRule_rule_word, k_MirrorRule_rule_word⟩, d_IntoOneRule_rule_word := ⟨_, fun_mk (st := s_IntoOneRule_rule_word) l_IntoOneRule_rule_word c_IntoOneRule_rule_word k_IntoOneRule_rule_word, (fun_mk (st := s_IntoOneRule_rule_word) l_IntoOneRule_rule_word c_IntoOneRule_rule_word k_IntoOneRule_rule_word).binds (ps := ["self"]) fun _ _ _ _ _ _ us hl => match us, hl with | [_], _ => rfl⟩, m_IntoOneRule_rule_word := ⟨a_IntoOneRule_rule_word, i_IntoOneRule_rule_word, k_IntoOneRule_rule_word⟩, d_IntoOtherRule_rule_word := ⟨_, fun_mk (st := s_IntoOtherRule_rule_word) l_IntoOtherRule_rule_word c_IntoOtherRule_rule_word k_IntoOtherRule_rule_word, (fun_mk (st := s_IntoOtherRule_rule_word) l_IntoOtherRule_rule_word c_IntoOtherRule_rule_word k_IntoOtherRule_rule_word).binds (ps := ["self"]) fun _ _ _ _ _ _ us hl => match us, hl with | [_], _ => rfl⟩, m_IntoOtherRule_rule_word := ⟨a_IntoOtherRule_rule_word, i_IntoOtherRule_rule_word, k_IntoOtherRule_rule_word⟩, d_OutOfOneRule_rule_word := ⟨_, fun_mk (st := s_OutOfOneRule_rule_word) l_OutOfOneRule_rule_word c_OutOfOneRule_rule_word k_OutOfOneRule_rule_word, (fun_mk (st := s_OutOfOneRule_rule_word) l_OutOfOneRule_rule_word c_OutOfOneRule_rule_word k_OutOfOneRule_rule_word).binds (ps := ["self"]) fun _ _ _ _ _ _ us hl => match us, hl with | [_], _ => rfl⟩, m_OutOfOneRule_rule_word := ⟨a_OutOfOneRule_rule_word, i_OutOfOneRule_rule_word, k_OutOfOneRule_rule_word⟩, d_OutOfOtherRule_rule_word := ⟨_, fun_mk (st := s_OutOfOtherRule_rule_word) l_OutOfOtherRule_rule_word c_OutOfOtherRule_rule_word k_OutOfOtherRule_rule_word, (fun_mk (st := s_OutOfOtherRule_rule_word) l_OutOfOtherRule_rule_word c_OutOfOtherRule_rule_word k_OutOfOtherRule_rule_word).binds (ps := ["self"]) fun _ _ _ _ _ _ us hl => match us, hl with | [_], _ => rfl⟩, m_OutOfOtherRule_rule_word := ⟨a_OutOfOtherRule_rule_word, i_OutOfOtherRule_rule_word, k_OutOfOtherRule_rule_word⟩, d_UnderGroupRule_rule_word := ⟨_, fun_mk (st := s_UnderGroupRule_rule_word) l_UnderGroupRule_rule_word c_UnderGroupRule_rule_word k_UnderGroupRule_rule_word, (fun_mk (st := s_UnderGroupRule_rule_word) l_UnderGroupRule_rule_word c_UnderGroupRule_rule_word k_UnderGroupRule_rule_word).binds (ps := ["self"]) fun _ _ _ _ _ _ us hl => match us, hl with | [_], _ => rfl⟩, m_UnderGroupRule_rule_word := ⟨a_UnderGroupRule_rule_word, i_UnderGroupRule_rule_word, k_UnderGroupRule_rule_word⟩, d_KeepOneRule_rule_word := ⟨_, fun_mk (st := s_KeepOneRule_rule_word) l_KeepOneRule_rule_word c_KeepOneRule_rule_word k_KeepOneRule_rule_word, (fun_mk (st := s_KeepOneRule_rule_word) l_KeepOneRule_rule_word c_KeepOneRule_rule_word k_KeepOneRule_rule_word).binds (ps := ["self"]) fun _ _ _ _ _ _ us hl => match us, hl with | [_], _ => rfl⟩, m_KeepOneRule_rule_word := ⟨a_KeepOneRule_rule_word, i_KeepOneRule_rule_word, k_KeepOneRule_rule_word⟩, d_KeepOtherRule_rule_word := ⟨_, fun_mk (st := s_KeepOtherRule_rule_word) l_KeepOtherRule_rule_word c_KeepOtherRule_rule_word k_KeepOtherRule_rule_word, (fun_mk (st := s_KeepOtherRule_rule_word) l_KeepOtherRule_rule_word c_KeepOtherRule_rule_word k_KeepOtherRule_rule_word).binds (ps := ["self"]) fun _ _ _ _ _ _ us hl => match us, hl with | [_], _ => rfl⟩, m_KeepOtherRule_rule_word := ⟨a_KeepOtherRule_rule_word, i_KeepOtherRule_rule_word, k_KeepOtherRule_rule_word⟩, d_KeepUpRule_rule_word := ⟨_, fun_mk (st := s_KeepUpRule_rule_word) l_KeepUpRule_rule_word c_KeepUpRule_rule_word k_KeepUpRule_rule_word, (fun_mk (st := s_KeepUpRule_rule_word) l_KeepUpRule_rule_word c_KeepUpRule_rule_word k_KeepUpRule_rule_word).binds (ps := ["self"]) fun _ _ _ _ _ _ us hl => match us, hl with | [_], _ => rfl⟩, m_KeepUpRule_rule_word := ⟨a_KeepUpRule_rule_word, i_KeepUpRule_rule_word, k_KeepUpRule_rule_word⟩, d_KeepDownRule_rule_word := ⟨_, fun_mk (st := s_KeepDownRule_rule_word) l_KeepDownRule_rule_word c_KeepDownRule_rule_word k_KeepDownRule_rule_word, (fun_mk (st := s_KeepDownRule_rule_word) l_KeepDownRule_rule_word c_KeepDownRule_rule_word k_KeepDownRule_rule_word).binds (ps := ["self"]) fun _ _ _ _ _ _ us hl => match us, hl with | [_], _ => rfl⟩, m_KeepDownRule_rule_word := ⟨a_KeepDownRule_rule_word, i_KeepDownRule_rule_word, k_KeepDownRule_rule_word⟩, d_KeepOnceRule_rule_word := ⟨_, fun_mk (st := s_KeepOnceRule_rule_word) l_KeepOnceRule_rule_word c_KeepOnceRule_rule_word k_KeepOnceRule_rule_word, (fun_mk (st := s_KeepOnceRule_rule_word) l_KeepOnceRule_rule_word c_KeepOnceRule_rule_word k_KeepOnceRule_rule_word).binds (ps := ["self"]) fun _ _ _ _ _ _ us hl => match us, hl with | [_], _ => rfl⟩, m_KeepOnceRule_rule_word := ⟨a_KeepOnceRule_rule_word, i_KeepOnceRule_rule_word, k_KeepOnceRule_rule_word⟩, d_KeepAllRule_rule_word := ⟨_, fun_mk (st := s_KeepAllRule_rule_word) l_KeepAllRule_rule_word c_KeepAllRule_rule_word k_KeepAllRule_rule_word, (fun_mk (st := s_KeepAllRule_rule_word) l_KeepAllRule_rule_word c_KeepAllRule_rule_word k_KeepAllRule_rule_word).binds (ps := ["self"]) fun _ _ _ _ _ _ us hl => match us, hl with | [_], _ => rfl⟩, m_KeepAllRule_rule_word := ⟨a_KeepAllRule_rule_word, i_KeepAllRule_rule_word, k_KeepAllRule_rule_word⟩, d_KeepNoneRule_rule_word := ⟨_, fun_mk (st := s_KeepNoneRule_rule_word) l_KeepNoneRule_rule_word c_KeepNoneRule_rule_word k_KeepNoneRule_rule_word, (fun_mk (st := s_KeepNoneRule_rule_word) l_KeepNoneRule_rule_word c_KeepNoneRule_rule_word k_KeepNoneRule_rule_word).binds (ps := ["self"]) fun _ _ _ _ _ _ us hl => match us, hl with | [_], _ => rfl⟩, m_KeepNoneRule_rule_word := ⟨a_KeepNoneRule_rule_word, i_KeepNoneRule_rule_word, k_KeepNoneRule_rule_word⟩, d_TurnRule_rule_word := ⟨_, fun_mk (st := s_TurnRule_rule_word) l_TurnRule_rule_word c_TurnRule_rule_word k_TurnRule_rule_word, (fun_mk (st := s_TurnRule_rule_word) l_TurnRule_rule_word c_TurnRule_rule_word k_TurnRule_rule_word).binds (ps := ["self"]) fun _ _ _ _ _ _ us hl => match us, hl with | [_], _ => rfl⟩, m_TurnRule_rule_word := ⟨a_TurnRule_rule_word, i_TurnRule_rule_word, k_TurnRule_rule_word⟩, d_RegroupOneRule_rule_word := ⟨_, fun_mk (st := s_RegroupOneRule_rule_word) l_RegroupOneRule_rule_word c_RegroupOneRule_rule_word k_RegroupOneRule_rule_word, (fun_mk (st := s_RegroupOneRule_rule_word) l_RegroupOneRule_rule_word c_RegroupOneRule_rule_word k_RegroupOneRule_rule_word).binds (ps := ["self"]) fun _ _ _ _ _ _ us hl => match us, hl with | [_], _ => rfl⟩, m_RegroupOneRule_rule_word := ⟨a_RegroupOneRule_rule_word, i_RegroupOneRule_rule_word, k_RegroupOneRule_rule_word⟩, d_RegroupOtherRule_rule_word := ⟨_, fun_mk (st := s_RegroupOtherRule_rule_word) l_RegroupOtherRule_rule_word c_RegroupOtherRule_rule_word k_RegroupOtherRule_rule_word, (fun_mk (st := s_RegroupOtherRule_rule_word) l_RegroupOtherRule_rule_word c_RegroupOtherRule_rule_word k_RegroupOtherRule_rule_word).binds (ps := ["self"]) fun _ _ _ _ _ _ us hl => match us, hl with | [_], _ => rfl⟩, m_RegroupOtherRule_rule_word := ⟨a_RegroupOtherRule_rule_word, i_RegroupOtherRule_rule_word, k_RegroupOtherRule_rule_word⟩, d_SortGoneRule_rule_word := ⟨_, fun_mk (st := s_SortGoneRule_rule_word) l_SortGoneRule_rule_word c_SortGoneRule_rule_word k_SortGoneRule_rule_word, (fun_mk (st := s_SortGoneRule_rule_word) l_SortGoneRule_rule_word c_SortGoneRule_rule_word k_SortGoneRule_rule_word).binds (ps := ["self"]) fun _ _ _ _ _ _ us hl => match us, hl with | [_], _ => rfl⟩, m_SortGoneRule_rule_word := ⟨a_SortGoneRule_rule_word, i_SortGoneRule_rule_word, k_SortGoneRule_rule_word⟩, d_FirstsRule_rule_word := ⟨_, fun_mk (st := s_FirstsRule_rule_word) l_FirstsRule_rule_word c_FirstsRule_rule_word k_FirstsRule_rule_word, (fun_mk (st := s_FirstsRule_rule_word) l_FirstsRule_rule_word c_FirstsRule_rule_word k_FirstsRule_rule_word).binds (ps := ["self"]) fun _ _ _ _ _ _ us hl => match us, hl with | [_], _ => rfl⟩, m_FirstsRule_rule_word := ⟨a_FirstsRule_rule_word, i_FirstsRule_rule_word, k_FirstsRule_rule_word⟩, d_all_rules := ⟨_, fun_mk (st := s_all_rules) l_all_rules c_all_rules k_all_rules, (fun_mk (st := s_all_rules) l_all_rules c_all_rules k_all_rules).binds (ps := []) fun _ _ _ _ _ _ us hl => match us, hl with | [], _ => rfl⟩, g_all_rules := PySem.W.mg_of X G a_all_rules, d_rules_told := ⟨_, fun_mk (st := s_rules_told) l_rules_told c_rules_told k_rules_told, (fun_mk (st := s_rules_told) l_rules_told c_rules_told k_rules_told).binds (ps := []) fun _ _ _ _ _ _ us hl => match us, hl with | [], _ => rfl⟩, g_rules_told := PySem.W.mg_of X G a_rules_told, d_rule_by := ⟨_, fun_mk (st := s_rule_by) l_rule_by c_rule_by k_rule_by, (fun_mk (st := s_rule_by) l_rule_by c_rule_by k_rule_by).binds (ps := ["word"]) fun _ _ _ _ _ _ us hl => match us, hl with | [_], _ => rfl⟩, g_rule_by := PySem.W.mg_of X G a_rule_by, d_law_rich := ⟨_, fun_mk (st := s_law_rich) l_law_rich c_law_rich k_law_rich, (fun_mk (st := s_law_rich) l_law_rich c_law_rich k_law_rich).binds (ps := ["_law_cell"]) fun _ _ _ _ _ _ us hl => match us, hl with | [_], _ => rfl⟩, g_law_rich := PySem.W.mg_of X G a_law_rich, d_law_purse := ⟨_, fun_mk (st := s_law_purse) l_law_purse c_law_purse k_law_purse, (fun_mk (st := s_law_purse) l_law_purse c_law_purse k_law_purse).binds (ps := ["_law_script", "_law_k"]) fun _ _ _ _ _ _ us hl => match us, hl with | [_, _], _ => rfl⟩, g_law_purse := PySem.W.mg_of X G a_law_purse, d_law_take := ⟨_, fun_mk (st := s_law_take) l_law_take c_law_take k_law_take, (fun_mk (st := s_law_take) l_law_take c_law_take k_law_take).binds (ps := ["_law_purse_here", "_law_by"]) fun _ _ _ _ _ _ us hl => match us, hl with | [_, _], _ => rfl⟩, g_law_take := PySem.W.mg_of X G a_law_take, d_law_all := ⟨_, fun_mk (st := s_law_all) l_law_all c_law_all k_law_all, (fun_mk (st := s_law_all) l_law_all c_law_all k_law_all).binds (ps := []) fun _ _ _ _ _ _ us hl => match us, hl with | [], _ => rfl⟩, g_law_all := PySem.W.mg_of X G a_law_all, d_law_thing := ⟨_, fun_mk (st := s_law_thing) l_law_thing c_law_thing k_law_thing, (fun_mk (st := s_law_thing) l_law_thing c_law_thing k_law_thing).binds (ps := ["_law_purse_here"]) fun _ _ _ _ _ _ us hl => match us, hl with | [_], _ => rfl⟩, g_law_thing := PySem.W.mg_of X G a_law_thing, d_law := ⟨_, fun_mk (st := s_law) l_law c_law k_law, (fun_mk (st := s_law) l_law c_law k_law).binds (ps := ["_law_script"]) fun _ _ _ _ _ _ us hl => match us, hl with | [_], _ => rfl⟩, g_law := PySem.W.mg_of X G a_law, xa_PartRule := xa_PartRule, xm_PartRule := xm_PartRule, xa_UniteRule := xa_UniteRule, xm_UniteRule := xm_UniteRule, xa_SwapRule := xa_SwapRule, xm_SwapRule := xm_SwapRule, xa_ClearRule := xa_ClearRule, xm_ClearRule := xm_ClearRule, xa_MirrorRule := xa_MirrorRule, xm_MirrorRule := xm_MirrorRule, xa_IntoOneRule := xa_IntoOneRule, xm_IntoOneRule := xm_IntoOneRule, xa_IntoOtherRule := xa_IntoOtherRule, xm_IntoOtherRule := xm_IntoOtherRule, xa_OutOfOneRule := xa_OutOfOneRule, xm_OutOfOneRule := xm_OutOfOneRule, xa_OutOfOtherRule := xa_OutOfOtherRule, xm_OutOfOtherRule := xm_OutOfOtherRule, xa_UnderGroupRule := xa_UnderGroupRule, xm_UnderGroupRule := xm_UnderGroupRule, xa_KeepOneRule := xa_KeepOneRule, xm_KeepOneRule := xm_KeepOneRule, xa_KeepOtherRule := xa_KeepOtherRule, xm_KeepOtherRule := xm_KeepOtherRule, xa_KeepUpRule := xa_KeepUpRule, xm_KeepUpRule := xm_KeepUpRule, xa_KeepDownRule := xa_KeepDownRule, xm_KeepDownRule := xm_KeepDownRule, xa_KeepOnceRule := xa_KeepOnceRule, xm_KeepOnceRule := xm_KeepOnceRule, xa_KeepAllRule := xa_KeepAllRule, xm_KeepAllRule := xm_KeepAllRule, xa_KeepNoneRule := xa_KeepNoneRule, xm_KeepNoneRule := xm_KeepNoneRule, xa_TurnRule := xa_TurnRule, xm_TurnRule := xm_TurnRule, xa_RegroupOneRule := xa_RegroupOneRule, xm_RegroupOneRule := xm_RegroupOneRule, xa_RegroupOtherRule := xa_RegroupOtherRule, xm_RegroupOtherRule := xm_RegroupOtherRule, xa_SortGoneRule := xa_SortGoneRule, xm_SortGoneRule := xm_SortGoneRule, xa_FirstsRule := xa_FirstsRule, xm_FirstsRule := xm_FirstsRule, xn := xn, xt := xt, mo_PartRule := mo_PartRule, io_PartRule := io_PartRule, kc_PartRule := kc_PartRule, mo_UniteRule := mo_UniteRule, io_UniteRule := io_UniteRule, kc_UniteRule := kc_UniteRule, mo_SwapRule := mo_SwapRule, io_SwapRule := io_SwapRule, kc_SwapRule := kc_SwapRule, mo_ClearRule := mo_ClearRule, io_ClearRule := io_ClearRule, kc_ClearRule := kc_ClearRule, mo_MirrorRule := mo_MirrorRule, io_MirrorRule := io_MirrorRule, kc_MirrorRule := kc_MirrorRule, mo_IntoOneRule := mo_IntoOneRule, io_IntoOneRule := io_IntoOneRule, kc_IntoOneRule := kc_IntoOneRule, mo_IntoOtherRule := mo_IntoOtherRule, io_IntoOtherRule := io_IntoOtherRule, kc_IntoOtherRule := kc_IntoOtherRule, mo_OutOfOneRule := mo_OutOfOneRule, io_OutOfOneRule := io_OutOfOneRule, kc_OutOfOneRule := kc_OutOfOneRule, mo_OutOfOtherRule := mo_OutOfOtherRule, io_OutOfOtherRule := io_OutOfOtherRule, kc_OutOfOtherRule := kc_OutOfOtherRule, mo_UnderGroupRule := mo_UnderGroupRule, io_UnderGroupRule := io_UnderGroupRule, kc_UnderGroupRule := kc_UnderGroupRule, mo_KeepOneRule := mo_KeepOneRule, io_KeepOneRule := io_KeepOneRule, kc_KeepOneRule := kc_KeepOneRule, mo_KeepOtherRule := mo_KeepOtherRule, io_KeepOtherRule := io_KeepOtherRule, kc_KeepOtherRule := kc_KeepOtherRule, mo_KeepUpRule := mo_KeepUpRule, io_KeepUpRule := io_KeepUpRule, kc_KeepUpRule := kc_KeepUpRule, mo_KeepDownRule := mo_KeepDownRule, io_KeepDownRule := io_KeepDownRule, kc_KeepDownRule := kc_KeepDownRule, mo_KeepOnceRule := mo_KeepOnceRule, io_KeepOnceRule := io_KeepOnceRule, kc_KeepOnceRule := kc_KeepOnceRule, mo_KeepAllRule := mo_KeepAllRule, io_KeepAllRule := io_KeepAllRule, kc_KeepAllRule := kc_KeepAllRule, mo_KeepNoneRule := mo_KeepNoneRule, io_KeepNoneRule := io_KeepNoneRule, kc_KeepNoneRule := kc_KeepNoneRule, mo_TurnRule := mo_TurnRule, io_TurnRule := io_TurnRule, kc_TurnRule := kc_TurnRule, mo_RegroupOneRule := mo_RegroupOneRule, io_RegroupOneRule := io_RegroupOneRule, kc_RegroupOneRule := kc_RegroupOneRule, mo_RegroupOtherRule := mo_RegroupOtherRule, io_RegroupOtherRule := io_RegroupOtherRule, kc_RegroupOtherRule := kc_RegroupOtherRule, mo_SortGoneRule := mo_SortGoneRule, io_SortGoneRule := io_SortGoneRule, kc_SortGoneRule := kc_SortGoneRule, mo_FirstsRule := mo_FirstsRule, io_FirstsRule := io_FirstsRule, kc_FirstsRule := kc_FirstsRule, cb_Rule := cb_Rule, tb_Rule := tb_Rule, sub_PartRule_Rule := sub_PartRule_Rule, sub_UniteRule_Rule := sub_UniteRule_Rule, sub_SwapRule_Rule := sub_SwapRule_Rule, sub_ClearRule_Rule := sub_ClearRule_Rule, sub_MirrorRule_Rule := sub_MirrorRule_Rule, sub_IntoOneRule_Rule := sub_IntoOneRule_Rule, sub_IntoOtherRule_Rule := sub_IntoOtherRule_Rule, sub_OutOfOneRule_Rule := sub_OutOfOneRule_Rule, sub_OutOfOtherRule_Rule := sub_OutOfOtherRule_Rule, sub_UnderGroupRule_Rule := sub_UnderGroupRule_Rule, sub_KeepOneRule_Rule := sub_KeepOneRule_Rule, sub_KeepOtherRule_Rule := sub_KeepOtherRule_Rule, sub_KeepUpRule_Rule := sub_KeepUpRule_Rule, sub_KeepDownRule_Rule := sub_KeepDownRule_Rule, sub_KeepOnceRule_Rule := sub_KeepOnceRule_Rule, sub_KeepAllRule_Rule := sub_KeepAllRule_Rule, sub_KeepNoneRule_Rule := sub_KeepNoneRule_Rule, sub_TurnRule_Rule := sub_TurnRule_Rule, sub_RegroupOneRule_Rule := sub_RegroupOneRule_Rule, sub_RegroupOtherRule_Rule := sub_RegroupOtherRule_Rule, sub_SortGoneRule_Rule := sub_SortGoneRule_Rule, sub_FirstsRule_Rule := sub_FirstsRule_Rule, b_isinstance := PySem.W.mg_none_of X G z_isinstance, b_len := PySem.W.mg_none_of X G z_len, b_list := PySem.W.mg_none_of X G z_list, b_max := PySem.W.mg_none_of X G z_max, b_min := PySem.W.mg_none_of X G z_min, b_range := PySem.W.mg_none_of X G z_range, b_str := PySem.W.mg_none_of X G z_str }
  exact ⟨_, fun s v => .of_eq rfl, fun base _ _ => ok_law (fun_mk (st := s_law) l_law c_law k_law) T⟩
theorem walk {l : PySem.W.OpenLaw} {q : Program} {loose : List Str} {XP : (Str → Option Value) → Heap → Prop} {YP : World → Heap → Prop} {d : DefRec} {K : Params → PySem.W.Frag} (hn : l.most = some 63) (hdf : d.params.defaults = [])
    (hY : ∀ (w : World) (h : Heap), YP w h → (K w.params).In h)
    (F : ∀ (w : World) (mg : Str → Option Value) (fa : Addr) (h : Heap), (K w.params).In h → h.Ns mainGlobals mg → mg d.name = some (.ref fa) →
      ∃ fd : FuncData, (∀ (s : Shared) (u : Value), BindsTo s fd ⟨[u], []⟩ [("_law_script", u)]) ∧ ∀ base : Heap, (K w.params).In base → base.Ns mainGlobals mg → FnOk l.prog w (K w.params) mg base CX0 3 fa fd ["_law_script"] (spLaw (K w.params))) :
    PySem.W.WalkO q loose XP YP l.row.toRowW d [] (fun f vs => PySem.call f vs) :=
  L2.walk_of (n := 63) (k := 3) (x := "_law_script") (CX := fun _ => CX0) (sp := fun w => spLaw (K w.params)) hn (by decide) hdf ⟨rfl, by decide, by decide⟩ hY F (fun _ _ a ns hl _ hS => ⟨a, ns, rfl, hS, hl, fun _ => rfl⟩) fun _ _ _ _ _ z => z
end Toy
open PySem PySem.W PyProof.Rows in
set_option maxRecDepth 100000 in
set_option maxHeartbeats 0 in
theorem PySem.Challenge.cw_planstore_k44_rules_by_word_holds : PySem.Challenge.rw_planstore_k44_rules_by_word.Holds := by
  w_on; o_law; k_head; (case hw => w_witness2)
  k_fill
  refine Toy.walk (l := PySem.Challenge.rw_planstore_k44_rules_by_word) rfl rfl (fun w h Y => PySem.W.kIn_of Y) ?F
  case F =>
    intro w mg fa h KX G hmg
    refine' Toy.all_mk KX G hmg ?a_Rule ?pg_Rule ?hd_Rule ?po_Rule ?sa_Rule ?a_PartRule ?pg_PartRule ?hd_PartRule ?po_PartRule ?sa_PartRule ?a_UniteRule ?pg_UniteRule ?hd_UniteRule ?po_UniteRule ?sa_UniteRule ?a_SwapRule ?pg_SwapRule ?hd_SwapRule ?po_SwapRule ?sa_SwapRule ?a_ClearRule ?pg_ClearRule ?hd_ClearRule ?po_ClearRule ?sa_ClearRule ?a_MirrorRule ?pg_MirrorRule ?hd_MirrorRule ?po_MirrorRule ?sa_MirrorRule ?a_IntoOneRule ?pg_IntoOneRule ?hd_IntoOneRule ?po_IntoOneRule ?sa_IntoOneRule ?a_IntoOtherRule ?pg_IntoOtherRule ?hd_IntoOtherRule ?po_IntoOtherRule ?sa_IntoOtherRule ?a_OutOfOneRule ?pg_OutOfOneRule ?hd_OutOfOneRule ?po_OutOfOneRule ?sa_OutOfOneRule ?a_OutOfOtherRule ?pg_OutOfOtherRule ?hd_OutOfOtherRule ?po_OutOfOtherRule ?sa_OutOfOtherRule ?a_UnderGroupRule ?pg_UnderGroupRule ?hd_UnderGroupRule ?po_UnderGroupRule ?sa_UnderGroupRule ?a_KeepOneRule ?pg_KeepOneRule ?hd_KeepOneRule ?po_KeepOneRule ?sa_KeepOneRule ?a_KeepOtherRule ?pg_KeepOtherRule ?hd_KeepOtherRule ?po_KeepOtherRule ?sa_KeepOtherRule ?a_KeepUpRule ?pg_KeepUpRule ?hd_KeepUpRule ?po_KeepUpRule ?sa_KeepUpRule ?a_KeepDownRule ?pg_KeepDownRule ?hd_KeepDownRule ?po_KeepDownRule ?sa_KeepDownRule ?a_KeepOnceRule ?pg_KeepOnceRule ?hd_KeepOnceRule ?po_KeepOnceRule ?sa_KeepOnceRule ?a_KeepAllRule ?pg_KeepAllRule ?hd_KeepAllRule ?po_KeepAllRule ?sa_KeepAllRule ?a_KeepNoneRule ?pg_KeepNoneRule ?hd_KeepNoneRule ?po_KeepNoneRule ?sa_KeepNoneRule ?a_TurnRule ?pg_TurnRule ?hd_TurnRule ?po_TurnRule ?sa_TurnRule ?a_RegroupOneRule ?pg_RegroupOneRule ?hd_RegroupOneRule ?po_RegroupOneRule ?sa_RegroupOneRule ?a_RegroupOtherRule ?pg_RegroupOtherRule ?hd_RegroupOtherRule ?po_RegroupOtherRule ?sa_RegroupOtherRule ?a_SortGoneRule ?pg_SortGoneRule ?hd_SortGoneRule ?po_SortGoneRule ?sa_SortGoneRule ?a_FirstsRule ?pg_FirstsRule ?hd_FirstsRule ?po_FirstsRule ?sa_FirstsRule ?a_PartRule_rule_word ?i_PartRule_rule_word ?l_PartRule_rule_word ?c_PartRule_rule_word ?k_PartRule_rule_word ?a_UniteRule_rule_word ?i_UniteRule_rule_word ?l_UniteRule_rule_word ?c_UniteRule_rule_word ?k_UniteRule_rule_word ?a_SwapRule_rule_word ?i_SwapRule_rule_word ?l_SwapRule_rule_word ?c_SwapRule_rule_word ?k_SwapRule_rule_word ?a_ClearRule_rule_word ?i_ClearRule_rule_word ?l_ClearRule_rule_word ?c_ClearRule_rule_word ?k_ClearRule_rule_word ?a_MirrorRule_rule_word ?i_MirrorRule_rule_word ?l_MirrorRule_rule_word ?c_MirrorRule_rule_word ?k_MirrorRule_rule_word ?a_IntoOneRule_rule_word ?i_IntoOneRule_rule_word ?l_IntoOneRule_rule_word ?c_IntoOneRule_rule_word ?k_IntoOneRule_rule_word ?a_IntoOtherRule_rule_word ?i_IntoOtherRule_rule_word ?l_IntoOtherRule_rule_word ?c_IntoOtherRule_rule_word ?k_IntoOtherRule_rule_word ?a_OutOfOneRule_rule_word ?i_OutOfOneRule_rule_word ?l_OutOfOneRule_rule_word ?c_OutOfOneRule_rule_word ?k_OutOfOneRule_rule_word ?a_OutOfOtherRule_rule_word ?i_OutOfOtherRule_rule_word ?l_OutOfOtherRule_rule_word ?c_OutOfOtherRule_rule_word ?k_OutOfOtherRule_rule_word ?a_UnderGroupRule_rule_word ?i_UnderGroupRule_rule_word ?l_UnderGroupRule_rule_word ?c_UnderGroupRule_rule_word ?k_UnderGroupRule_rule_word ?a_KeepOneRule_rule_word ?i_KeepOneRule_rule_word ?l_KeepOneRule_rule_word ?c_KeepOneRule_rule_word ?k_KeepOneRule_rule_word ?a_KeepOtherRule_rule_word ?i_KeepOtherRule_rule_word ?l_KeepOtherRule_rule_word ?c_KeepOtherRule_rule_word ?k_KeepOtherRule_rule_word ?a_KeepUpRule_rule_word ?i_KeepUpRule_rule_word ?l_KeepUpRule_rule_word ?c_KeepUpRule_rule_word ?k_KeepUpRule_rule_word ?a_KeepDownRule_rule_word ?i_KeepDownRule_rule_word ?l_KeepDownRule_rule_word ?c_KeepDownRule_rule_word ?k_KeepDownRule_rule_word ?a_KeepOnceRule_rule_word ?i_KeepOnceRule_rule_word ?l_KeepOnceRule_rule_word ?c_KeepOnceRule_rule_word ?k_KeepOnceRule_rule_word ?a_KeepAllRule_rule_word ?i_KeepAllRule_rule_word ?l_KeepAllRule_rule_word ?c_KeepAllRule_rule_word ?k_KeepAllRule_rule_word ?a_KeepNoneRule_rule_word ?i_KeepNoneRule_rule_word ?l_KeepNoneRule_rule_word ?c_KeepNoneRule_rule_word ?k_KeepNoneRule_rule_word ?a_TurnRule_rule_word ?i_TurnRule_rule_word ?l_TurnRule_rule_word ?c_TurnRule_rule_word ?k_TurnRule_rule_word ?a_RegroupOneRule_rule_word ?i_RegroupOneRule_rule_word ?l_RegroupOneRule_rule_word ?c_RegroupOneRule_rule_word ?k_RegroupOneRule_rule_word ?a_RegroupOtherRule_rule_word ?i_RegroupOtherRule_rule_word ?l_RegroupOtherRule_rule_word ?c_RegroupOtherRule_rule_word ?k_RegroupOtherRule_rule_word ?a_SortGoneRule_rule_word ?i_SortGoneRule_rule_word ?l_SortGoneRule_rule_word ?c_SortGoneRule_rule_word ?k_SortGoneRule_rule_word ?a_FirstsRule_rule_word ?i_FirstsRule_rule_word ?l_FirstsRule_rule_word ?c_FirstsRule_rule_word ?k_FirstsRule_rule_word ?a_all_rules ?l_all_rules ?c_all_rules ?k_all_rules ?a_rules_told ?l_rules_told ?c_rules_told ?k_rules_told ?a_rule_by ?l_rule_by ?c_rule_by ?k_rule_by ?a_law_rich ?l_law_rich ?c_law_rich ?k_law_rich ?a_law_purse ?l_law_purse ?c_law_purse ?k_law_purse ?a_law_take ?l_law_take ?c_law_take ?k_law_take ?a_law_all ?l_law_all ?c_law_all ?k_law_all ?a_law_thing ?l_law_thing ?c_law_thing ?k_law_thing ?a_law ?l_law ?c_law ?k_law ?xa_PartRule ?xm_PartRule ?xa_UniteRule ?xm_UniteRule ?xa_SwapRule ?xm_SwapRule ?xa_ClearRule ?xm_ClearRule ?xa_MirrorRule ?xm_MirrorRule ?xa_IntoOneRule ?xm_IntoOneRule ?xa_IntoOtherRule ?xm_IntoOtherRule ?xa_OutOfOneRule ?xm_OutOfOneRule ?xa_OutOfOtherRule ?xm_OutOfOtherRule ?xa_UnderGroupRule ?xm_UnderGroupRule ?xa_KeepOneRule ?xm_KeepOneRule ?xa_KeepOtherRule ?xm_KeepOtherRule ?xa_KeepUpRule ?xm_KeepUpRule ?xa_KeepDownRule ?xm_KeepDownRule ?xa_KeepOnceRule ?xm_KeepOnceRule ?xa_KeepAllRule ?xm_KeepAllRule ?xa_KeepNoneRule ?xm_KeepNoneRule ?xa_TurnRule ?xm_TurnRule ?xa_RegroupOneRule ?xm_RegroupOneRule ?xa_RegroupOtherRule ?xm_RegroupOtherRule ?xa_SortGoneRule ?xm_SortGoneRule ?xa_FirstsRule ?xm_FirstsRule ?xn ?xt ?mo_PartRule ?io_PartRule ?kc_PartRule ?mo_UniteRule ?io_UniteRule ?kc_UniteRule ?mo_SwapRule ?io_SwapRule ?kc_SwapRule ?mo_ClearRule ?io_ClearRule ?kc_ClearRule ?mo_MirrorRule ?io_MirrorRule ?kc_MirrorRule ?mo_IntoOneRule ?io_IntoOneRule ?kc_IntoOneRule ?mo_IntoOtherRule ?io_IntoOtherRule ?kc_IntoOtherRule ?mo_OutOfOneRule ?io_OutOfOneRule ?kc_OutOfOneRule ?mo_OutOfOtherRule ?io_OutOfOtherRule ?kc_OutOfOtherRule ?mo_UnderGroupRule ?io_UnderGroupRule ?kc_UnderGroupRule ?mo_KeepOneRule ?io_KeepOneRule ?kc_KeepOneRule ?mo_KeepOtherRule ?io_KeepOtherRule ?kc_KeepOtherRule ?mo_KeepUpRule ?io_KeepUpRule ?kc_KeepUpRule ?mo_KeepDownRule ?io_KeepDownRule ?kc_KeepDownRule ?mo_KeepOnceRule ?io_KeepOnceRule ?kc_KeepOnceRule ?mo_KeepAllRule ?io_KeepAllRule ?kc_KeepAllRule ?mo_KeepNoneRule ?io_KeepNoneRule ?kc_KeepNoneRule ?mo_TurnRule ?io_TurnRule ?kc_TurnRule ?mo_RegroupOneRule ?io_RegroupOneRule ?kc_RegroupOneRule ?mo_RegroupOtherRule ?io_RegroupOtherRule ?kc_RegroupOtherRule ?mo_SortGoneRule ?io_SortGoneRule ?kc_SortGoneRule ?mo_FirstsRule ?io_FirstsRule ?kc_FirstsRule ?cb_Rule ?tb_Rule ?sub_PartRule_Rule ?sub_UniteRule_Rule ?sub_SwapRule_Rule ?sub_ClearRule_Rule ?sub_MirrorRule_Rule ?sub_IntoOneRule_Rule ?sub_IntoOtherRule_Rule ?sub_OutOfOneRule_Rule ?sub_OutOfOtherRule_Rule ?sub_UnderGroupRule_Rule ?sub_KeepOneRule_Rule ?sub_KeepOtherRule_Rule ?sub_KeepUpRule_Rule ?sub_KeepDownRule_Rule ?sub_KeepOnceRule_Rule ?sub_KeepAllRule_Rule ?sub_KeepNoneRule_Rule ?sub_TurnRule_Rule ?sub_RegroupOneRule_Rule ?sub_RegroupOtherRule_Rule ?sub_SortGoneRule_Rule ?sub_FirstsRule_Rule ?z_isinstance ?z_len ?z_list ?z_max ?z_min ?z_range ?z_str
    (case a_Rule => k_is)
    (case pg_Rule => k_is)
    (case hd_Rule => k_is)
    (case po_Rule => k_is)
    (case sa_Rule => k_is)
    (case a_PartRule => k_is)
    (case pg_PartRule => k_is)
    (case hd_PartRule => k_is)
    (case po_PartRule => k_is)
    (case sa_PartRule => k_is)
    (case a_UniteRule => k_is)
    (case pg_UniteRule => k_is)
    (case hd_UniteRule => k_is)
    (case po_UniteRule => k_is)
    (case sa_UniteRule => k_is)
    (case a_SwapRule => k_is)
    (case pg_SwapRule => k_is)
    (case hd_SwapRule => k_is)
    (case po_SwapRule => k_is)
    (case sa_SwapRule => k_is)
    (case a_ClearRule => k_is)
    (case pg_ClearRule => k_is)
    (case hd_ClearRule => k_is)
    (case po_ClearRule => k_is)
    (case sa_ClearRule => k_is)
    (case a_MirrorRule => k_is)
    (case pg_MirrorRule => k_is)
    (case hd_MirrorRule => k_is)
    (case po_MirrorRule => k_is)
    (case sa_MirrorRule => k_is)
    (case a_IntoOneRule => k_is)
    (case pg_IntoOneRule => k_is)
    (case hd_IntoOneRule => k_is)
    (case po_IntoOneRule => k_is)
    (case sa_IntoOneRule => k_is)
    (case a_IntoOtherRule => k_is)
    (case pg_IntoOtherRule => k_is)
    (case hd_IntoOtherRule => k_is)
    (case po_IntoOtherRule => k_is)
    (case sa_IntoOtherRule => k_is)
    (case a_OutOfOneRule => k_is)
    (case pg_OutOfOneRule => k_is)
    (case hd_OutOfOneRule => k_is)
    (case po_OutOfOneRule => k_is)
    (case sa_OutOfOneRule => k_is)
    (case a_OutOfOtherRule => k_is)
    (case pg_OutOfOtherRule => k_is)
    (case hd_OutOfOtherRule => k_is)
    (case po_OutOfOtherRule => k_is)
    (case sa_OutOfOtherRule => k_is)
    (case a_UnderGroupRule => k_is)
    (case pg_UnderGroupRule => k_is)
    (case hd_UnderGroupRule => k_is)
    (case po_UnderGroupRule => k_is)
    (case sa_UnderGroupRule => k_is)
    (case a_KeepOneRule => k_is)
    (case pg_KeepOneRule => k_is)
    (case hd_KeepOneRule => k_is)
    (case po_KeepOneRule => k_is)
    (case sa_KeepOneRule => k_is)
    (case a_KeepOtherRule => k_is)
    (case pg_KeepOtherRule => k_is)
    (case hd_KeepOtherRule => k_is)
    (case po_KeepOtherRule => k_is)
    (case sa_KeepOtherRule => k_is)
    (case a_KeepUpRule => k_is)
    (case pg_KeepUpRule => k_is)
    (case hd_KeepUpRule => k_is)
    (case po_KeepUpRule => k_is)
    (case sa_KeepUpRule => k_is)
    (case a_KeepDownRule => k_is)
    (case pg_KeepDownRule => k_is)
    (case hd_KeepDownRule => k_is)
    (case po_KeepDownRule => k_is)
    (case sa_KeepDownRule => k_is)
    (case a_KeepOnceRule => k_is)
    (case pg_KeepOnceRule => k_is)
    (case hd_KeepOnceRule => k_is)
    (case po_KeepOnceRule => k_is)
    (case sa_KeepOnceRule => k_is)
    (case a_KeepAllRule => k_is)
    (case pg_KeepAllRule => k_is)
    (case hd_KeepAllRule => k_is)
    (case po_KeepAllRule => k_is)
    (case sa_KeepAllRule => k_is)
    (case a_KeepNoneRule => k_is)
    (case pg_KeepNoneRule => k_is)
    (case hd_KeepNoneRule => k_is)
    (case po_KeepNoneRule => k_is)
    (case sa_KeepNoneRule => k_is)
    (case a_TurnRule => k_is)
    (case pg_TurnRule => k_is)
    (case hd_TurnRule => k_is)
    (case po_TurnRule => k_is)
    (case sa_TurnRule => k_is)
    (case a_RegroupOneRule => k_is)
    (case pg_RegroupOneRule => k_is)
    (case hd_RegroupOneRule => k_is)
    (case po_RegroupOneRule => k_is)
    (case sa_RegroupOneRule => k_is)
    (case a_RegroupOtherRule => k_is)
    (case pg_RegroupOtherRule => k_is)
    (case hd_RegroupOtherRule => k_is)
    (case po_RegroupOtherRule => k_is)
    (case sa_RegroupOtherRule => k_is)
    (case a_SortGoneRule => k_is)
    (case pg_SortGoneRule => k_is)
    (case hd_SortGoneRule => k_is)
    (case po_SortGoneRule => k_is)
    (case sa_SortGoneRule => k_is)
    (case a_FirstsRule => k_is)
    (case pg_FirstsRule => k_is)
    (case hd_FirstsRule => k_is)
    (case po_FirstsRule => k_is)
    (case sa_FirstsRule => k_is)
    (case a_PartRule_rule_word => k_is)
    (case i_PartRule_rule_word => k_is)
    (case l_PartRule_rule_word => k_is)
    (case c_PartRule_rule_word => k_is)
    (case k_PartRule_rule_word => k_is)
    (case a_UniteRule_rule_word => k_is)
    (case i_UniteRule_rule_word => k_is)
    (case l_UniteRule_rule_word => k_is)
    (case c_UniteRule_rule_word => k_is)
    (case k_UniteRule_rule_word => k_is)
    (case a_SwapRule_rule_word => k_is)
    (case i_SwapRule_rule_word => k_is)
    (case l_SwapRule_rule_word => k_is)
    (case c_SwapRule_rule_word => k_is)
    (case k_SwapRule_rule_word => k_is)
    (case a_ClearRule_rule_word => k_is)
    (case i_ClearRule_rule_word => k_is)
    (case l_ClearRule_rule_word => k_is)
    (case c_ClearRule_rule_word => k_is)
    (case k_ClearRule_rule_word => k_is)
    (case a_MirrorRule_rule_word => k_is)
    (case i_MirrorRule_rule_word => k_is)
    (case l_MirrorRule_rule_word => k_is)
    (case c_MirrorRule_rule_word => k_is)
    (case k_MirrorRule_rule_word => k_is)
    (case a_IntoOneRule_rule_word => k_is)
    (case i_IntoOneRule_rule_word => k_is)
    (case l_IntoOneRule_rule_word => k_is)
    (case c_IntoOneRule_rule_word => k_is)
    (case k_IntoOneRule_rule_word => k_is)
    (case a_IntoOtherRule_rule_word => k_is)
    (case i_IntoOtherRule_rule_word => k_is)
    (case l_IntoOtherRule_rule_word => k_is)
    (case c_IntoOtherRule_rule_word => k_is)
    (case k_IntoOtherRule_rule_word => k_is)
    (case a_OutOfOneRule_rule_word => k_is)
    (case i_OutOfOneRule_rule_word => k_is)
    (case l_OutOfOneRule_rule_word => k_is)
    (case c_OutOfOneRule_rule_word => k_is)
    (case k_OutOfOneRule_rule_word => k_is)
    (case a_OutOfOtherRule_rule_word => k_is)
    (case i_OutOfOtherRule_rule_word => k_is)
    (case l_OutOfOtherRule_rule_word => k_is)
    (case c_OutOfOtherRule_rule_word => k_is)
    (case k_OutOfOtherRule_rule_word => k_is)
    (case a_UnderGroupRule_rule_word => k_is)
    (case i_UnderGroupRule_rule_word => k_is)
    (case l_UnderGroupRule_rule_word => k_is)
    (case c_UnderGroupRule_rule_word => k_is)
    (case k_UnderGroupRule_rule_word => k_is)
    (case a_KeepOneRule_rule_word => k_is)
    (case i_KeepOneRule_rule_word => k_is)
    (case l_KeepOneRule_rule_word => k_is)
    (case c_KeepOneRule_rule_word => k_is)
    (case k_KeepOneRule_rule_word => k_is)
    (case a_KeepOtherRule_rule_word => k_is)
    (case i_KeepOtherRule_rule_word => k_is)
    (case l_KeepOtherRule_rule_word => k_is)
    (case c_KeepOtherRule_rule_word => k_is)
    (case k_KeepOtherRule_rule_word => k_is)
    (case a_KeepUpRule_rule_word => k_is)
    (case i_KeepUpRule_rule_word => k_is)
    (case l_KeepUpRule_rule_word => k_is)
    (case c_KeepUpRule_rule_word => k_is)
    (case k_KeepUpRule_rule_word => k_is)
    (case a_KeepDownRule_rule_word => k_is)
    (case i_KeepDownRule_rule_word => k_is)
    (case l_KeepDownRule_rule_word => k_is)
    (case c_KeepDownRule_rule_word => k_is)
    (case k_KeepDownRule_rule_word => k_is)
    (case a_KeepOnceRule_rule_word => k_is)
    (case i_KeepOnceRule_rule_word => k_is)
    (case l_KeepOnceRule_rule_word => k_is)
    (case c_KeepOnceRule_rule_word => k_is)
    (case k_KeepOnceRule_rule_word => k_is)
    (case a_KeepAllRule_rule_word => k_is)
    (case i_KeepAllRule_rule_word => k_is)
    (case l_KeepAllRule_rule_word => k_is)
    (case c_KeepAllRule_rule_word => k_is)
    (case k_KeepAllRule_rule_word => k_is)
    (case a_KeepNoneRule_rule_word => k_is)
    (case i_KeepNoneRule_rule_word => k_is)
    (case l_KeepNoneRule_rule_word => k_is)
    (case c_KeepNoneRule_rule_word => k_is)
    (case k_KeepNoneRule_rule_word => k_is)
    (case a_TurnRule_rule_word => k_is)
    (case i_TurnRule_rule_word => k_is)
    (case l_TurnRule_rule_word => k_is)
    (case c_TurnRule_rule_word => k_is)
    (case k_TurnRule_rule_word => k_is)
    (case a_RegroupOneRule_rule_word => k_is)
    (case i_RegroupOneRule_rule_word => k_is)
    (case l_RegroupOneRule_rule_word => k_is)
    (case c_RegroupOneRule_rule_word => k_is)
    (case k_RegroupOneRule_rule_word => k_is)
    (case a_RegroupOtherRule_rule_word => k_is)
    (case i_RegroupOtherRule_rule_word => k_is)
    (case l_RegroupOtherRule_rule_word => k_is)
    (case c_RegroupOtherRule_rule_word => k_is)
    (case k_RegroupOtherRule_rule_word => k_is)
    (case a_SortGoneRule_rule_word => k_is)
    (case i_SortGoneRule_rule_word => k_is)
    (case l_SortGoneRule_rule_word => k_is)
    (case c_SortGoneRule_rule_word => k_is)
    (case k_SortGoneRule_rule_word => k_is)
    (case a_FirstsRule_rule_word => k_is)
    (case i_FirstsRule_rule_word => k_is)
    (case l_FirstsRule_rule_word => k_is)
    (case c_FirstsRule_rule_word => k_is)
    (case k_FirstsRule_rule_word => k_is)
    (case a_all_rules => k_is)
    (case l_all_rules => k_is)
    (case c_all_rules => k_is)
    (case k_all_rules => k_is)
    (case a_rules_told => k_is)
    (case l_rules_told => k_is)
    (case c_rules_told => k_is)
    (case k_rules_told => k_is)
    (case a_rule_by => k_is)
    (case l_rule_by => k_is)
    (case c_rule_by => k_is)
    (case k_rule_by => k_is)
    (case a_law_rich => k_is)
    (case l_law_rich => k_is)
    (case c_law_rich => k_is)
    (case k_law_rich => k_is)
    (case a_law_purse => k_is)
    (case l_law_purse => k_is)
    (case c_law_purse => k_is)
    (case k_law_purse => k_is)
    (case a_law_take => k_is)
    (case l_law_take => k_is)
    (case c_law_take => k_is)
    (case k_law_take => k_is)
    (case a_law_all => k_is)
    (case l_law_all => k_is)
    (case c_law_all => k_is)
    (case k_law_all => k_is)
    (case a_law_thing => k_is)
    (case l_law_thing => k_is)
    (case c_law_thing => k_is)
    (case k_law_thing => k_is)
    (case a_law => k_is)
    (case l_law => k_is)
    (case c_law => k_is)
    (case k_law => k_is)
    (case xa_PartRule => k_is)
    (case xm_PartRule => k_is)
    (case xa_UniteRule => k_is)
    (case xm_UniteRule => k_is)
    (case xa_SwapRule => k_is)
    (case xm_SwapRule => k_is)
    (case xa_ClearRule => k_is)
    (case xm_ClearRule => k_is)
    (case xa_MirrorRule => k_is)
    (case xm_MirrorRule => k_is)
    (case xa_IntoOneRule => k_is)
    (case xm_IntoOneRule => k_is)
    (case xa_IntoOtherRule => k_is)
    (case xm_IntoOtherRule => k_is)
    (case xa_OutOfOneRule => k_is)
    (case xm_OutOfOneRule => k_is)
    (case xa_OutOfOtherRule => k_is)
    (case xm_OutOfOtherRule => k_is)
    (case xa_UnderGroupRule => k_is)
    (case xm_UnderGroupRule => k_is)
    (case xa_KeepOneRule => k_is)
    (case xm_KeepOneRule => k_is)
    (case xa_KeepOtherRule => k_is)
    (case xm_KeepOtherRule => k_is)
    (case xa_KeepUpRule => k_is)
    (case xm_KeepUpRule => k_is)
    (case xa_KeepDownRule => k_is)
    (case xm_KeepDownRule => k_is)
    (case xa_KeepOnceRule => k_is)
    (case xm_KeepOnceRule => k_is)
    (case xa_KeepAllRule => k_is)
    (case xm_KeepAllRule => k_is)
    (case xa_KeepNoneRule => k_is)
    (case xm_KeepNoneRule => k_is)
    (case xa_TurnRule => k_is)
    (case xm_TurnRule => k_is)
    (case xa_RegroupOneRule => k_is)
    (case xm_RegroupOneRule => k_is)
    (case xa_RegroupOtherRule => k_is)
    (case xm_RegroupOtherRule => k_is)
    (case xa_SortGoneRule => k_is)
    (case xm_SortGoneRule => k_is)
    (case xa_FirstsRule => k_is)
    (case xm_FirstsRule => k_is)
    (case xn => k_is)
    (case xt => k_is)
    (case mo_PartRule => k_is)
    (case io_PartRule => k_is)
    (case kc_PartRule => k_is)
    (case mo_UniteRule => k_is)
    (case io_UniteRule => k_is)
    (case kc_UniteRule => k_is)
    (case mo_SwapRule => k_is)
    (case io_SwapRule => k_is)
    (case kc_SwapRule => k_is)
    (case mo_ClearRule => k_is)
    (case io_ClearRule => k_is)
    (case kc_ClearRule => k_is)
    (case mo_MirrorRule => k_is)
    (case io_MirrorRule => k_is)
    (case kc_MirrorRule => k_is)
    (case mo_IntoOneRule => k_is)
    (case io_IntoOneRule => k_is)
    (case kc_IntoOneRule => k_is)
    (case mo_IntoOtherRule => k_is)
    (case io_IntoOtherRule => k_is)
    (case kc_IntoOtherRule => k_is)
    (case mo_OutOfOneRule => k_is)
    (case io_OutOfOneRule => k_is)
    (case kc_OutOfOneRule => k_is)
    (case mo_OutOfOtherRule => k_is)
    (case io_OutOfOtherRule => k_is)
    (case kc_OutOfOtherRule => k_is)
    (case mo_UnderGroupRule => k_is)
    (case io_UnderGroupRule => k_is)
    (case kc_UnderGroupRule => k_is)
    (case mo_KeepOneRule => k_is)
    (case io_KeepOneRule => k_is)
    (case kc_KeepOneRule => k_is)
    (case mo_KeepOtherRule => k_is)
    (case io_KeepOtherRule => k_is)
    (case kc_KeepOtherRule => k_is)
    (case mo_KeepUpRule => k_is)
    (case io_KeepUpRule => k_is)
    (case kc_KeepUpRule => k_is)
    (case mo_KeepDownRule => k_is)
    (case io_KeepDownRule => k_is)
    (case kc_KeepDownRule => k_is)
    (case mo_KeepOnceRule => k_is)
    (case io_KeepOnceRule => k_is)
    (case kc_KeepOnceRule => k_is)
    (case mo_KeepAllRule => k_is)
    (case io_KeepAllRule => k_is)
    (case kc_KeepAllRule => k_is)
    (case mo_KeepNoneRule => k_is)
    (case io_KeepNoneRule => k_is)
    (case kc_KeepNoneRule => k_is)
    (case mo_TurnRule => k_is)
    (case io_TurnRule => k_is)
    (case kc_TurnRule => k_is)
    (case mo_RegroupOneRule => k_is)
    (case io_RegroupOneRule => k_is)
    (case kc_RegroupOneRule => k_is)
    (case mo_RegroupOtherRule => k_is)
    (case io_RegroupOtherRule => k_is)
    (case kc_RegroupOtherRule => k_is)
    (case mo_SortGoneRule => k_is)
    (case io_SortGoneRule => k_is)
    (case kc_SortGoneRule => k_is)
    (case mo_FirstsRule => k_is)
    (case io_FirstsRule => k_is)
    (case kc_FirstsRule => k_is)
    (case cb_Rule => k_is)
    (case tb_Rule => k_is)
    (case sub_PartRule_Rule => k_is)
    (case sub_UniteRule_Rule => k_is)
    (case sub_SwapRule_Rule => k_is)
    (case sub_ClearRule_Rule => k_is)
    (case sub_MirrorRule_Rule => k_is)
    (case sub_IntoOneRule_Rule => k_is)
    (case sub_IntoOtherRule_Rule => k_is)
    (case sub_OutOfOneRule_Rule => k_is)
    (case sub_OutOfOtherRule_Rule => k_is)
    (case sub_UnderGroupRule_Rule => k_is)
    (case sub_KeepOneRule_Rule => k_is)
    (case sub_KeepOtherRule_Rule => k_is)
    (case sub_KeepUpRule_Rule => k_is)
    (case sub_KeepDownRule_Rule => k_is)
    (case sub_KeepOnceRule_Rule => k_is)
    (case sub_KeepAllRule_Rule => k_is)
    (case sub_KeepNoneRule_Rule => k_is)
    (case sub_TurnRule_Rule => k_is)
    (case sub_RegroupOneRule_Rule => k_is)
    (case sub_RegroupOtherRule_Rule => k_is)
    (case sub_SortGoneRule_Rule => k_is)
    (case sub_FirstsRule_Rule => k_is)
    (case z_isinstance => k_is)
    (case z_len => k_is)
    (case z_list => k_is)
    (case z_max => k_is)
    (case z_min => k_is)
    (case z_range => k_is)
    (case z_str => k_is)
