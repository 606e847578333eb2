import PyProof.Rows.All
import Wide.All
import OpenK.AllK
import Wide.FinOn
import HandS.ForMost
import HandS.WideBits
import HandS.RaiseMore
import HandS.IsInst
import HandS.TryOnly
import HandS.Exc
import HandS.Evl
import HandS.TupLe
import PySem.Challenge.RW_planstore_k01_values_told
set_option Elab.async false
set_option linter.all false
set_option maxRecDepth 100000
set_option maxHeartbeats 40000000
/-! ### the state of a def: blocks of objects that are ours, over a frame that stands still -/
namespace Z
open PySem L2
structure Hs (L : List (Addr × HO)) (F H : Hp) : Prop where
  nd : (L.map (·.1)).Nodup
  own : ∀ p o, (p, o) ∈ L → H p = some o ∧ F p = none
  fr : ∀ b o, F b = some o → H b = some o
/-- every cell of the block stands -/
def Sees (b : List (Addr × HO)) (H : Hp) : Prop := ∀ p o, (p, o) ∈ b → H p = some o
theorem Sees.same {b : List (Addr × HO)} {H H' : Hp} (s : Sees b H) (e : Same H H') : Sees b H' := fun p o m => e p o (s p o m)
theorem Sees.at {b : List (Addr × HO)} {H : Hp} (s : Sees b H) (i : Nat) {p : Addr} {o : HO} (h : b[i]? = some (p, o)) : H p = some o := s p o (List.mem_of_getElem? h)
section
variable {L L1 L2 : List (Addr × HO)} {F H H' : Hp} {p : Addr} {o o' : HO}
theorem Hs.same (S : Hs L F H) : Same F H := S.fr
theorem Hs.sees (S : Hs L F H) : Sees L H := fun p o m => (S.own p o m).1
theorem Hs.at (S : Hs L F H) (i : Nat) (h : L[i]? = some (p, o)) : H p = some o := S.sees.at i h
theorem Hs.nil : Hs [] H H := ⟨List.nodup_nil, fun _ _ m => (nomatch m), fun _ _ e => e⟩
theorem Hs.ext (S : Hs L F H) (e : Same H H') : Hs L F H' := ⟨S.nd, fun p o m => ⟨e p o (S.own p o m).1, (S.own p o m).2⟩, fun b o q => e b o (S.fr b o q)⟩
theorem Hs.fresh (S : Hs L F H) (hp : H p = none) : p ∉ L.map (·.1) ∧ F p = none := by
  refine ⟨fun m => ?_, ?_⟩
  · obtain ⟨⟨q, u⟩, m, e⟩ := List.mem_map.mp m
    have h := (S.own q u m).1
    have e' : q = p := e
    rw [e', hp] at h
    cases h
  · cases h : F p with
    | none => rfl
    | some u => rw [S.fr p u h] at hp; cases hp
theorem same_new (hp : H p = none) : Same H (upd H p o) := fun b u e => by rw [upd_ne (ne_of_none e hp)]; exact e
theorem Hs.add (S : Hs L F H) (e : Same H H') (hp : H p = none) (h : H' p = some o) : Hs ((p, o) :: L) F H' := by
  obtain ⟨h1, h2⟩ := S.fresh hp
  refine ⟨List.nodup_cons.mpr ⟨h1, S.nd⟩, fun q u m => ?_, fun b u q => e b u (S.fr b u q)⟩
  rcases List.mem_cons.mp m with m | m
  · cases m
    exact ⟨h, h2⟩
  · exact ⟨e q u (S.own q u m).1, (S.own q u m).2⟩
theorem Hs.new (S : Hs L F H) (hp : H p = none) : Hs ((p, o) :: L) F (upd H p o) := S.add (same_new hp) hp upd_same
theorem Hs.head (S : Hs ((p, o) :: L) F H) (o' : HO) : Hs ((p, o') :: L) F (upd H p o') := by
  have nd := S.nd
  rw [List.map_cons, List.nodup_cons] at nd
  refine ⟨by rw [List.map_cons, List.nodup_cons]; exact nd, fun q u m => ?_, fun b u q => ?_⟩
  · rcases List.mem_cons.mp m with m | m
    · cases m
      exact ⟨upd_same, (S.own p o List.mem_cons_self).2⟩
    · have hne : q ≠ p := fun e => nd.1 (List.mem_map.mpr ⟨(q, u), m, e⟩)
      have h := S.own q u (List.mem_cons_of_mem _ m)
      exact ⟨by rw [upd_ne hne]; exact h.1, h.2⟩
  · have hne : b ≠ p := fun e => by
      have := (S.own p o List.mem_cons_self).2
      rw [e, this] at q
      cases q
    rw [upd_ne hne]
    exact S.fr b u q
theorem Hs.perm (S : Hs L F H) (e : L.Perm L1) : Hs L1 F H := ⟨(e.map _).nodup_iff.mp S.nd, fun p o m => S.own p o (e.mem_iff.mpr m), S.fr⟩
theorem set_perm : ∀ {L : List (Addr × HO)} {i : Nat} {x : Addr × HO}, L[i]? = some x → ∀ y, (L.set i y).Perm (y :: L.eraseIdx i)
  | [], i, x, h, y => by simp at h
  | a :: r, 0, x, h, y => List.Perm.refl _
  | a :: r, i + 1, x, h, y => by
    have ih := set_perm (L := r) (i := i) (x := x) (by simpa using h) y
    exact (List.Perm.cons a ih).trans (List.Perm.swap _ _ _)
theorem self_perm {L : List (Addr × HO)} {i : Nat} {x : Addr × HO} (h : L[i]? = some x) : L.Perm (x :: L.eraseIdx i) := by
  have e := set_perm h x
  have : L.set i x = L := by
    obtain ⟨h1, h2⟩ := List.getElem?_eq_some_iff.mp h
    rw [← h2]
    exact List.set_getElem_self h1
  rw [this] at e
  exact e
theorem Hs.set (S : Hs L F H) (i : Nat) (h : L[i]? = some (p, o)) (o' : HO) : Hs (L.set i (p, o')) F (upd H p o') :=
  ((S.perm (self_perm h)).head o').perm (set_perm h (p, o')).symm
theorem Hs.sub (S : Hs L F H) (e : L1.Sublist L) : Hs L1 F H := ⟨(e.map _).nodup S.nd, fun p o m => S.own p o (e.subset m), S.fr⟩
/-- some cells, by their places, in any order -/
theorem Hs.pick (S : Hs L F H) : ∀ (is : List Nat) {L' : List (Addr × HO)}, is.Nodup → is.map (fun i => L[i]?) = L'.map some → Hs L' F H
  | is, L', hn, h => by
    have mem : ∀ x ∈ L', ∃ i ∈ is, L[i]? = some x := fun x hx => by
      have : some x ∈ is.map (fun i => L[i]?) := by rw [h]; exact List.mem_map.mpr ⟨x, hx, rfl⟩
      obtain ⟨i, hi, e⟩ := List.mem_map.mp this
      exact ⟨i, hi, e⟩
    refine ⟨?_, fun p o m => ?_, S.fr⟩
    · clear mem
      induction is generalizing L' with
      | nil =>
        cases L' with
        | nil => exact List.nodup_nil
        | cons a r => cases h
      | cons i is ih =>
        cases L' with
        | nil => cases h
        | cons a r =>
          rw [List.map_cons, List.map_cons, List.cons.injEq] at h
          obtain ⟨h1, h2⟩ := h
          rw [List.nodup_cons] at hn
          rw [List.map_cons, List.nodup_cons]
          refine ⟨fun m => ?_, ih r hn.2 h2⟩
          obtain ⟨b, hb, e⟩ := List.mem_map.mp m
          have : some b ∈ is.map (fun i => L[i]?) := by rw [h2]; exact List.mem_map.mpr ⟨b, hb, rfl⟩
          obtain ⟨j, hj, e2⟩ := List.mem_map.mp this
          have f1 : (L.map (·.1))[i]? = some a.1 := by rw [List.getElem?_map, h1]; rfl
          have f2 : (L.map (·.1))[j]? = some b.1 := by rw [List.getElem?_map]; show Option.map _ (L[j]?) = _; rw [e2]; rfl
          rw [e] at f2
          have : i = j := nd_ix S.nd f1 f2
          rw [this] at hn
          exact hn.1 hj
    · obtain ⟨i, _, e⟩ := mem _ m
      exact S.own p o (List.mem_of_getElem? e)
/-- what stands beside L1 goes into the frame, and comes back behind -/
theorem Hs.split (S : Hs (L1 ++ L2) F H) : ∃ F', Hs L1 F' H ∧ (Same F F' ∧ Sees L2 F') ∧ ∀ L' H', Hs L' F' H' → Hs (L' ++ L2) F H' := by
  have nd := S.nd
  rw [List.map_append, List.nodup_append] at nd
  obtain ⟨n1, n2, n3⟩ := nd
  have key : ∀ p o, (p, o) ∈ L2 → List.lookup p L2 = some o := by
    clear S n3
    induction L2 with
    | nil => intro p o m; cases m
    | cons a r ih =>
      intro p o m
      rw [List.map_cons, List.nodup_cons] at n2
      obtain ⟨q, u⟩ := a
      rcases List.mem_cons.mp m with m | m
      · cases m
        simp [List.lookup]
      · have hne : p ≠ q := fun e => n2.1 (List.mem_map.mpr ⟨(p, o), m, e⟩)
        have hb : (p == q) = false := by simpa using hne
        simp only [List.lookup, hb]
        exact ih n2.2 p o m
  have back : ∀ p o, List.lookup p L2 = some o → (p, o) ∈ L2 := by
    clear S n3 n2 key
    induction L2 with
    | nil => intro p o m; cases m
    | cons a r ih =>
      intro p o m
      obtain ⟨q, u⟩ := a
      by_cases e : p = q
      · subst e
        simp [List.lookup] at m
        subst m
        exact List.mem_cons_self
      · have hb : (p == q) = false := by simpa using e
        simp only [List.lookup, hb] at m
        exact List.mem_cons_of_mem _ (ih p o m)
  refine ⟨fun b => (List.lookup b L2).or (F b), ⟨n1, fun p o m => ⟨(S.own p o (List.mem_append_left _ m)).1, ?_⟩, fun b o q => ?_⟩, ⟨fun b o q => ?_, fun p o m => by simp [key p o m]⟩, fun L' H' S' => ⟨?_, fun p o m => ?_, fun b o q => ?_⟩⟩
  · cases h : List.lookup p L2 with
    | none => exact (S.own p o (List.mem_append_left _ m)).2
    | some u => exact absurd rfl (n3 p (List.mem_map.mpr ⟨_, m, rfl⟩) p (List.mem_map.mpr ⟨_, back p u h, rfl⟩))
  · cases h : List.lookup b L2 with
    | none =>
      have q' : F b = some o := by simpa [h] using q
      exact S.fr b o q'
    | some u =>
      have q' : u = o := by simpa [h] using q
      subst q'
      exact (S.own b u (List.mem_append_right _ (back b u h))).1
  · show (List.lookup b L2).or (F b) = some o
    cases h : List.lookup b L2 with
    | none => exact q
    | some u => rw [(S.own b u (List.mem_append_right _ (back b u h))).2] at q; cases q
  · rw [List.map_append, List.nodup_append]
    refine ⟨S'.nd, n2, fun a ha b hb e => ?_⟩
    subst e
    obtain ⟨⟨q, u⟩, m, rfl⟩ := List.mem_map.mp ha
    obtain ⟨⟨q', u'⟩, m', e⟩ := List.mem_map.mp hb
    have e' : q' = q := e
    subst e'
    have h := (S'.own _ u m).2
    simp [key _ u' m'] at h
  · rcases List.mem_append.mp m with m | m
    · obtain ⟨h1, h2⟩ := S'.own p o m
      refine ⟨h1, ?_⟩
      cases h : List.lookup p L2 with
      | none => simpa [h] using h2
      | some u => simp [h] at h2
    · exact ⟨S'.fr p o (by simp [key p o m]), (S.own p o (List.mem_append_right _ m)).2⟩
  · refine S'.fr b o ?_
    show (List.lookup b L2).or (F b) = some o
    cases h : List.lookup b L2 with
    | none => exact q
    | some u => rw [(S.own b u (List.mem_append_right _ (back b u h))).2] at q; cases q
theorem flat_perm : ∀ {Ls : List (List (Addr × HO))} {i : Nat} {b : List (Addr × HO)}, Ls[i]? = some b → ∀ c, (Ls.set i c).flatten.Perm (c ++ (Ls.eraseIdx i).flatten)
  | [], i, b, h, c => by simp at h
  | a :: r, 0, b, h, c => List.Perm.refl _
  | a :: r, i + 1, b, h, c => by
    have ih := flat_perm (Ls := r) (i := i) (b := b) (by simpa using h) c
    show (a ++ (r.set i c).flatten).Perm (c ++ (a ++ (r.eraseIdx i).flatten))
    refine (List.Perm.append_left a ih).trans ?_
    rw [← List.append_assoc, ← List.append_assoc]
    exact List.Perm.append_right _ List.perm_append_comm
theorem set_self {α : Type} {Ls : List α} {i : Nat} {b : α} (h : Ls[i]? = some b) : Ls.set i b = Ls := by
  obtain ⟨h1, h2⟩ := List.getElem?_eq_some_iff.mp h
  rw [← h2]
  exact List.set_getElem_self h1
/-- the i-th block taken out, changed, put back -/
theorem Hs.block {Ls : List (List (Addr × HO))} (S : Hs Ls.flatten F H) (i : Nat) {b : List (Addr × HO)} (h : Ls[i]? = some b) :
    ∃ F', Hs b F' H ∧ (Same F F' ∧ Sees (Ls.eraseIdx i).flatten F') ∧ ∀ c H', Hs c F' H' → Hs (Ls.set i c).flatten F H' := by
  have p := flat_perm h b
  rw [set_self h] at p
  obtain ⟨F', S', sm, k⟩ := (S.perm p).split
  exact ⟨F', S', sm, fun c H' q => (k c H' q).perm (flat_perm h c).symm⟩
/-- another block in the stead of the i-th -/
theorem Hs.swap {Ls : List (List (Addr × HO))} {c : List (Addr × HO)} (S : Hs (c ++ Ls.flatten) F H) (i : Nat) {b : List (Addr × HO)} (h : Ls[i]? = some b) : Hs (Ls.set i c).flatten F H := by
  have p := flat_perm h b
  rw [set_self h] at p
  have S1 : Hs (c ++ (b ++ (Ls.eraseIdx i).flatten)) F H := S.perm (List.Perm.append_left c p)
  exact (S1.sub (List.Sublist.append_left (List.sublist_append_right _ _) c)).perm (flat_perm h c).symm
theorem Hs.join {new : List (Addr × HO)} (N : Hs new H H') (S : Hs L F H) : Hs (new ++ L) F H' := by
  refine ⟨?_, fun p o m => ?_, fun b o q => N.fr b o (S.fr b o q)⟩
  · rw [List.map_append, List.nodup_append]
    refine ⟨N.nd, S.nd, fun a ha b hb e => ?_⟩
    subst e
    obtain ⟨⟨q, u⟩, m, rfl⟩ := List.mem_map.mp ha
    obtain ⟨⟨q', u'⟩, m', e⟩ := List.mem_map.mp hb
    have e' : q' = q := e
    subst e'
    have h1 := (N.own _ u m).2
    rw [(S.own _ u' m').1] at h1
    cases h1
  · rcases List.mem_append.mp m with m | m
    · obtain ⟨h1, h2⟩ := N.own p o m
      refine ⟨h1, ?_⟩
      cases h : F p with
      | none => rfl
      | some u => rw [S.fr p u h] at h2; cases h2
    · obtain ⟨h1, h2⟩ := S.own p o m
      exact ⟨N.fr p o h1, h2⟩
theorem Hs.base {F0 : Hp} (S : Hs L F H) (e : Same F0 F) : Hs L F0 H := ⟨S.nd, fun p o m => ⟨(S.own p o m).1, e.free (S.own p o m).2⟩, fun b o q => S.fr b o (e b o q)⟩
/-- all else into the frame -/
theorem Hs.all (S : Hs L F H) : ∃ F', Hs L F' H ∧ (∀ b o, b ∉ L.map (·.1) → H b = some o → F' b = some o) ∧ Same F F' := by
  refine ⟨fun b => if b ∈ L.map (·.1) then none else H b, ⟨S.nd, fun p o m => ⟨(S.own p o m).1, if_pos (List.mem_map.mpr ⟨_, m, rfl⟩)⟩, fun b o q => ?_⟩, fun b o h q => (if_neg h).trans q, fun b o q => ?_⟩
  · by_cases h : b ∈ L.map (·.1)
    · rw [if_pos h] at q; cases q
    · rwa [if_neg h] at q
  · have h : b ∉ L.map (·.1) := fun h => by
      obtain ⟨⟨p, u⟩, m, e⟩ := List.mem_map.mp h
      have e' : p = b := e
      rw [← e', (S.own p u m).2] at q
      cases q
    exact (if_neg h).trans (S.fr b o q)
theorem Hs.blk {Ls : List (List (Addr × HO))} (S : Hs Ls.flatten F H) (i : Nat) {b : List (Addr × HO)} (h : Ls[i]? = some b) : Sees b H := fun p o m =>
  (S.own p o (List.mem_flatten.mpr ⟨b, List.mem_of_getElem? h, m⟩)).1
end
end Z
/-! ### readings, one word a construct -/
namespace Z
open PySem L2
/-- one of several readings, chosen where it is asked -/
def tEx {ι : Type} (p : ι → Prop) (t : ι → TE) : TE := fun σ H Q => ∃ i, p i ∧ t i σ H Q
/-- C(), no __init__ but object's -/
def tMakeO (C : Addr) : TE := fun _ H Q => ∀ a dx, H a = none → H dx = none → dx ≠ a → Q (.ref a) (upd (upd H dx (.own a)) a (.ins C dx []))
/-- a slice's part that may be None -/
def tPartN (t : TE) : TO := fun σ H Q => t σ H fun x H1 => (x = .non ∧ Q none H1) ∨ ∃ i, x = .int i ∧ Q (some i) H1
section
variable {σ : L2.St} {H : Hp} {Q : VK} {QB : Bool → Hp → Prop} {D : Ends} {t1 t2 ts tu : TS} {te ta tb tv tx : TE} {tt t u : TT} {v x y : V} {i : Nat} {K : PySem.W.Frag} {R : List V → Hp → Prop} {tA tr : TA}
theorem seq (h : t1 { D with nx := t2 D } σ H) : tSeq t1 t2 D σ H := h
theorem next (h : D.nx σ H) : tNext D σ H := h
theorem var (h : σ[i]? = some (some v)) (k : Q v H) : tVar i σ H Q := ⟨v, h, k⟩
theorem con (k : Q v H) : tC v σ H Q := k
theorem asg (h : te σ H fun x H1 => D.nx (σ.set i (some x)) H1) : tAsg te (gName i) D σ H := h
theorem drop (h : te σ H fun _ H1 => D.nx σ H1) : tDrop te D σ H := h
theorem ret (h : te σ H D.rt) : tRet te D σ H := h
theorem retN (h : D.rt .non H) : tRetN D σ H := h
theorem ifS (h : tt σ H fun b H1 => if b = true then t1 D σ H1 else t2 D σ H1) : tIfS tt t1 t2 D σ H := h
theorem op {r : R2} (h : ta σ H fun x H1 => tb σ H1 fun y H2 => r x y H2 Q) : tOp r ta tb σ H Q := h
theorem un {r : V → Hp → VK → Prop} (h : ta σ H fun x H1 => r x H1 Q) : tUn r ta σ H Q := h
theorem i0 {g : Int → Int → V} {a b : Int} (k : Q (g a b) H) : rI0 g (.int a) (.int b) H Q := ⟨a, b, rfl, rfl, k⟩
theorem ic {C : Int → Int → Prop} {g : Int → Int → V} {a b : Int} (c : C a b) (k : Q (g a b) H) : rI C g (.int a) (.int b) H Q := ⟨a, b, rfl, rfl, c, k⟩
theorem eqS (h : scal x y = true) (k : Q (.bl (decide (x = y))) H) : rEq x y H Q := ⟨h, k⟩
theorem neS (h : scal x y = true) (k : Q (.bl (!decide (x = y))) H) : rNe x y H Q := ⟨h, k⟩
theorem test {b : Bool} (h : te σ H fun x H' => ∃ k, x = .bl k ∧ QB k H') : tTest te σ H QB := h
theorem tstB {b : Bool} (k : QB b H) : ∃ k, (V.bl b) = .bl k ∧ QB k H := ⟨b, rfl, k⟩
theorem bB (h : te σ H fun x H1 => ∃ c, x = .bl c ∧ QB c H1) : tB te σ H QB := h
theorem andT (h : t σ H fun c H1 => if c = true then u σ H1 QB else QB false H1) : tAnd t u σ H QB := h
theorem orT (h : t σ H fun c H1 => if c = true then QB true H1 else u σ H1 QB) : tOr t u σ H QB := h
theorem notT (h : t σ H fun c H1 => QB (!c) H1) : tNot t σ H QB := h
theorem andV (h : ta σ H fun x H1 => ∃ c, x = .bl c ∧ if c = true then tb σ H1 Q else Q (.bl false) H1) : tAndV ta tb σ H Q := h
theorem orV (h : ta σ H fun x H1 => ∃ c, x = .bl c ∧ if c = true then Q (.bl true) H1 else tb σ H1 Q) : tOrV ta tb σ H Q := h
theorem notV (h : ta σ H fun x H1 => ∃ c, x = .bl c ∧ Q (.bl (!c)) H1) : tNotV ta σ H Q := h
theorem ifE (h : tt σ H fun c H1 => if c = true then ta σ H1 Q else tb σ H1 Q) : tIf tt ta tb σ H Q := h
theorem blE {b : Bool} {P : Bool → Prop} (k : P b) : ∃ c, (V.bl b) = .bl c ∧ P c := ⟨b, rfl, k⟩
theorem nil (k : R [] H) : tNil σ H R := k
theorem cons (h : ta σ H fun x H1 => tr σ H1 fun xs H2 => R (x :: xs) H2) : tCons ta tr σ H R := h
theorem fld {f : Str} (h : ta σ H fun x H1 => ∃ a C dx fs v, x = .ref a ∧ H1 a = some (.ins C dx fs) ∧ Cls K C ∧ NoAttr K C f ∧ fs.lookup f = some v ∧ Q v H1) : tFld K ta f σ H Q := h
theorem fldE {a C dx : Addr} {fs : List (Str × V)} {f : Str} {R : V → Prop} (ho : H a = some (.ins C dx fs)) (c : Cls K C) (n : NoAttr K C f) (l : fs.lookup f = some v) (k : R v) :
    ∃ a' C dx fs v, (V.ref a) = .ref a' ∧ H a' = some (.ins C dx fs) ∧ Cls K C ∧ NoAttr K C f ∧ fs.lookup f = some v ∧ R v := ⟨a, C, dx, fs, v, rfl, ho, c, n, l, k⟩
theorem sfld {f : Str} (h : tv σ H fun y H1 => ta σ H1 fun x H2 => ∃ a C dx fs, x = .ref a ∧ H2 a = some (.ins C dx fs) ∧ Cls K C ∧ NoAttr K C f ∧ fs.length < 1000 ∧ D.nx σ (upd H2 a (.ins C dx (putF f y fs)))) : sFld K ta tv f D σ H := h
theorem sfldE {a C dx : Addr} {fs : List (Str × V)} {f : Str} {R : Addr → Addr → Addr → List (Str × V) → Prop} (ho : H a = some (.ins C dx fs)) (c : Cls K C) (n : NoAttr K C f) (l : fs.length < 1000) (k : R a C dx fs) :
    ∃ a' C dx fs, (V.ref a) = .ref a' ∧ H a' = some (.ins C dx fs) ∧ Cls K C ∧ NoAttr K C f ∧ fs.length < 1000 ∧ R a' C dx fs := ⟨a, C, dx, fs, rfl, ho, c, n, l, k⟩
theorem aug {f : Str} {rd : V → V → Hp → VK → Prop} (h : ta σ H fun x H1 => ∃ a C dx fs v, x = .ref a ∧ H1 a = some (.ins C dx fs) ∧ Cls K C ∧ NoAttr K C f ∧ fs.lookup f = some v ∧
    tv σ H1 fun y H2 => rd v y H2 fun z H3 => ∃ dx' fs', H3 a = some (.ins C dx' fs') ∧ fs'.length < 1000 ∧ D.nx σ (upd H3 a (.ins C dx' (putF f z fs')))) : sFldAug K ta tv rd f D σ H := h
theorem augE {a C dx : Addr} {fs : List (Str × V)} {R : Addr → List (Str × V) → Prop} (ho : H a = some (.ins C dx fs)) (l : fs.length < 1000) (k : R dx fs) :
    ∃ dx fs, H a = some (.ins C dx fs) ∧ fs.length < 1000 ∧ R dx fs := ⟨dx, fs, ho, l, k⟩
theorem augV {a C dx : Addr} {fs : List (Str × V)} {f : Str} {R : Addr → Addr → V → Prop} (ho : H a = some (.ins C dx fs)) (c : Cls K C) (n : NoAttr K C f) (l : fs.lookup f = some v) (k : R a C v) :
    ∃ a' C dx fs v, (V.ref a) = .ref a' ∧ H a' = some (.ins C dx fs) ∧ Cls K C ∧ NoAttr K C f ∧ fs.lookup f = some v ∧ R a' C v := ⟨a, C, dx, fs, v, rfl, ho, c, n, l, k⟩
theorem rAddE {a b : Int} {R : V → Hp → Prop} (k : R (.int (a + b)) H) : rAdd (.int a) (.int b) H R := ⟨a, b, rfl, rfl, k⟩
theorem isN {P : Prop} (k : P) : (V.non = .non) ∧ P := ⟨rfl, k⟩
theorem lstE {vs : List V} (hz : vs.length ≤ 1000) (k : ∀ p, H p = none → Q (.ref p) (upd H p (.lst vs))) : vs.length ≤ sizeLine ∧ ∀ p, H p = none → Q (.ref p) (upd H p (.lst vs)) := ⟨Nat.le_trans hz (by decide), k⟩
theorem lst (h : tA σ H fun xs H1 => xs.length ≤ sizeLine ∧ ∀ p, H1 p = none → Q (.ref p) (upd H1 p (.lst xs))) : tLst tA σ H Q := h
theorem tup (h : tA σ H fun xs H1 => xs.length ≤ sizeLine ∧ ∀ p, H1 p = none → Q (.ref p) (upd H1 p (.tup xs))) : tTup tA σ H Q := h
theorem call {sp : Sp} {E : XK} (h : tA σ H fun vs H1 => sp (vs ++ []) H1 Q E) : tCall sp [] E tA σ H Q := h
theorem iteD {p A B : Prop} [Decidable p] (h1 : p → A) (h2 : ¬ p → B) : if decide p = true then A else B := by
  by_cases h : p
  · rw [if_pos (decide_eq_true h)]; exact h1 h
  · rw [if_neg (by rw [decide_eq_false h]; exact Bool.false_ne_true)]; exact h2 h
theorem iteN {p A B : Prop} [Decidable p] (h1 : ¬ p → A) (h2 : p → B) : if (!decide p) = true then A else B := by
  by_cases h : p
  · rw [if_neg (by rw [decide_eq_true h]; exact Bool.false_ne_true)]; exact h2 h
  · rw [if_pos (by rw [decide_eq_false h]; rfl)]; exact h1 h
theorem iteSelf {α : Type} {a : α} {A B : Prop} [Decidable (a = a)] (k : A) : if decide (a = a) = true then A else B := by rw [if_pos (decide_eq_true rfl)]; exact k
theorem iteNSelf {α : Type} {a : α} {A B : Prop} [Decidable (a = a)] (k : B) : if (!decide (a = a)) = true then A else B := by rw [if_neg (by rw [decide_eq_true rfl]; exact Bool.false_ne_true)]; exact k
theorem setLE {p : Addr} {xs : List V} {i : Nat} {v : V} {R : Hp → Prop} (ho : H p = some (.lst xs)) (hi : i < xs.length) (k : R (upd H p (.lst (xs.set i v)))) : rSetL (.ref p) (.int i) v H R :=
  ⟨p, xs, i, i, rfl, rfl, ho, by unfold ixN; rw [if_pos (by omega), if_pos (by omega)]; simp, k⟩
theorem m0 {r : V → List V → Hp → VK → Prop} (h : ta σ H fun x H1 => (∃ a, x = .str a) ∧ r x [] H1 Q) : tM0 r ta σ H Q := h
theorem m1 {r : V → List V → Hp → VK → Prop} (h : ta σ H fun x H1 => (∃ a, x = .str a) ∧ te σ H1 fun y H2 => r x [y] H2 Q) : tM1 r ta te σ H Q := h
theorem lenSeq {p : Addr} {xs : List V} {R : List V → Prop} (h : SqL K H p xs) (k : R xs) : ∃ q ys, [V.ref p] = [.ref q] ∧ (SqL K H q ys ∨ SqT K H q ys) ∧ R ys := ⟨p, xs, rfl, .inl h, k⟩
theorem ixAll {p : Addr} {xs : List V} {z : Int} {G : V → Prop} (h : SqL K H p xs) (h0 : 0 ≤ z) (h1 : z < xs.length) (hp : ∀ x ∈ xs, G x) (k : ∀ v, G v → xs[z.toNat]? = some v → Q v H) : rIxL K (.ref p) (.int z) H Q := by
  have hz : z.toNat < xs.length := by omega
  have e : xs[z.toNat]? = some xs[z.toNat] := List.getElem?_eq_getElem hz
  refine ⟨p, xs, z, xs[z.toNat], rfl, rfl, h, ?_, k _ (hp _ (List.getElem_mem hz)) e⟩
  have e2 := atI_nat e
  have e3 : ((z.toNat : Nat) : Int) = z := by omega
  rwa [e3] at e2
theorem ixL {p : Addr} {xs : List V} {i : Nat} {v : V} (h : SqL K H p xs) (e : xs[i]? = some v) (k : Q v H) : rIxL K (.ref p) (.int i) H Q := ⟨p, xs, i, v, rfl, rfl, h, atI_nat e, k⟩
theorem iteTd {b : Bool} {A B : Prop} (h : b = true) (k : A) : if b = true then A else B := by rw [if_pos h]; exact k
theorem iteFd {b : Bool} {A B : Prop} (h : b = false) (k : B) : if b = true then A else B := by rw [if_neg (by rw [h]; exact Bool.false_ne_true)]; exact k
theorem gcons {t : TG} {u : TGs} {v : V} {r : List V} {R : L2.St → Hp → Prop} (h : t v σ H fun σ' H' => u r σ' H' R) : gCons t u (v :: r) σ H R := ⟨v, r, rfl, h⟩
theorem gnil {R : L2.St → Hp → Prop} (k : R σ H) : gNil [] σ H R := ⟨rfl, k⟩
theorem gname {v : V} {R : L2.St → Hp → Prop} (k : R (σ.set i (some v)) H) : gName i v σ H R := k
theorem partN {R : Option Int → Hp → Prop} (h : te σ H fun x H1 => (x = .non ∧ R none H1) ∨ ∃ i, x = .int i ∧ R (some i) H1) : tPartN te σ H R := h
theorem forR1 {g : TG} (h : tA σ H fun vs H1 => ∃ j : Int, vs = [.int j] ∧ -(2 ^ 62) ≤ j ∧ j < 2 ^ 62 ∧ ∃ W : Nat → Nat → L2.St → Hp → Prop, (∃ m, W 0 m σ H1) ∧ ∀ i m σ H, W i m σ H →
      ((Itr 0 j.toNat).stop i H ∧ D.nx σ H) ∨ ((Itr 0 j.toNat).go i H ∧ ∃ N : L2.St → Hp → Prop, (∀ σ' H', N σ' H' → ∃ m', m' < m ∧ W (i + 1) m' σ' H') ∧ ∀ x H', (Itr 0 j.toNat).yld i H x H' → g x σ H' fun σ2 H2 => ts { D with nx := N, ct := N, bk := D.nx } σ2 H2)) :
    tFor (iRng1 tA) g ts D σ H := h
theorem forL {tl : TE} {g : TG} (h : tl σ H fun x H1 => ∃ a, x = .ref a ∧ (∃ xs, SqL K H1 a xs) ∧ ∃ W : Nat → Nat → L2.St → Hp → Prop, (∃ m, W 0 m σ H1) ∧ ∀ i m σ H, W i m σ H →
      ((Itl K a).stop i H ∧ D.nx σ H) ∨ ((Itl K a).go i H ∧ ∃ N : L2.St → Hp → Prop, (∀ σ' H', N σ' H' → ∃ m', m' < m ∧ W (i + 1) m' σ' H') ∧ ∀ x H', (Itl K a).yld i H x H' → g x σ H' fun σ2 H2 => ts { D with nx := N, ct := N, bk := D.nx } σ2 H2)) :
    tFor (iList K tl) g ts D σ H := h
theorem rng {n : Nat} {P : Nat → Prop} (hn : n ≤ 100000) (k : P n) : ∃ j : Int, [V.int (n : Int)] = [.int j] ∧ -(2 ^ 62) ≤ j ∧ j < 2 ^ 62 ∧ P j.toNat := ⟨n, rfl, by omega, by omega, by rw [Int.toNat_natCast]; exact k⟩
theorem cut {M : L2.St → Hp → Prop} (h : tu { D with nx := M } σ H) (k : ∀ σ' H', M σ' H' → ts D σ' H') : Evl.tCut tu ts D σ H := ⟨M, h, k⟩
theorem meth {C : Addr} {m : Str} {sp : Sp} {dvs : List V} {E : XK} (h : ta σ H fun x H1 => ∃ a dx fs, x = .ref a ∧ H1 a = some (.ins C dx fs) ∧ fs.lookup m = none ∧ tA σ H1 fun vs H2 => sp (x :: (vs ++ dvs)) H2 Q E) : tMeth C m sp dvs E ta tA σ H Q := h
theorem methE {C a dx : Addr} {fs : List (Str × V)} {m : Str} {P : Prop} (ho : H a = some (.ins C dx fs)) (l : fs.lookup m = none) (k : P) :
    ∃ a' dx fs, (V.ref a) = .ref a' ∧ H a' = some (.ins C dx fs) ∧ fs.lookup m = none ∧ P := ⟨a, dx, fs, rfl, ho, l, k⟩
theorem make {C : Addr} {sp : Sp} {dvs : List V} {E : XK} (h : tA σ H fun vs H1 => ∀ x dx, H1 x = none → H1 dx = none → dx ≠ x →
    sp (.ref x :: (vs ++ dvs)) (upd (upd H1 dx (.own x)) x (.ins C dx [])) (fun v H2 => v = .non ∧ Q (.ref x) H2) E) : tMake C sp dvs E tA σ H Q := h
theorem makeO {C : Addr} (h : ∀ a dx, H a = none → H dx = none → dx ≠ a → Q (.ref a) (upd (upd H dx (.own a)) a (.ins C dx []))) : tMakeO C σ H Q := h
theorem mkO {L : List (Addr × HO)} {F : Hp} {a dx C : Addr} (S : Hs L F H) (h1 : H a = none) (h2 : H dx = none) (h3 : dx ≠ a) : Hs ((a, .ins C dx []) :: L) F (upd (upd H dx (.own a)) a (.ins C dx [])) :=
  (S.ext (same_new h2)).new (by rw [upd_ne (Ne.symm h3)]; exact h1)
theorem sl {r : V → Option Int → Option Int → Hp → VK → Prop} {tl th : TO} (h : te σ H fun x H1 => tl σ H1 fun l H2 => th σ H2 fun u H3 => r x l u H3 Q) : tSl r te tl th σ H Q := h
theorem noPart {R : Option Int → Hp → Prop} (k : R none H) : tNoPart σ H R := k
theorem part {R : Option Int → Hp → Prop} (h : te σ H fun x H1 => ∃ i, x = .int i ∧ R (some i) H1) : tPart te σ H R := h
theorem partE {i : Int} {P : Int → Prop} (k : P i) : ∃ j, (V.int i) = .int j ∧ P j := ⟨i, rfl, k⟩
theorem slS {z : Str} {lo hi : Option Int} (hz : z.length ≤ 10000) (k : Q (.str (cutS z lo hi)) H) : rSlS (.str z) lo hi H Q := ⟨z, rfl, Nat.le_trans hz (by decide), k⟩
theorem bm {T : String} {r : V → List V → Hp → VK → Prop} (h : ta σ H fun x H1 => tyV K T x H1 ∧ tA σ H1 fun xs H2 => r x xs H2 Q) : tBM K T r ta tA σ H Q := h
theorem bm0 {T : String} {r : V → List V → Hp → VK → Prop} (h : ta σ H fun x H1 => tyV K T x H1 ∧ r x [] H1 Q) : tBM0 K T r ta σ H Q := h
theorem asgG {g : TG} (h : te σ H fun x H1 => g x σ H1 D.nx) : tAsg te g D σ H := h
theorem gsub {to ti : TE} {t : TSet} {v : V} {R : L2.St → Hp → Prop} (h : to σ H fun o H1 => ti σ H1 fun i H2 => t o i v H2 fun H3 => R σ H3) : gSub to ti t v σ H R := h
theorem dget {td ty : TE} (h : td σ H fun x H1 => ty σ H1 fun y H2 => ∃ a v, x = .ref a ∧ DGet H2 a y (some v) ∧ Q v H2) : tDGet td ty σ H Q := h
theorem dgetE {a : Addr} {kvs : List (Key × V)} {k : Key} {v : V} {R : V → Prop} (ho : H a = some (.dK kvs)) (e : valV kvs k = some v) (q : R v) : ∃ a' v, (V.ref a) = .ref a' ∧ DGet H a' (kV k) (some v) ∧ R v := ⟨a, v, rfl, e ▸ DGet.k ho, q⟩
theorem dgetS {a : Addr} {kvs : List (Key × V)} {k : Str} {v : V} {R : V → Prop} (ho : H a = some (.dK kvs)) (e : valV kvs (Sum.inr k) = some v) (q : R v) : ∃ a' v, (V.ref a) = .ref a' ∧ DGet H a' (.str k) (some v) ∧ R v := ⟨a, v, rfl, e ▸ DGet.k (k := Sum.inr k) ho, q⟩
theorem dput {td ty : TE} (h : tv σ H fun v H1 => td σ H1 fun x H2 => ty σ H2 fun y H3 => ∃ a H4, x = .ref a ∧ DPut H3 a y v H4 ∧ D.nx σ H4) : sDPut td ty tv D σ H := h
theorem dputS {a : Addr} {kvs kvs' : List (Key × V)} {k : Str} {v : V} {R : Hp → Prop} (ho : H a = some (.dK kvs)) (l : kvs.length < 1000) (e : putK kvs (Sum.inr k) v = kvs') (q : R (upd H a (.dK kvs'))) :
    ∃ a' H4, (V.ref a) = .ref a' ∧ DPut H a' (.str k) v H4 ∧ R H4 := ⟨a, _, rfl, DPut.k (k := Sum.inr k) ho (Nat.lt_of_lt_of_le l (by decide)), by rw [e]; exact q⟩
theorem pairsN {R : List (V × V) → Hp → Prop} (k : R [] H) : tPairs [] σ H R := k
theorem pairsC {tk : TE} {r : List (TE × TE)} {R : List (V × V) → Hp → Prop} (h : tk σ H fun x H1 => tv σ H1 fun y H2 => tPairs r σ H2 fun ps H3 => R ((x, y) :: ps) H3) : tPairs ((tk, tv) :: r) σ H R := h
theorem yes {R : Bool → Hp → Prop} (k : R true H) : tYes σ H R := k
theorem addS {a b : Str} {R : Str → Str → Prop} (hz : a.length + b.length ≤ 100000) (k : R a b) : ∃ i j, (V.str a) = .str i ∧ (V.str b) = .str j ∧ i.length + j.length ≤ sizeLine ∧ R i j := ⟨a, b, rfl, rfl, Nat.le_trans hz (by decide), k⟩
theorem cb {r : List V → Hp → VK → Prop} (h : tA σ H fun vs H1 => r vs H1 Q) : tCB r tA σ H Q := h
end
theorem look_ne {f g : Str} {v : V} {r : List (Str × V)} (h : decide (f = g) = false) : List.lookup f ((g, v) :: r) = List.lookup f r := by
  have hb : (f == g) = false := by simpa using h
  simp only [List.lookup, hb]
theorem look_eq {f : Str} {v : V} {r : List (Str × V)} : List.lookup f ((f, v) :: r) = some v := by simp [List.lookup]
theorem put_ne {f g : Str} {v w : V} {r : List (Str × V)} (h : decide (g = f) = false) : putF f v ((g, w) :: r) = (g, w) :: putF f v r := by
  have hb : ¬ g = f := by simpa using h
  rw [putF, if_neg hb]
theorem put_eq {f : Str} {v w : V} {r : List (Str × V)} : putF f v ((f, w) :: r) = (f, v) :: r := by rw [putF, if_pos rfl]
theorem put_nil {f : Str} {v : V} : putF f v [] = [(f, v)] := rfl
section
open PyProof.Rows
variable {X : Cx} {x : Str} {i : Int} {z : Str} {t : Tok} {pos : Pos}
theorem pe_gint (hg : Gl X x) (hm : ∃ t, X.mg x = some (.int i t)) (hd : (x == ("__debug__" : Str)) = false := by decide) : PE X (.Name x pos) (tC (.int i)) := let ⟨_, h⟩ := hm; pe_glob hg h ⟨_, rfl⟩ hd
theorem kit_self {K : PySem.W.Frag} {C : Addr} : PySem.W.kitOne K (.ref C) (.ref C) = some true := by
  unfold PySem.W.kitOne
  rw [if_pos (by simp)]
theorem kit_yes {K : PySem.W.Frag} {C R : Addr} (h1 : PySem.W.isClsIn K R = true) (h2 : PySem.W.typeIn K (.ref R) = some (.type "type")) (h3 : PySem.W.subIn K (.ref C) (.ref R) = some true) : PySem.W.kitOne K (.ref C) (.ref R) = some true := by
  unfold PySem.W.kitOne
  by_cases e : (Value.ref C == Value.ref R) = true
  · rw [if_pos e]
  · rw [if_neg e]
    unfold PySem.W.kitCls
    have h1' : (PySem.W.clsIn K R).isSome = true := h1
    have e2 : ((PySem.W.clsIn K R).isSome && PySem.W.typeIn K (.ref R) == some (.type "type")) = true := by rw [h1', h2] <;> rfl
    show (if ((PySem.W.clsIn K R).isSome && PySem.W.typeIn K (.ref R) == some (.type "type")) = true then PySem.W.subIn K (.ref C) (.ref R) else none) = some true
    rw [if_pos e2]
    exact h3
theorem kit_no {K : PySem.W.Frag} {C R : Addr} (h1 : PySem.W.isClsIn K R = true) (h2 : PySem.W.typeIn K (.ref R) = some (.type "type")) (h3 : PySem.W.subIn K (.ref C) (.ref R) = some false) (hne : C ≠ R) : PySem.W.kitOne K (.ref C) (.ref R) = some false := by
  unfold PySem.W.kitOne
  rw [if_neg (by simpa using hne)]
  unfold PySem.W.kitCls
  have h1' : (PySem.W.clsIn K R).isSome = true := h1
  have e2 : ((PySem.W.clsIn K R).isSome && PySem.W.typeIn K (.ref R) == some (.type "type")) = true := by rw [h1', h2] <;> rfl
  show (if ((PySem.W.clsIn K R).isSome && PySem.W.typeIn K (.ref R) == some (.type "type")) = true then PySem.W.subIn K (.ref C) (.ref R) else none) = some false
  rw [if_pos e2]
  exact h3
theorem pe_ex {X : Cx} {e : Expr} {ι : Type} {p : ι → Prop} {t : ι → TE} (h : ∀ i, p i → PE X e (t i)) : PE X e (tEx p t) := ⟨fun pins s σ H Q I ⟨i, hp, hq⟩ => (h i hp).run pins s σ H Q I hq⟩
theorem pe_makeO {X : Cx} {C : Addr} {x : Str} {p pos : Pos} (hmk : PySem.W.makesIn X.K C = true) (hi : PySem.W.findIn X.K (.ref C) "__init__" = some (some (.builtin "object.__init__"))) (kp : PySem.W.keepIn X.K (.ref C) = true) (hg : Gl X x) (hm : X.mg x = some (.ref C))
    (hdb : (x == ("__debug__" : Str)) = false := by decide) : PE X (.Call (.Name x p) [] [] pos) (tMakeO C) := by
  refine ⟨fun pins s σ H Q I h => ?_⟩
  refine wpAny_Call_Name_kw (ld_glob I hg hm ?_ hdb)
  refine PySem.W.callWith_K0 I.kIn kp ?_
  show wpAny _ _ (PySem.call (Value.ref C) []) _ _ _
  refine wpAny_call ?_
  have hq := h (s.heap.objs.size + 1) s.heap.objs.size (I.hok.fresh (Nat.le_succ _)) (I.hok.fresh (Nat.le_refl _)) (Nat.ne_of_lt (Nat.lt_succ_self _))
  have I2 := Inv.made (C := C) I
  have Y := PySem.W.makes_of (M := model X.prog X.w) I.kIn hmk
  have L0 := PySem.W.looks_findIn (M := model X.prog X.w) I.kIn hi
  obtain ⟨hh, g, d, t, os⟩ := s
  refine PySem.W.make_core Y L0 (fun self => PySem.W.Looks.of_pure (PySem.W.oi_bind self)) (.inr ⟨rfl, rfl⟩) ?_
  have e2 : ((hh.push PySem.W.emptyDict).push (PySem.W.instObj C hh.objs.size)).get? (hh.objs.size + 1) = some (PySem.W.instObj C hh.objs.size) := by
    have := Heap.get?_push_size (hh.push PySem.W.emptyDict) (o := PySem.W.instObj C hh.objs.size) rfl
    rwa [Heap.size_push] at this
  have t1 : PySem.W.Looks (model X.prog X.w) ((hh.push PySem.W.emptyDict).push (PySem.W.instObj C hh.objs.size)) (typeOf (.ref (hh.objs.size + 1))) (.ref C) := (PySem.W.Looks.ld e2).andThen .now
  have t2 : PySem.W.Looks (model X.prog X.w) ((hh.push PySem.W.emptyDict).push (PySem.W.instObj C hh.objs.size)) (isInstance (.ref (hh.objs.size + 1)) (.type "object")) true := t1.andThen (Y.top.keeps fun b o e => Heap.get?_push_of_some _ (Heap.get?_push_of_some _ e))
  refine codeAny_call_builtin PySem.W.oi_plain PySem.W.entry_oi (@PySem.W.check_slot (model X.prog X.w) _ _ _ "object.__init__" "object" "__init__" (.ref (hh.objs.size + 1)) [] [] _ PySem.W.oi_kind PySem.W.oi_split t2 (PySem.W.oi_args (.ref (hh.objs.size + 1))) ?_)
  rw [PySem.W.oi_run]
  exact wpAny_pure (And.intro rfl ⟨V.ref _, _, I2, rfl, hq⟩)
theorem pe_gstr (hg : Gl X x) (hm : ∃ t, X.mg x = some (.str z t)) (hd : (x == ("__debug__" : Str)) = false := by decide) : PE X (.Name x pos) (tC (.str z)) := let ⟨_, h⟩ := hm; pe_glob hg h ⟨_, rfl⟩ hd
end
end Z
/-! ### further rules -/
namespace Z
open PySem L2 PyProof.Rows
/-- a text times an int -/
def rRepS : R2 := fun x y H Q => ∃ (z : Str) (n : Int), x = .str z ∧ y = .int n ∧ z.length ≤ 1000 ∧ 0 ≤ n ∧ n ≤ 1000 ∧ ∀ r : Str, r = Txt.mul z n → r.length ≤ z.length * n.toNat → Q (.str r) H
theorem mul_len (z : Str) (n : Int) : (Txt.mul z n).length ≤ z.length * n.toNat := by
  unfold Txt.mul
  by_cases h : n < 1
  · rw [if_pos h]
    exact Nat.zero_le _
  · rw [if_neg h]
    by_cases h2 : (n == 1 || z.length == 0) = true
    · rw [if_pos h2]
      have : 1 ≤ n.toNat := by omega
      exact Nat.le_mul_of_pos_right _ this
    · rw [if_neg h2]
      have gen : ∀ (k : Nat) (a : Array Nat), ((List.replicate k z.cps).foldl (· ++ ·) a).size = a.size + k * z.cps.size := by
        intro k
        induction k with
        | zero => intro a; simp
        | succ k ih =>
          intro a
          rw [List.replicate_succ, List.foldl_cons, ih, Array.size_append, Nat.succ_mul]
          omega
      show ((List.replicate n.toNat z.cps).foldl (· ++ ·) #[]).size ≤ z.cps.size * n.toNat
      rw [gen, Nat.mul_comm]
      simp
theorem op_repS {X : Cx} : OpR X (binaryOp .Mult) rRepS := by
  intro pins s σ H x y v u Q I rx ry h
  obtain ⟨z, n, rfl, rfl, hz, h0, h1, q⟩ := h
  obtain ⟨t, rfl⟩ := rx
  obtain ⟨t', rfl⟩ := ry
  refine SB.mul ⟨?_, fun _ _ => ?_, fun _ _ => ?_⟩ fun t2 k => ⟨.str (Txt.mul z n), H, I.tok _, ⟨_, rfl⟩, q _ rfl (mul_len z n)⟩
  · rw [Bool.or_eq_false_iff]
    exact ⟨decide_eq_false (by omega), decide_eq_false (by omega)⟩
  · have hn : 1 ≤ n := by omega
    have : (z.length : Int) ≤ (2 ^ 63 - 1) / n := by
      refine Int.le_ediv_of_mul_le (by omega) ?_
      have h2 : (z.length : Int) * n ≤ 1000 * 1000 := Int.mul_le_mul (by omega) h1 (by omega) (by omega)
      omega
    omega
  · show decide (z.length * n.toNat > sizeLine) = false
    refine decide_eq_false ?_
    have h2 : z.length * n.toNat ≤ 1000 * 1000 := Nat.mul_le_mul hz (by omega)
    rw [sizeLine_eq]
    omega
theorem po_val {X : Cx} {e : Expr} {te : TE} (h : PE X e te) : PO X (some e) (tPartN te) := by
  refine ⟨fun pins s σ H Q I hw => ?_⟩
  rw [evalPart_some]
  refine thn (h.run pins s σ H _ I hw) fun u s1 ⟨x, H1, I1, r1, q1⟩ => ?_
  rcases q1 with ⟨rfl, q⟩ | ⟨i, rfl, q⟩
  · cases r1
    exact ⟨none, H1, I1, .none, q⟩
  · obtain ⟨t, rfl⟩ := r1
    exact ⟨some i, H1, I1, .int i t, q⟩
def cutT (xs : List Str) (lo hi : Option Int) : List Str := (xs.drop (HT.sIx xs.length 0 lo)).take (HT.sIx xs.length xs.length hi - HT.sIx xs.length 0 lo)
theorem cutV_str (xs : List Str) (lo hi : Option Int) : cutV (xs.map V.str) lo hi = (cutT xs lo hi).map V.str := by
  unfold cutV cutT
  rw [List.length_map, List.map_take, List.map_drop]
theorem cutT_len (xs : List Str) (lo hi : Option Int) : (cutT xs lo hi).length ≤ xs.length := by
  unfold cutT
  rw [List.length_take, List.length_drop]
  omega
theorem dp_strs {K : PySem.W.Frag} {H : Hp} : ∀ xs : List Str, DpAll K H (xs.map V.str) (xs.map PyData.str)
  | [] => .nil
  | x :: r => .cons (.str x) (dp_strs r)
theorem lay_strs : ∀ xs : List Str, (∀ x ∈ xs, PyData.strOk x = true) → PyData.canLayAll0 (xs.map PyData.str) = true
  | [], _ => by simp [PyData.canLayAll0]
  | x :: r, h => by
    rw [List.map_cons, PyData.canLayAll0, lay_strs r fun y hy => h y (List.mem_cons_of_mem _ hy), Bool.and_true, PyData.canLay0]
    exact h x List.mem_cons_self
theorem depth_strs : ∀ xs : List Str, PyData.depthAll (xs.map PyData.str) = 0
  | [] => by simp [PyData.depthAll]
  | x :: r => by rw [List.map_cons, PyData.depthAll, depth_strs r]; simp [PyData.depth]
theorem shaped_strs {xs : List Str} (h : ∀ x ∈ xs, PyData.strOk x = true) : SeqAt.shaped (.list (xs.map PyData.str)) = true := by
  unfold SeqAt.shaped
  rw [Bool.and_eq_true]
  refine ⟨by rw [PyData.canLay0]; exact lay_strs xs h, decide_eq_true ?_⟩
  rw [PyData.depth, depth_strs]
  decide
theorem eqv_strs : ∀ xs : List Str, PyData.eqvAll (xs.map PyData.str) (xs.map PyData.str) = true
  | [] => by simp [PyData.eqvAll]
  | x :: r => by rw [List.map_cons, PyData.eqvAll, eqv_strs r]; simp [PyData.eqv]
theorem ok_app {x y : Str} (h1 : PyData.strOk x = true) (h2 : PyData.strOk y = true) : PyData.strOk (x ++ y) = true := by
  unfold PyData.strOk at *
  show (x.cps ++ y.cps).all _ = true
  rw [Array.all_append, h1, h2]
  rfl
theorem ok_cut {z : Str} {lo hi : Option Int} (h : PyData.strOk z = true) : PyData.strOk (cutS z lo hi) = true := by
  unfold PyData.strOk cutS at *
  rw [List.all_toArray, List.all_eq_true]
  intro x hx
  rw [Array.all_eq_true_iff_forall_mem] at h
  exact h x (by simpa using List.mem_of_mem_drop (List.mem_of_mem_take hx))
theorem ixS {z : Str} {i : Int} {Q : VK} {H : Hp} (hz : z.length ≤ 100000) (h0 : 0 ≤ i) (h1 : i < z.length) (k : ∀ c, z.cps.toList[i.toNat]? = some c → Q (.str ⟨#[c]⟩) H) : rIxS (.str z) (.int i) H Q := by
  have hl : i.toNat < z.cps.toList.length := by
    rw [Array.length_toList]
    have : z.length = z.cps.size := rfl
    omega
  have e := List.getElem?_eq_getElem hl
  refine ⟨z, i, _, rfl, rfl, Nat.le_trans hz (by decide), ?_, k _ e⟩
  have e2 := atI_nat e
  have e3 : ((i.toNat : Nat) : Int) = i := by omega
  rwa [e3] at e2
section
variable {K : PySem.W.Frag} {H : Hp} {Q : VK} {a b : Addr} {xs : List Str}
/-- two lists of the same texts -/
theorem eqStrs (ha : SqL K H a (xs.map V.str)) (hb : SqL K H b (xs.map V.str)) (h : ∀ x ∈ xs, PyData.strOk x = true) (k : Q (.bl true) H) : rEqD K (.ref a) (.ref b) H Q :=
  ⟨_, _, .lst ha (dp_strs xs), .lst hb (dp_strs xs), shaped_strs h, shaped_strs h, by rw [PyData.eqv, eqv_strs]; exact k⟩
theorem neStrs (ha : SqL K H a (xs.map V.str)) (hb : SqL K H b (xs.map V.str)) (h : ∀ x ∈ xs, PyData.strOk x = true) (k : Q (.bl false) H) : rNeD K (.ref a) (.ref b) H Q :=
  ⟨_, _, .lst ha (dp_strs xs), .lst hb (dp_strs xs), shaped_strs h, shaped_strs h, by rw [PyData.eqv, eqv_strs]; exact k⟩
end
end Z
local macro_rules | `(tactic| walk_at "z ne") => `(tactic| first | assumption | (refine Ne.symm ?_; assumption))
local macro_rules | `(tactic| walk_at "z hp") => `(tactic| first | assumption | (with_reducible exact L2.upd_same) | (refine (L2.upd_ne ?_).trans ?_; (walk_at "z ne"); walk_at "z hp"))
local macro_rules | `(tactic| walk_at "z ic") => `(tactic| first | decide | (show (0 : Int) < _; first | decide | omega) | (show (0 : Int) ≤ _; first | decide | omega) | exact ⟨by decide, by decide⟩ | exact ⟨by decide, by decide, by decide⟩ | exact .inl ⟨by omega, by omega⟩ | exact .inr ⟨by omega, by omega⟩ | exact ⟨by omega, by omega⟩)
local macro_rules | `(tactic| walk_at "z small") => `(tactic| (first | decide | (simp only [List.length_cons, List.length_nil]; decide) | omega))
local macro_rules | `(tactic| walk_at "z no") => `(tactic| rfl)
/-- a slot, an expression, a statement: as far as nothing is asked -/
local macro_rules | `(tactic| walk_at "z1") => `(tactic| first
  | (with_reducible refine Z.seq ?_) | (with_reducible refine Z.asg ?_) | (with_reducible refine Z.ret ?_) | (with_reducible refine Z.retN ?_) | (with_reducible refine Z.drop ?_) | (with_reducible refine Z.next ?_)
  | (with_reducible refine Z.ifS ?_) | (with_reducible refine Z.op ?_) | (with_reducible refine Z.un ?_) | (with_reducible refine Z.con ?_) | ((with_reducible refine' Z.var ?hv ?_); (case hv => exact rfl))
  | (with_reducible refine Z.i0 ?_) | ((with_reducible refine Z.eqS ?hs ?_); (case hs => exact rfl)) | ((with_reducible refine Z.neS ?hs ?_); (case hs => exact rfl))
  | (with_reducible refine Z.test (b := true) ?_) | (with_reducible refine Z.tstB ?_) | (with_reducible refine Z.bB ?_) | (with_reducible refine Z.andT ?_) | (with_reducible refine Z.orT ?_) | (with_reducible refine Z.notT ?_)
  | (with_reducible refine Z.andV ?_) | (with_reducible refine Z.orV ?_) | (with_reducible refine Z.notV ?_) | (with_reducible refine Z.ifE ?_) | (with_reducible refine Z.blE ?_)
  | (with_reducible refine Z.nil ?_) | (with_reducible refine Z.cons ?_) | (with_reducible refine Z.fld ?_) | (with_reducible refine Z.sfld ?_) | (with_reducible refine Z.aug ?_) | (with_reducible refine Z.rAddE ?_)
  | ((with_reducible refine' Z.fldE ?ho ?hc ?hn ?hl ?_); (case ho => walk_at "z hp"); (case hc => walk_at "z cls"); (case hn => walk_at "z attr"); (case hl => walk_at "z look"))
  | ((with_reducible refine' Z.augV ?ho ?hc ?hn ?hl ?_); (case ho => walk_at "z hp"); (case hc => walk_at "z cls"); (case hn => walk_at "z attr"); (case hl => walk_at "z look"))
  | ((with_reducible refine' Z.sfldE ?ho ?hc ?hn ?hl ?_); (case ho => walk_at "z hp"); (case hc => walk_at "z cls"); (case hn => walk_at "z attr"); (case hl => walk_at "z small"); walk_at "z put")
  | ((with_reducible refine' Z.augE ?ho ?hl ?_); (case ho => walk_at "z hp"); (case hl => walk_at "z small"); walk_at "z put")
  | (with_reducible refine Z.meth ?_) | ((with_reducible refine' Z.methE ?ho ?hl ?_); (case ho => walk_at "z hp"); (case hl => walk_at "z no"))
  | (with_reducible refine Z.make ?_) | (with_reducible refine Z.makeO ?_) | (with_reducible refine Z.m0 ?_) | (with_reducible refine Z.m1 ?_) | (with_reducible refine Z.sl ?_) | (with_reducible refine Z.noPart ?_) | (with_reducible refine Z.part ?_) | (with_reducible refine Z.partE ?_) | (with_reducible refine Z.bm ?_) | (with_reducible refine Z.bm0 ?_)
  | (with_reducible refine Z.pairsC ?_) | (with_reducible refine Z.pairsN ?_) | (with_reducible refine Z.yes ?_)
  | (with_reducible refine Z.gcons ?_) | (with_reducible refine Z.gnil ?_) | (with_reducible refine Z.gname ?_) | (with_reducible refine Z.partN ?_) | (with_reducible refine Z.forR1 ?_) | (with_reducible refine Z.forL ?_)
  | (with_reducible refine Z.asgG ?_) | (with_reducible refine Z.gsub ?_) | (with_reducible refine Z.dget ?_) | (with_reducible refine Z.dput ?_)
  | ((with_reducible refine' Z.dgetS ?ho ?he ?_); (case ho => walk_at "z hp"); (case he => walk_at "z val"))
  | ((with_reducible refine' Z.dputS ?ho ?hl ?he ?_); (case ho => walk_at "z hp"); (case hl => walk_at "z small"); (case he => walk_at "z putK"))
  | (with_reducible refine Z.lst ?_) | (with_reducible refine Z.tup ?_) | (with_reducible refine Z.call ?_) | (with_reducible refine Z.cb ?_) | ((with_reducible refine Z.ic ?hc ?_); (case hc => walk_at "z ic")))
local macro_rules | `(tactic| walk_at "z dec") => `(tactic| first | (refine Z.iteTd (by decide +kernel) ?_) | (refine Z.iteFd (by decide +kernel) ?_) | skip)
/-- .. and the tests whose answer stands there -/
local macro_rules | `(tactic| walk_at "z") => `(tactic| repeat (first | walk_at "z1" | (refine L2.iteT ?_) | (refine L2.iteF ?_) | (with_reducible refine Z.isN ?_) | (with_reducible refine Z.iteSelf ?_) | (with_reducible refine Z.iteNSelf ?_)))

namespace Toy
open PySem L2
def top (i : Nat) : Stmt := PySem.Challenge.pw_planstore_k01_values_told.main.body.getD i (.Pass ⟨0, 0, 0, 0⟩)
abbrev s_is_whole : Stmt := top 5
theorem sc_is_whole : FnScope ["thing"] ["thing"] (defScope s_is_whole) := ⟨rfl, rfl, rfl, by decide +kernel, rfl, by decide +kernel, by decide +kernel⟩
abbrev s_is_name : Stmt := top 6
theorem sc_is_name : FnScope ["thing", "sign"] ["thing"] (defScope s_is_name) := ⟨rfl, rfl, rfl, by decide +kernel, rfl, by decide +kernel, by decide +kernel⟩
abbrev s_is_value : Stmt := top 7
theorem sc_is_value : FnScope ["kind", "thing"] ["kind", "thing"] (defScope s_is_value) := ⟨rfl, rfl, rfl, by decide +kernel, rfl, by decide +kernel, by decide +kernel⟩
abbrev s_value_text : Stmt := top 8
theorem sc_value_text : FnScope ["value"] ["value"] (defScope s_value_text) := ⟨rfl, rfl, rfl, by decide +kernel, rfl, by decide +kernel, by decide +kernel⟩
abbrev s_figures_in : Stmt := top 9
theorem sc_figures_in : FnScope ["text", "sign"] ["text"] (defScope s_figures_in) := ⟨rfl, rfl, rfl, by decide +kernel, rfl, by decide +kernel, by decide +kernel⟩
abbrev s_value_in : Stmt := top 10
theorem sc_value_in : FnScope ["kind", "text", "figures", "number"] ["kind", "text"] (defScope s_value_in) := ⟨rfl, rfl, rfl, by decide +kernel, rfl, by decide +kernel, by decide +kernel⟩
abbrev s_law_draws : Stmt := top 13
theorem sc_law_draws : FnScope ["_law_cell_here", "_law_many", "_law_found", "_law_left", "_law_mixed", "_law_k"] ["_law_cell_here", "_law_many"] (defScope s_law_draws) := ⟨rfl, rfl, rfl, by decide +kernel, rfl, by decide +kernel, by decide +kernel⟩
abbrev s_law_names : Stmt := top 14
theorem sc_law_names : FnScope ["_law_cell_here", "_law_many", "_law_letters", "_law_draws_here", "_law_size", "_law_at", "_law_names_here", "_law_k", "_law_signs", "_law_j", "_law_sign"] ["_law_cell_here", "_law_many"] (defScope s_law_names) := ⟨rfl, rfl, rfl, by decide +kernel, rfl, by decide +kernel, by decide +kernel⟩
abbrev s_law_value : Stmt := top 15
theorem sc_law_value : FnScope ["_law_kind", "_law_draw", "_law_number"] ["_law_kind", "_law_draw"] (defScope s_law_value) := ⟨rfl, rfl, rfl, by decide +kernel, rfl, by decide +kernel, by decide +kernel⟩
abbrev s_law_plain : Stmt := top 16
theorem sc_law_plain : FnScope ["_law_text", "_law_figures", "_law_number", "_law_sign"] ["_law_text"] (defScope s_law_plain) := ⟨rfl, rfl, rfl, by decide +kernel, rfl, by decide +kernel, by decide +kernel⟩
abbrev s_law_word : Stmt := top 17
theorem sc_law_word : FnScope ["_law_text", "_law_letters", "_law_sign"] ["_law_text"] (defScope s_law_word) := ⟨rfl, rfl, rfl, by decide +kernel, rfl, by decide +kernel, by decide +kernel⟩
abbrev s_law_near : Stmt := top 18
theorem sc_law_near : FnScope ["_law_text", "_law_draws_here", "_law_at", "_law_sign", "_law_some"] ["_law_text", "_law_draws_here"] (defScope s_law_near) := ⟨rfl, rfl, rfl, by decide +kernel, rfl, by decide +kernel, by decide +kernel⟩
abbrev s_law_same : Stmt := top 19
theorem sc_law_same : FnScope ["_law_found", "_law_due"] ["_law_found", "_law_due"] (defScope s_law_same) := ⟨rfl, rfl, rfl, by decide +kernel, rfl, by decide +kernel, by decide +kernel⟩
abbrev s_law_truths : Stmt := top 20
theorem sc_law_truths : FnScope ["_law_thing", "_law_whole", "_law_name", "_law_told", "_law_truth"] ["_law_thing", "_law_whole", "_law_name"] (defScope s_law_truths) := ⟨rfl, rfl, rfl, by decide +kernel, rfl, by decide +kernel, by decide +kernel⟩
abbrev s_law : Stmt := top 21
theorem sc_law : FnScope ["_law_script", "_law_cell_here", "_law_draws_here", "_law_kind", "_law_value_here", "_law_text", "_law_near_here", "_law_number", "_law_thing"] ["_law_script"] (defScope s_law) := ⟨rfl, rfl, rfl, by decide +kernel, rfl, by decide +kernel, by decide +kernel⟩
structure Adr where
  f_is_whole : Addr
  f_is_name : Addr
  f_is_value : Addr
  f_value_text : Addr
  f_figures_in : Addr
  f_value_in : Addr
  f_law_draws : Addr
  f_law_names : Addr
  f_law_value : Addr
  f_law_plain : Addr
  f_law_word : Addr
  f_law_near : Addr
  f_law_same : Addr
  f_law_truths : Addr
  f_law : Addr
/-- a def of the text as it stands, and how its arguments bind -/
def Dfn (K : PySem.W.Frag) (x q : Str) (st : Stmt) (ps : List Str) (f : Addr) : Prop := ∃ fd, Fun K x q st f fd ∧ Binds K fd ps []
theorem Dfn.kp {K : PySem.W.Frag} {x q : Str} {st : Stmt} {ps : List Str} {f : Addr} (d : Dfn K x q st ps f) : PySem.W.keepIn K (.ref f) = true := let ⟨_, F, _⟩ := d; F.kp
structure Txt (K : PySem.W.Frag) (mg : Str → Option Value) (A : Adr) : Prop where
  d_is_whole : Dfn K "is_whole" "is_whole" s_is_whole ["thing"] A.f_is_whole
  g_is_whole : mg "is_whole" = some (.ref A.f_is_whole)
  d_is_name : Dfn K "is_name" "is_name" s_is_name ["thing"] A.f_is_name
  g_is_name : mg "is_name" = some (.ref A.f_is_name)
  d_is_value : Dfn K "is_value" "is_value" s_is_value ["kind", "thing"] A.f_is_value
  g_is_value : mg "is_value" = some (.ref A.f_is_value)
  d_value_text : Dfn K "value_text" "value_text" s_value_text ["value"] A.f_value_text
  g_value_text : mg "value_text" = some (.ref A.f_value_text)
  d_figures_in : Dfn K "figures_in" "figures_in" s_figures_in ["text"] A.f_figures_in
  g_figures_in : mg "figures_in" = some (.ref A.f_figures_in)
  d_value_in : Dfn K "value_in" "value_in" s_value_in ["kind", "text"] A.f_value_in
  g_value_in : mg "value_in" = some (.ref A.f_value_in)
  d_law_draws : Dfn K "_law_draws" "_law_draws" s_law_draws ["_law_cell_here", "_law_many"] A.f_law_draws
  g_law_draws : mg "_law_draws" = some (.ref A.f_law_draws)
  d_law_names : Dfn K "_law_names" "_law_names" s_law_names ["_law_cell_here", "_law_many"] A.f_law_names
  g_law_names : mg "_law_names" = some (.ref A.f_law_names)
  d_law_value : Dfn K "_law_value" "_law_value" s_law_value ["_law_kind", "_law_draw"] A.f_law_value
  g_law_value : mg "_law_value" = some (.ref A.f_law_value)
  d_law_plain : Dfn K "_law_plain" "_law_plain" s_law_plain ["_law_text"] A.f_law_plain
  g_law_plain : mg "_law_plain" = some (.ref A.f_law_plain)
  d_law_word : Dfn K "_law_word" "_law_word" s_law_word ["_law_text"] A.f_law_word
  g_law_word : mg "_law_word" = some (.ref A.f_law_word)
  d_law_near : Dfn K "_law_near" "_law_near" s_law_near ["_law_text", "_law_draws_here"] A.f_law_near
  g_law_near : mg "_law_near" = some (.ref A.f_law_near)
  d_law_same : Dfn K "_law_same" "_law_same" s_law_same ["_law_found", "_law_due"] A.f_law_same
  g_law_same : mg "_law_same" = some (.ref A.f_law_same)
  d_law_truths : Dfn K "_law_truths" "_law_truths" s_law_truths ["_law_thing", "_law_whole", "_law_name"] A.f_law_truths
  g_law_truths : mg "_law_truths" = some (.ref A.f_law_truths)
  d_law : Dfn K "law" "law" s_law ["_law_script"] A.f_law
  g_law : mg "law" = some (.ref A.f_law)
  b_abs : mg "abs" = none
  b_bool : mg "bool" = none
  b_int : mg "int" = none
  b_isinstance : mg "isinstance" = none
  b_len : mg "len" = none
  b_range : mg "range" = none
  b_str : mg "str" = none
  v_FIGURES : ∃ t, mg "FIGURES" = some (.str "0123456789" t)
  v_LETTERS : ∃ t, mg "LETTERS" = some (.str "abcdefghijklmnopqrstuvwxyz" t)
  v_MOST_NUMBER : ∃ t, mg "MOST_NUMBER" = some (.int (1000000000) t)
  v_MOST_SIGNS : ∃ t, mg "MOST_SIGNS" = some (.int (8) t)
local macro_rules | `(tactic| walk_at "z cls") => `(tactic| first | assumption)
local macro_rules | `(tactic| walk_at "z attr") => `(tactic| first | fail)
def News (new : List (Addr × HO)) (H H' : Hp) : Prop := Z.Hs new H H'
theorem News.same {new : List (Addr × HO)} {H H' : Hp} (h : News new H H') : Same H H' := h.fr
theorem call_strA {X : Cx} : CallR X (.type "str") (fun xs H Q => ∃ (v : V) (t : Str), xs = [v] ∧ ((∃ i : Int, v = .int i ∧ i.natAbs.log2 < 1920 ∧ t = Str.ofString (toString i)) ∨ v = .str t) ∧ Q (.str t) H) := by
  rintro pins s σ H xs us Q I r ⟨v, t, rfl, ⟨i, rfl, hi, rfl⟩ | rfl, q⟩
  · exact call_str_int pins s σ H _ us Q I r ⟨i, rfl, hi, q⟩
  · exact SkE.call_str_str pins s σ H _ us Q I r ⟨t, rfl, q⟩
/-! ### texts and what they tell -/
def LET : Str := "abcdefghijklmnopqrstuvwxyz"
def FIG : Str := "0123456789"
def InS (S z : Str) : Prop := ∀ c ∈ z.cps.toList, c ∈ S.cps.toList
instance {S z : Str} : Decidable (InS S z) := inferInstanceAs (Decidable (∀ c ∈ z.cps.toList, c ∈ S.cps.toList))
def Name (z : Str) : Prop := 1 ≤ z.length ∧ z.length ≤ 8 ∧ InS LET z
instance {z : Str} : Decidable (Name z) := inferInstanceAs (Decidable (_ ∧ _ ∧ _))
def figIn (z : Str) : Option Int := if z = "" ∨ 10 < z.length ∨ (z.cps.toList[0]? = some 48 ∧ 1 < z.length) ∨ ¬ InS FIG z then none else some ((NumText.digitsVal z.cps.toList : Nat) : Int)
def minus (z : Str) : Prop := cutS z none (some 1) = "-"
instance {z : Str} : Decidable (minus z) := inferInstanceAs (Decidable (_ = _))
def tailS (z : Str) : Str := if minus z then cutS z (some 1) none else z
def numIn (z : Str) : Option Int := match figIn (tailS z) with
  | none => none
  | some n => if 10 ^ 9 < n ∨ z = "-0" then none else if minus z then some (0 - n) else some n
def optN : Option Int → V
  | none => .non
  | some n => .int n
def optS : Option Str → V
  | none => .non
  | some n => .str n
/-- what is neither a whole number nor a text -/
def Odd (H : Hp) (v : V) : Prop := (∃ b, v = .bl b) ∨ v = .non ∨ (∃ a xs, v = .ref a ∧ H a = some (.lst xs)) ∨ (∃ a xs, v = .ref a ∧ H a = some (.tup xs)) ∨ ∃ a kv, v = .ref a ∧ H a = some (.dK kv)
def Whole (H : Hp) (v : V) (b : Bool) : Prop := (∃ i, v = .int i ∧ b = true) ∨ (∃ z, v = .str z ∧ b = false) ∨ (Odd H v ∧ b = false)
def Named (H : Hp) (v : V) (b : Bool) : Prop := (∃ i, v = .int i ∧ b = false) ∨ (∃ z, v = .str z ∧ z.length ≤ 1000 ∧ b = decide (Name z)) ∨ (Odd H v ∧ b = false)
def Numb (H : Hp) (v : V) (b : Bool) : Prop := (∃ i, v = .int i ∧ b = decide (-(10 ^ 9) ≤ i ∧ i ≤ 10 ^ 9)) ∨ (∃ z, v = .str z ∧ b = false) ∨ (Odd H v ∧ b = false)
def sp_is_whole (K : PySem.W.Frag) (A : Adr) : Sp := fun vs H Q _ => ∃ v b, vs = [v] ∧ Whole H v b ∧ Q (.bl b) H
def sp_is_name (K : PySem.W.Frag) (A : Adr) : Sp := fun vs H Q _ => ∃ v b, vs = [v] ∧ Named H v b ∧ Q (.bl b) H
def sp_is_value (K : PySem.W.Frag) (A : Adr) : Sp := fun vs H Q _ => ∃ k v b, vs = [.str k, v] ∧ ((k = "word" ∧ Named H v b) ∨ (k = "number" ∧ Numb H v b)) ∧ Q (.bl b) H
def sp_value_text (K : PySem.W.Frag) (A : Adr) : Sp := fun vs H Q _ => ∃ (v : V) (t : Str), vs = [v] ∧ ((∃ i : Int, v = .int i ∧ i.natAbs ≤ 10 ^ 9 ∧ t = Str.ofString (toString i)) ∨ v = .str t) ∧ Q (.str t) H
def sp_figures_in (K : PySem.W.Frag) (A : Adr) : Sp := fun vs H Q _ => ∃ z, vs = [.str z] ∧ z.length ≤ 600 ∧ Q (optN (figIn z)) H
def sp_value_in (K : PySem.W.Frag) (A : Adr) : Sp := fun vs H Q _ => ∃ k z r, vs = [.str k, .str z] ∧ z.length ≤ 600 ∧ ((k = "word" ∧ r = optS (if Name z then some z else none)) ∨ (k = "number" ∧ r = optN (numIn z))) ∧ Q r H
theorem for_str {x : Str} {g : TG} {tb : TS} {D : Ends} {σ : L2.St} {H : Hp} (Pv : Nat → L2.St → Hp → Prop) (h0 : Pv 0 σ H)
    (hs : ∀ i c σ H, x.cps[i]? = some c → Pv i σ H → g (.str ⟨#[c]⟩) σ H fun σ2 H2 => tb { D with nx := Pv (i + 1), ct := Pv (i + 1), bk := D.nx } σ2 H2) (hd : ∀ σ H, Pv x.cps.size σ H → D.nx σ H) :
    ∃ W : Nat → Nat → L2.St → Hp → Prop, (∃ m, W 0 m σ H) ∧ ∀ i m σ H, W i m σ H →
      ((Its x).stop i H ∧ D.nx σ H) ∨ ((Its x).go i H ∧ ∃ N : L2.St → Hp → Prop, (∀ σ' H', N σ' H' → ∃ m', m' < m ∧ W (i + 1) m' σ' H') ∧ ∀ v H', (Its x).yld i H v H' → g v σ H' fun σ2 H2 => tb { D with nx := N, ct := N, bk := D.nx } σ2 H2) := by
  refine ⟨fun i m σ H => m = x.cps.size - i ∧ i ≤ x.cps.size ∧ Pv i σ H, ⟨x.cps.size, by simp, Nat.zero_le _, h0⟩, ?_⟩
  rintro i m σ H ⟨rfl, hi, p⟩
  by_cases hlt : i < x.cps.size
  · refine .inr ⟨hlt, Pv (i + 1), fun σ' H' p' => ⟨x.cps.size - (i + 1), by omega, rfl, hlt, p'⟩, fun v H' y => ?_⟩
    obtain ⟨e, c, hc, y⟩ := y
    subst e y
    exact hs i c σ _ hc p
  · have e : i = x.cps.size := by omega
    subst e
    exact .inl ⟨Nat.le_refl _, hd σ H p⟩
theorem forS {te : TE} {g : TG} {ts : TS} {D : Ends} {σ : L2.St} {H : Hp} (h : te σ H fun v H1 => ∃ x, v = .str x ∧ ∃ W : Nat → Nat → L2.St → Hp → Prop, (∃ m, W 0 m σ H1) ∧ ∀ i m σ H, W i m σ H →
      ((Its x).stop i H ∧ D.nx σ H) ∨ ((Its x).go i H ∧ ∃ N : L2.St → Hp → Prop, (∀ σ' H', N σ' H' → ∃ m', m' < m ∧ W (i + 1) m' σ' H') ∧ ∀ v H', (Its x).yld i H v H' → g v σ H' fun σ2 H2 => ts { D with nx := N, ct := N, bk := D.nx } σ2 H2)) : tFor (iStr te) g ts D σ H := h
local macro_rules | `(tactic| walk_at "z1") => `(tactic| with_reducible refine forS ?_)
section
variable {K : PySem.W.Frag} {H : Hp} {Q : VK} {v : V}
theorem odd_str (h : Odd H v) (k : Q (.bl false) H) : rIsi K [v, .ty "str"] H Q := by
  rcases h with ⟨b, rfl⟩ | rfl | ⟨a, xs, rfl, e⟩ | ⟨a, xs, rfl, e⟩ | ⟨a, kv, rfl, e⟩
  · exact ⟨_, _, _, .type "str", false, rfl, .ty "str", .base (.bl b), kit_ty (by decide +kernel), k⟩
  · exact ⟨_, _, _, .type "str", false, rfl, .ty "str", .base .non, kit_ty (by decide +kernel), k⟩
  · exact ⟨_, _, _, .type "str", false, rfl, .ty "str", .base (.lst e), kit_ty (by decide +kernel), k⟩
  · exact ⟨_, _, _, .type "str", false, rfl, .ty "str", .base (.tup e), kit_ty (by decide +kernel), k⟩
  · exact ⟨_, _, _, .type "str", false, rfl, .ty "str", .base (.dK e), kit_ty (by decide +kernel), k⟩
theorem chain {r r' : R2} {ta tb tc : TE} {σ : L2.St} (h : ta σ H fun x H1 => tb σ H1 fun y H2 => r x y H2 fun z H3 => ∃ k, z = .bl k ∧ (if k = true then tc σ H3 fun w' H4 => r' y w' H4 Q else Q (.bl false) H3)) : tChain r r' ta tb tc σ H Q := h
theorem int_str {i : Int} (k : Q (.bl false) H) : rIsi K [.int i, .ty "str"] H Q := ⟨_, _, _, .type "str", false, rfl, .ty "str", .base (.int i), kit_ty (by decide +kernel), k⟩
theorem int_int {i : Int} (k : Q (.bl true) H) : rIsi K [.int i, .ty "int"] H Q := ⟨_, _, _, .type "int", true, rfl, .ty "int", .base (.int i), kit_ty (by decide +kernel), k⟩
theorem int_bool {i : Int} (k : Q (.bl false) H) : rIsi K [.int i, .ty "bool"] H Q := ⟨_, _, _, .type "bool", false, rfl, .ty "bool", .base (.int i), kit_ty (by decide +kernel), k⟩
theorem str_int {z : Str} (k : Q (.bl false) H) : rIsi K [.str z, .ty "int"] H Q := ⟨_, _, _, .type "int", false, rfl, .ty "int", .base (.str z), kit_ty (by decide +kernel), k⟩
theorem str_str {z : Str} (k : Q (.bl true) H) : rIsi K [.str z, .ty "str"] H Q := ⟨_, _, _, .type "str", true, rfl, .ty "str", .base (.str z), kit_ty (by decide +kernel), k⟩
theorem str_bool {z : Str} (k : Q (.bl false) H) : rIsi K [.str z, .ty "bool"] H Q := ⟨_, _, _, .type "bool", false, rfl, .ty "bool", .base (.str z), kit_ty (by decide +kernel), k⟩
theorem bl_int {b : Bool} (k : Q (.bl true) H) : rIsi K [.bl b, .ty "int"] H Q := ⟨_, _, _, .type "int", true, rfl, .ty "int", .base (.bl b), kit_ty (by decide +kernel), k⟩
theorem bl_bool {b : Bool} (k : Q (.bl true) H) : rIsi K [.bl b, .ty "bool"] H Q := ⟨_, _, _, .type "bool", true, rfl, .ty "bool", .base (.bl b), kit_ty (by decide +kernel), k⟩
theorem odd_int (h : Odd H v) (hb : ∀ b, v = .bl b → rIsi K [.bl b, .ty "int"] H Q) (k : Q (.bl false) H) : rIsi K [v, .ty "int"] H Q := by
  rcases h with ⟨b, rfl⟩ | rfl | ⟨a, xs, rfl, e⟩ | ⟨a, xs, rfl, e⟩ | ⟨a, kv, rfl, e⟩
  · exact hb b rfl
  · exact ⟨_, _, _, .type "int", false, rfl, .ty "int", .base .non, kit_ty (by decide +kernel), k⟩
  · exact ⟨_, _, _, .type "int", false, rfl, .ty "int", .base (.lst e), kit_ty (by decide +kernel), k⟩
  · exact ⟨_, _, _, .type "int", false, rfl, .ty "int", .base (.tup e), kit_ty (by decide +kernel), k⟩
  · exact ⟨_, _, _, .type "int", false, rfl, .ty "int", .base (.dK e), kit_ty (by decide +kernel), k⟩
end
local macro_rules | `(tactic| walk_at "z1") => `(tactic| first | (with_reducible refine chain ?_) | (with_reducible refine int_int ?_) | (with_reducible refine int_bool ?_) | (with_reducible refine int_str ?_) | (with_reducible refine str_int ?_) | (with_reducible refine str_str ?_) | (with_reducible refine str_bool ?_) | (with_reducible refine bl_int ?_) | (with_reducible refine bl_bool ?_))
section
variable {P : Program} {w : World} {K : PySem.W.Frag} {mg : Str → Option Value} {base : Heap} {A : Adr}
theorem ok_is_whole (T : Txt K mg A) : ∃ fd, FnOk P w K mg base CX0 1 A.f_is_whole fd ["thing"] (sp_is_whole K A) ∧ Binds K fd ["thing"] [] := by
  have ⟨fd, F, b⟩ := T.d_is_whole
  refine ⟨fd, F.ok sc_is_whole (fun vs H Q E h => ?_) (fun cdv Ar outer s H vs Q E hr h => ?_), b⟩
  · obtain ⟨v, bb, rfl, _⟩ := h
    rfl
  · obtain ⟨v, bb, rfl, h, k⟩ := h
    have nd := sc_is_whole.nd
    have hu := hu_of hr
    refine ⟨_, (pss_one (ps_ret (pe_and (pe_callB call_isi (by rfl) T.b_isinstance (by decide +kernel) (pa_cons (pv 0) (pa_cons (pe_bltn (v := .ty "int") (u := .type "int") (by rfl) T.b_int (by decide +kernel) rfl) pa_nil))) (pe_one (pe_not (pe_callB call_isi (by rfl) T.b_isinstance (by decide +kernel) (pa_cons (pv 0) (pa_cons (pe_bltn (v := .ty "bool") (u := .type "bool") (by rfl) T.b_bool (by decide +kernel) rfl) pa_nil)))))))), ?_⟩
    simp only [cxOf, Cx.nox, L2.start, List.map_cons, List.map_nil, List.length_cons, List.length_nil, Nat.reduceAdd, Nat.reduceSub, List.replicate, List.cons_append, List.nil_append]
    rcases h with ⟨i, rfl, rfl⟩ | ⟨z, rfl, rfl⟩ | ⟨o, rfl⟩
    · walk_at "z"
      exact k
    · walk_at "z"
      exact k
    · walk_at "z"
      refine odd_int o (fun b e => ?_) ?_
      · subst e
        walk_at "z"
        exact k
      · walk_at "z"
        exact k
theorem ok_is_name (T : Txt K mg A) : ∃ fd, FnOk P w K mg base CX0 1 A.f_is_name fd ["thing"] (sp_is_name K A) ∧ Binds K fd ["thing"] [] := by
  have ⟨fd, F, b⟩ := T.d_is_name
  refine ⟨fd, F.ok sc_is_name (fun vs H Q E h => ?_) (fun cdv Ar outer s H vs Q E hr h => ?_), b⟩
  · obtain ⟨v, bb, rfl, _⟩ := h
    rfl
  · obtain ⟨v, bb, rfl, h, k⟩ := h
    have nd := sc_is_name.nd
    have hu := hu_of hr
    refine ⟨_, (pss_cons (ps_if (PW.pt (pw_or (pt_not (pt_val (pe_callB call_isi (by rfl) T.b_isinstance (by decide +kernel) (pa_cons (pv 0) (pa_cons (pe_bltn (v := .ty "str") (u := .type "str") (by rfl) T.b_str (by decide +kernel) rfl) pa_nil))))) (pw_or1 (pt_not (pt_chain op_le op_le pe_int (pe_callB call_len_str (by rfl) T.b_len PySem.boot_len (pa_cons (pv 0) pa_nil)) (Z.pe_gint rfl T.v_MOST_SIGNS)))))) (pss_one (ps_ret pe_bl)) pss_nil)
      (pss_cons (ps_for PassesOwn.never rfl (pi_str (pv 0)) (pg_name (i := 1) nd rfl (Or.inl rfl)) (pss_one (ps_if (pt_cmpR op_notIn_sign (pv 1) (Z.pe_gstr rfl T.v_LETTERS) (by rfl)) (pss_one (ps_ret pe_bl)) pss_nil)))
      (pss_one (ps_ret pe_bl)))), ?_⟩
    simp only [cxOf, Cx.nox, L2.start, List.map_cons, List.map_nil, List.length_cons, List.length_nil, Nat.reduceAdd, Nat.reduceSub, List.replicate, List.cons_append, List.nil_append]
    rcases h with ⟨i, rfl, rfl⟩ | ⟨z, rfl, hz, rfl⟩ | ⟨o, rfl⟩
    · walk_at "z"
      exact k
    · walk_at "z"
      refine ⟨z, rfl, Nat.le_trans hz (by decide), ?_⟩
      walk_at "z"
      refine Z.iteD (fun h1 => ?_) (fun h1 => ?_)
      · walk_at "z"
        refine Z.iteN (fun h2 => ?_) (fun h2 => ?_)
        · walk_at "z"
          rw [show decide (Name z) = false from decide_eq_false fun n => h2 (by have := n.2.1; omega)] at k
          exact k
        · walk_at "z"
          refine ⟨z, rfl, for_str (fun i σ H' => H' = H ∧ (∃ v, σ = [some (.str z), v]) ∧ ∀ j c, j < i → z.cps[j]? = some c → c ∈ LET.cps.toList) ⟨rfl, ⟨_, rfl⟩, fun j c h => absurd h (Nat.not_lt_zero _)⟩ ?_ ?_⟩
          · rintro i c σ H' hc ⟨rfl, ⟨v, rfl⟩, hall⟩
            walk_at "z"
            refine ⟨c, _, rfl, rfl, ?_⟩
            walk_at "z"
            refine Z.iteN (fun h3 => ?_) (fun h3 => ?_)
            · walk_at "z"
              rw [show decide (Name z) = false from decide_eq_false fun n => h3 (n.2.2 c (by rw [Array.mem_toList_iff]; exact Array.mem_of_getElem? hc))] at k
              exact k
            · walk_at "z"
              refine ⟨rfl, ⟨_, rfl⟩, fun j c' hj hc' => ?_⟩
              by_cases e : j = i
              · subst e
                rw [hc] at hc'
                cases hc'
                exact h3
              · exact hall j c' (by omega) hc'
          · rintro σ H' ⟨rfl, ⟨v, rfl⟩, hall⟩
            walk_at "z"
            rw [show decide (Name z) = true from decide_eq_true ⟨by omega, by omega, fun c hc => by
              obtain ⟨j, hj, e⟩ := List.mem_iff_getElem.mp hc
              exact hall j c (by simpa using hj) (by rw [← Array.getElem?_toList, List.getElem?_eq_getElem hj, e])⟩] at k
            exact k
      · walk_at "z"
        rw [show decide (Name z) = false from decide_eq_false fun n => h1 (by have := n.1; omega)] at k
        exact k
    · walk_at "z"
      refine odd_str o ?_
      walk_at "z"
      exact k
theorem log_small {n : Nat} (h : n ≤ 10 ^ 9) : n.log2 < 1920 := by
  by_cases e : n = 0
  · subst e; decide
  · exact Nat.lt_of_lt_of_le ((Nat.log2_lt e).mpr (show n < 2 ^ 30 by omega)) (by decide)
theorem ok_is_value (T : Txt K mg A) : ∃ fd, FnOk P w K mg base CX0 2 A.f_is_value fd ["kind", "thing"] (sp_is_value K A) ∧ Binds K fd ["kind", "thing"] [] := by
  have ⟨fd, F, b⟩ := T.d_is_value
  refine ⟨fd, F.ok sc_is_value (fun vs H Q E h => ?_) (fun cdv Ar outer s H vs Q E hr h => ?_), b⟩
  · obtain ⟨kd, v, bb, rfl, _⟩ := h
    rfl
  · obtain ⟨kd, v, bb, rfl, h, k⟩ := h
    have nd := sc_is_value.nd
    have hu := hu_of hr
    have ⟨fd_is_name, G_is_name, b_is_name⟩ := ok_is_name (P := P) (w := w) (base := base) T
    have ⟨fd_is_whole, G_is_whole, b_is_whole⟩ := ok_is_whole (P := P) (w := w) (base := base) T
    refine ⟨_, (pss_cons (ps_if (pt_cmpR op_eq (pv 0) pe_str (nomark _)) (pss_one (ps_ret (pe_call G_is_name (hr.mono (by decide)) (by rfl) T.g_is_name T.d_is_name.kp b_is_name .nil pass0 (pa_cons (pv 1) pa_nil)))) pss_nil)
      (pss_one (ps_ret (pe_and (pe_call G_is_whole (hr.mono (by decide)) (by rfl) T.g_is_whole T.d_is_whole.kp b_is_whole .nil pass0 (pa_cons (pv 1) pa_nil)) (pe_one (pe_chain op_le op_le (pe_op op_sub pe_int (Z.pe_gint rfl T.v_MOST_NUMBER)) (pv 1) (Z.pe_gint rfl T.v_MOST_NUMBER))))))), ?_⟩
    simp only [cxOf, Cx.nox, L2.start, List.map_cons, List.map_nil, List.length_cons, List.length_nil, Nat.reduceAdd, Nat.reduceSub, List.replicate, List.cons_append, List.nil_append]
    rcases h with ⟨rfl, h⟩ | ⟨rfl, h⟩
    · walk_at "z"
      exact ⟨v, bb, rfl, h, k⟩
    · rcases h with ⟨i, rfl, rfl⟩ | ⟨z, rfl, rfl⟩ | ⟨o, rfl⟩
      · walk_at "z"
        refine ⟨_, _, rfl, .inl ⟨i, rfl, rfl⟩, ?_⟩
        walk_at "z"
        refine Z.iteD (fun h1 => ?_) (fun h1 => ?_)
        · walk_at "z"
          rw [show decide (-(10 ^ 9) ≤ i ∧ i ≤ 10 ^ 9) = decide (i ≤ 1000000000) from decide_eq_decide.mpr ⟨fun h => by omega, fun h => by omega⟩] at k
          exact k
        · walk_at "z"
          rw [show decide (-(10 ^ 9) ≤ i ∧ i ≤ 10 ^ 9) = false from decide_eq_false fun h => h1 (by omega)] at k
          exact k
      · walk_at "z"
        refine ⟨_, _, rfl, .inr (.inl ⟨z, rfl, rfl⟩), ?_⟩
        walk_at "z"
        exact k
      · walk_at "z"
        refine ⟨_, _, rfl, .inr (.inr ⟨o, rfl⟩), ?_⟩
        walk_at "z"
        exact k
theorem ok_value_text (T : Txt K mg A) : ∃ fd, FnOk P w K mg base CX0 1 A.f_value_text fd ["value"] (sp_value_text K A) ∧ Binds K fd ["value"] [] := by
  have ⟨fd, F, b⟩ := T.d_value_text
  refine ⟨fd, F.ok sc_value_text (fun vs H Q E h => ?_) (fun cdv Ar outer s H vs Q E hr h => ?_), b⟩
  · obtain ⟨v, t, rfl, _⟩ := h
    rfl
  · obtain ⟨v, t, rfl, h, k⟩ := h
    have nd := sc_value_text.nd
    have hu := hu_of hr
    refine ⟨_, (pss_one (ps_ret (pe_callTy call_strA (by rfl) T.b_str (by decide +kernel) (pa_cons (pv 0) pa_nil)))), ?_⟩
    simp only [cxOf, Cx.nox, L2.start, List.map_cons, List.map_nil, List.length_cons, List.length_nil, Nat.reduceAdd, Nat.reduceSub, List.replicate, List.cons_append, List.nil_append]
    rcases h with ⟨i, rfl, hi, rfl⟩ | rfl
    · walk_at "z"
      exact ⟨_, _, rfl, .inl ⟨i, rfl, log_small hi, rfl⟩, k⟩
    · walk_at "z"
      exact ⟨_, _, rfl, .inr rfl, k⟩
theorem allIn_of {S z : Str} (h : ∀ j c, j < z.cps.size → z.cps[j]? = some c → c ∈ S.cps.toList) : InS S z := fun c hc => by
  obtain ⟨j, hj, e⟩ := List.mem_iff_getElem.mp hc
  exact h j c (by simpa using hj) (by rw [← Array.getElem?_toList, List.getElem?_eq_getElem hj, e])
theorem dig_of {z : Str} (h : InS FIG z) : NumText.AllDigits z.cps.toList := fun c hc => by
  have m := h c hc
  have e : FIG.cps.toList = [48, 49, 50, 51, 52, 53, 54, 55, 56, 57] := by decide +kernel
  rw [e] at m
  simp only [List.mem_cons, List.not_mem_nil, or_false] at m
  omega
theorem str_nil {z : Str} (h : z.cps.toList = []) : z = "" := by
  obtain ⟨⟨l⟩⟩ := z
  have : l = [] := h
  subst this
  rfl
theorem len_toList (z : Str) : z.cps.toList.length = z.length := Array.length_toList
theorem len_pos {z : Str} (h : z ≠ "") : 0 < z.length := by
  refine Nat.pos_of_ne_zero fun e => h (str_nil (List.length_eq_zero_iff.mp (by rw [len_toList, e])))
theorem one_eq {c : Nat} {d : Str} {e : Nat} (h : (⟨#[c]⟩ : Str) = d) (hd : d.cps.toList = [e] := by decide +kernel) : c = e := by
  rw [← h] at hd
  exact (List.cons.inj hd).1
theorem ok_figures_in (T : Txt K mg A) : ∃ fd, FnOk P w K mg base CX0 1 A.f_figures_in fd ["text"] (sp_figures_in K A) ∧ Binds K fd ["text"] [] := by
  have ⟨fd, F, b⟩ := T.d_figures_in
  refine ⟨fd, F.ok sc_figures_in (fun vs H Q E h => ?_) (fun cdv Ar outer s H vs Q E hr h => ?_), b⟩
  · obtain ⟨z, rfl, _⟩ := h
    rfl
  · obtain ⟨z, rfl, hz, k⟩ := h
    have nd := sc_figures_in.nd
    have hu := hu_of hr
    refine ⟨_, (Evl.pss_cut (ps_if (PW.pt (pw_or (pt_cmpR op_eq (pv 0) pe_str (nomark _)) (pw_or (pt_cmpR op_gt (pe_callB call_len_str (by rfl) T.b_len PySem.boot_len (pa_cons (pv 0) pa_nil)) pe_int (nomark _)) (pw_or1 (PW.pt (pw_and (pt_cmpR op_eq (pe_ix ix_str (pv 0) pe_int (fun _ _ => rfl)) pe_str (nomark _)) (pw_and1 (pt_cmpR op_gt (pe_callB call_len_str (by rfl) T.b_len PySem.boot_len (pa_cons (pv 0) pa_nil)) pe_int (nomark _))))))))) (pss_one (ps_ret pe_non)) pss_nil)
      (pss_cons (ps_for PassesOwn.never rfl (pi_str (pv 0)) (pg_name (i := 1) nd rfl (Or.inl rfl)) (pss_one (ps_if (pt_cmpR op_notIn_sign (pv 1) (Z.pe_gstr rfl T.v_FIGURES) (by rfl)) (pss_one (ps_ret pe_non)) pss_nil)))
      (pss_one (ps_ret (pe_callTy call_int_str (by rfl) T.b_int (by decide +kernel) (pa_cons (pv 0) pa_nil)))))), ?_⟩
    simp only [cxOf, Cx.nox, L2.start, List.map_cons, List.map_nil, List.length_cons, List.length_nil, Nat.reduceAdd, Nat.reduceSub, List.replicate, List.cons_append, List.nil_append]
    refine Z.cut (M := fun σ' H' => σ' = [some (.str z), none] ∧ H' = H ∧ ¬ (z = "" ∨ 10 < z.length ∨ (z.cps.toList[0]? = some 48 ∧ 1 < z.length))) ?_ ?_
    · walk_at "z"
      refine Z.iteD (fun h1 => ?_) (fun h1 => ?_)
      · have e : z = "" := V.str.inj h1
        walk_at "z"
        rw [show figIn z = none from if_pos (.inl e)] at k
        exact k
      · have ne : z ≠ "" := fun e => h1 (by rw [e])
        walk_at "z"
        refine ⟨z, rfl, Nat.le_trans hz (by decide), ?_⟩
        walk_at "z"
        refine Z.iteD (fun h2 => ?_) (fun h2 => ?_)
        · have h2' : 10 < z.length := by omega
          walk_at "z"
          rw [show figIn z = none from if_pos (.inr (.inl h2'))] at k
          exact k
        · walk_at "z"
          refine Z.ixS (i := 0) (Nat.le_trans hz (by decide)) (Int.le_refl 0) (by have := len_pos ne; omega) fun c hc => ?_
          walk_at "z"
          refine Z.iteD (fun h3 => ?_) (fun h3 => ?_)
          · have hc' : c = 48 := one_eq (e := 48) (V.str.inj h3)
            subst hc'
            walk_at "z"
            refine ⟨z, rfl, Nat.le_trans hz (by decide), ?_⟩
            walk_at "z"
            refine Z.iteD (fun h4 => ?_) (fun h4 => ?_)
            · have h4' : 1 < z.length := by omega
              walk_at "z"
              rw [show figIn z = none from if_pos (.inr (.inr (.inl ⟨hc, h4'⟩)))] at k
              exact k
            · walk_at "z"
              refine ⟨rfl, rfl, ?_⟩
              rintro (h | h | ⟨_, h⟩)
              · exact ne h
              · omega
              · omega
          · walk_at "z"
            refine ⟨rfl, rfl, ?_⟩
            rintro (h | h | ⟨h, _⟩)
            · exact ne h
            · omega
            · have hc0 : z.cps.toList[0]? = some c := hc
              rw [hc0] at h
              exact h3 (by rw [Option.some.inj h]; rfl)
    · rintro σ' H1 ⟨rfl, eH, nc⟩
      subst eH
      walk_at "z"
      refine ⟨z, rfl, for_str (fun i σ H' => H' = H1 ∧ (∃ v, σ = [some (.str z), v]) ∧ ∀ j c, j < i → z.cps[j]? = some c → c ∈ FIG.cps.toList) ⟨rfl, ⟨_, rfl⟩, fun j c h => absurd h (Nat.not_lt_zero _)⟩ ?_ ?_⟩
      · rintro i c σ H' hc ⟨rfl, ⟨v, rfl⟩, hall⟩
        walk_at "z"
        refine ⟨c, _, rfl, rfl, ?_⟩
        walk_at "z"
        refine Z.iteN (fun h3 => ?_) (fun h3 => ?_)
        · walk_at "z"
          rw [show figIn z = none from if_pos (.inr (.inr (.inr fun n => h3 (n c (by rw [Array.mem_toList_iff]; exact Array.mem_of_getElem? hc)))))] at k
          exact k
        · walk_at "z"
          refine ⟨rfl, ⟨_, rfl⟩, fun j c' hj hc' => ?_⟩
          by_cases e : j = i
          · subst e
            rw [hc] at hc'
            cases hc'
            exact h3
          · exact hall j c' (by omega) hc'
      · rintro σ H' ⟨rfl, ⟨v, rfl⟩, hall⟩
        have hS : InS FIG z := allIn_of hall
        walk_at "z"
        rw [show figIn z = some ((NumText.digitsVal z.cps.toList : Nat) : Int) from if_neg (by
          rintro (h | h | h | h)
          · exact nc (.inl h)
          · exact nc (.inr (.inl h))
          · exact nc (.inr (.inr h))
          · exact h hS)] at k
        refine ⟨z, _, rfl, intText_digits (dig_of hS) (fun e => nc (.inl (str_nil e))) (by omega), by omega, ?_⟩
        exact k
theorem cut_len (z : Str) (lo hi : Option Int) : (cutS z lo hi).length ≤ z.length := by
  unfold cutS
  show (List.toArray _).size ≤ _
  rw [List.size_toArray, List.length_take, List.length_drop, len_toList]
  omega
theorem tail_len {z : Str} {n : Nat} (h : z.length ≤ n) : (tailS z).length ≤ n := by
  unfold tailS
  split
  · exact Nat.le_trans (cut_len _ _ _) h
  · exact h
theorem ok_value_in (T : Txt K mg A) : ∃ fd, FnOk P w K mg base CX0 2 A.f_value_in fd ["kind", "text"] (sp_value_in K A) ∧ Binds K fd ["kind", "text"] [] := by
  have ⟨fd, F, b⟩ := T.d_value_in
  refine ⟨fd, F.ok sc_value_in (fun vs H Q E h => ?_) (fun cdv Ar outer s H vs Q E hr h => ?_), b⟩
  · obtain ⟨kd, z, r, rfl, _⟩ := h
    rfl
  · obtain ⟨kd, z, r, rfl, hz, h, k⟩ := h
    have nd := sc_value_in.nd
    have hu := hu_of hr
    have ⟨fd_is_name, G_is_name, b_is_name⟩ := ok_is_name (P := P) (w := w) (base := base) T
    have ⟨fd_figures_in, G_figures_in, b_figures_in⟩ := ok_figures_in (P := P) (w := w) (base := base) T
    refine ⟨_, (pss_cons (ps_if (pt_cmpR op_eq (pv 0) pe_str (nomark _)) (pss_cons (ps_if (pt_val (pe_call G_is_name (hr.mono (by decide)) (by rfl) T.g_is_name T.d_is_name.kp b_is_name .nil pass0 (pa_cons (pv 1) pa_nil))) (pss_one (ps_ret (pv 1))) pss_nil)
      (pss_one (ps_ret pe_non))) pss_nil)
      (pss_cons (ps_set (i := 2) nd rfl (Or.inl rfl) (pv 1))
      (Evl.pss_cut (ps_if (pt_cmpR op_eq (pe_slice sl_str (pv 1) po_none (po_some pe_int)) pe_str (nomark _)) (pss_one (ps_set (i := 2) nd rfl (Or.inl rfl) (pe_slice sl_str (pv 1) (po_some pe_int) po_none))) pss_nil)
      (pss_cons (ps_set (i := 3) nd rfl (Or.inl rfl) (pe_call G_figures_in (hr.mono (by decide)) (by rfl) T.g_figures_in T.d_figures_in.kp b_figures_in .nil pass0 (pa_cons (pv 2) pa_nil)))
      (pss_cons (ps_if (PW.pt (pw_or (pt_cmpR op_isN (pv 3) pe_non (nomark _)) (pw_or (pt_cmpR op_gt (pv 3) (Z.pe_gint rfl T.v_MOST_NUMBER) (nomark _)) (pw_or1 (pt_cmpR op_eq (pv 1) pe_str (nomark _)))))) (pss_one (ps_ret pe_non)) pss_nil)
      (Evl.pss_cut (ps_if (pt_cmpR op_eq (pe_slice sl_str (pv 1) po_none (po_some pe_int)) pe_str (nomark _)) (pss_one (ps_ret (pe_op op_sub pe_int (pv 3)))) pss_nil)
      (pss_one (ps_ret (pv 3))))))))), ?_⟩
    simp only [cxOf, Cx.nox, L2.start, List.map_cons, List.map_nil, List.length_cons, List.length_nil, Nat.reduceAdd, Nat.reduceSub, List.replicate, List.cons_append, List.nil_append]
    rcases h with ⟨rfl, rfl⟩ | ⟨rfl, rfl⟩
    · walk_at "z"
      refine ⟨_, _, rfl, .inr (.inl ⟨z, rfl, by omega, rfl⟩), ?_⟩
      walk_at "z"
      refine Z.iteD (fun h1 => ?_) (fun h1 => ?_)
      · walk_at "z"
        rw [if_pos h1] at k
        exact k
      · walk_at "z"
        rw [if_neg h1] at k
        exact k
    · walk_at "z"
      refine Z.cut (M := fun σ' H' => σ' = [some (.str "number"), some (.str z), some (.str (tailS z)), none] ∧ H' = H) ?_ ?_
      · walk_at "z"
        refine Z.slS (by omega) ?_
        walk_at "z"
        refine Z.iteD (fun h1 => ?_) (fun h1 => ?_)
        · have m : minus z := V.str.inj h1
          walk_at "z"
          refine Z.slS (by omega) ?_
          walk_at "z"
          exact ⟨by rw [show tailS z = cutS z (some 1) none from if_pos m]; rfl, rfl⟩
        · have m : ¬ minus z := fun m => h1 (congrArg V.str m)
          walk_at "z"
          exact ⟨by rw [show tailS z = z from if_neg m]; rfl, rfl⟩
      · rintro σ' H1 ⟨rfl, eH⟩
        subst eH
        walk_at "z"
        refine ⟨tailS z, rfl, tail_len hz, ?_⟩
        cases hf : figIn (tailS z) with
        | none =>
          rw [show numIn z = none by unfold numIn; rw [hf]] at k
          walk_at "z"
          exact k
        | some n =>
          have en : numIn z = if 10 ^ 9 < n ∨ z = "-0" then none else if minus z then some (0 - n) else some n := by unfold numIn; rw [hf]
          rw [en] at k
          rw [show optN (some n) = V.int n from rfl]
          walk_at "z"
          refine Z.iteD (fun h1 => ?_) (fun h1 => ?_)
          · walk_at "z"
            rw [if_pos (.inl h1)] at k
            exact k
          · walk_at "z"
            refine Z.iteD (fun h2 => ?_) (fun h2 => ?_)
            · walk_at "z"
              rw [if_pos (.inr (V.str.inj h2))] at k
              exact k
            · rw [if_neg (fun h => h.elim h1 fun h => h2 (congrArg V.str h))] at k
              walk_at "z"
              refine Z.cut (M := fun σ' H' => σ' = [some (.str "number"), some (.str z), some (.str (tailS z)), some (.int n)] ∧ H' = H1 ∧ ¬ minus z) ?_ ?_
              · walk_at "z"
                refine Z.slS (by omega) ?_
                walk_at "z"
                refine Z.iteD (fun h3 => ?_) (fun h3 => ?_)
                · rw [if_pos (show minus z from V.str.inj h3)] at k
                  walk_at "z"
                  exact k
                · walk_at "z"
                  exact ⟨rfl, rfl, fun m => h3 (congrArg V.str m)⟩
              · rintro σ' H2 ⟨rfl, eH, nm⟩
                subst eH
                rw [if_neg nm] at k
                walk_at "z"
                exact k
theorem ix_listK {X : Cx} {K : PySem.W.Frag} (h : X.K = K) : IxR X (rIxL K) := by
  subst h
  exact ix_list
def sp_law_draws (K : PySem.W.Frag) (A : Adr) : Sp := fun vs H Q _ => ∃ (c : Int) (n : Nat), vs = [.int c, .int n] ∧ n ≤ 100 ∧ ∀ H' q (xs : List Int), xs.length = n → (∀ x ∈ xs, 0 ≤ x ∧ x < 10 ^ 10) → News [(q, .lst (xs.map .int))] H H' → Q (.ref q) H'
theorem ok_law_draws (T : Txt K mg A) : ∃ fd, FnOk P w K mg base CX0 1 A.f_law_draws fd ["_law_cell_here", "_law_many"] (sp_law_draws K A) ∧ Binds K fd ["_law_cell_here", "_law_many"] [] := by
  have ⟨fd, F, b⟩ := T.d_law_draws
  refine ⟨fd, F.ok sc_law_draws (fun vs H Q E h => ?_) (fun cdv Ar outer s H vs Q E hr h => ?_), b⟩
  · obtain ⟨c, n, rfl, _⟩ := h
    rfl
  · obtain ⟨c, n, rfl, hn, k⟩ := h
    have nd := sc_law_draws.nd
    have hu := hu_of hr
    refine ⟨_, (pss_cons (ps_set (i := 2) nd rfl (Or.inl rfl) (pe_lst pa_nil))
      (pss_cons (ps_set (i := 3) nd rfl (Or.inl rfl) (pe_callB call_abs (by rfl) T.b_abs (by decide +kernel) (pa_cons (pv 0) pa_nil)))
      (pss_cons (ps_set (i := 4) nd rfl (Or.inl rfl) (pe_op op_mod (pv 3) pe_int))
      (pss_cons (ps_for PassesOwn.never rfl (pi_range1 rfl T.b_range (pa_cons (pv 1) pa_nil)) (pg_name (i := 5) nd rfl (Or.inl rfl)) (pss_cons (ps_set (i := 4) nd rfl (Or.inl rfl) (pe_op op_mod (pe_op op_add (pe_op op_add (pe_op op_mul (pv 4) pe_int) (pe_op op_mul pe_int (pv 5))) pe_int) pe_int))
      (pss_one (ps_if (pt_cmpR op_ge (pv 3) (pe_op op_pow pe_int pe_int) (nomark _)) (pss_cons (ps_expr (pe_bm PySem.F.plainAttrs_list PySem.F.slot_list_append PySem.F.type_list_append mt_append (pv 2) (pa_cons (pe_op op_mod (pv 3) (pe_op op_pow pe_int pe_int)) pa_nil)))
      (pss_one (ps_set (i := 3) nd rfl (Or.inl rfl) (pe_op op_fdivW (pv 3) (pe_op op_pow pe_int pe_int))))) (pss_one (ps_expr (pe_bm PySem.F.plainAttrs_list PySem.F.slot_list_append PySem.F.type_list_append mt_append (pv 2) (pa_cons (pe_op op_mod (pe_op op_mul (pv 4) (pe_op op_add (pv 4) pe_int)) pe_int) pa_nil))))))))
      (pss_one (ps_ret (pv 2))))))), ?_⟩
    simp only [cxOf, Cx.nox, L2.start, List.map_cons, List.map_nil, List.length_cons, List.length_nil, Nat.reduceAdd, Nat.reduceSub, List.replicate, List.cons_append, List.nil_append]
    walk_at "z"
    refine ⟨by simp only [List.length_cons, List.length_nil]; decide, fun q hq => ?_⟩
    have S0 := Z.Hs.nil.new (H := H) (o := .lst []) hq
    walk_at "z"
    refine ⟨c, rfl, ?_⟩
    walk_at "z"
    refine ⟨(n : Int), rfl, by omega, by omega, ?_⟩
    rw [Int.toNat_natCast]
    refine (for_range (lo := 0) (n := n) (fun i σ H' => ∃ (xs : List Int) (l m : Int) (v : Option V), σ = [some (.int c), some (.int n), some (.ref q), some (.int l), some (.int m), v] ∧ 0 ≤ l ∧ 0 ≤ m ∧ m < 2147483647 ∧ xs.length = i ∧ (∀ x ∈ xs, 0 ≤ x ∧ x < 10 ^ 10) ∧ Z.Hs [(q, .lst (xs.map .int))] H H')
      ⟨[], _, _, none, rfl, by split <;> omega, Int.emod_nonneg _ (by decide), Int.emod_lt_of_pos _ (by decide), rfl, fun x h => (nomatch h), S0⟩ ?_ ?_)
    · rintro i σ H1 hi ⟨xs, l, m, v, rfl, l0, m0, m1, hx, pos, S⟩
      walk_at "z"
      have p1 : (0 : Int) < 10 ^ Int.toNat 10 := by decide
      refine Z.iteD (fun h1 => ?_) (fun h1 => ?_)
      · walk_at "z"
        refine ⟨.inl ⟨rfl, _, SqL.of (S.at 0 rfl)⟩, ?_⟩
        walk_at "z"
        refine ⟨q, _, _, rfl, rfl, S.at 0 rfl, by rw [List.length_map]; exact Nat.lt_of_le_of_lt (show xs.length ≤ 1000 by omega) (by decide), ?_⟩
        walk_at "z"
        refine ⟨xs ++ [l % 10 ^ Int.toNat 10], _, _, _, rfl, Int.ediv_nonneg l0 (Int.le_of_lt p1), Int.emod_nonneg _ (by decide), Int.emod_lt_of_pos _ (by decide), by simp; omega, fun x hx => ?_, by rw [List.map_append]; exact S.set 0 rfl _⟩
        rcases List.mem_append.mp hx with h | h
        · exact pos x h
        · rw [List.mem_singleton.mp h]; exact ⟨Int.emod_nonneg _ (by decide), Int.emod_lt_of_pos _ (by decide)⟩
      · walk_at "z"
        refine ⟨.inl ⟨rfl, _, SqL.of (S.at 0 rfl)⟩, ?_⟩
        walk_at "z"
        refine ⟨q, _, _, rfl, rfl, S.at 0 rfl, by rw [List.length_map]; exact Nat.lt_of_le_of_lt (show xs.length ≤ 1000 by omega) (by decide), ?_⟩
        walk_at "z"
        refine ⟨xs ++ [_], _, _, _, rfl, l0, Int.emod_nonneg _ (by decide), Int.emod_lt_of_pos _ (by decide), by simp; omega, fun x hx => ?_, by rw [List.map_append]; exact S.set 0 rfl _⟩
        rcases List.mem_append.mp hx with h | h
        · exact pos x h
        · rw [List.mem_singleton.mp h]; exact ⟨Int.emod_nonneg _ (by decide), Int.lt_trans (Int.emod_lt_of_pos _ (by decide)) (by decide)⟩
    · rintro σ H1 ⟨xs, l, m, v, rfl, l0, m0, m1, hx, pos, S⟩
      walk_at "z"
      exact k H1 q xs hx pos S
def One (x : Str) : Prop := ∃ c, x = ⟨#[c]⟩ ∧ c ∈ LET.cps.toList
theorem join_one : ∀ ws : List Str, (∀ x ∈ ws, One x) → (Txt.join "" ws).length = ws.length ∧ InS LET (Txt.join "" ws) ∧ (ws.map (·.length)).sum = ws.length
  | [], _ => ⟨rfl, fun c h => by simp [show (Txt.join "" []) = (⟨#[]⟩ : Str) from rfl] at h, rfl⟩
  | x :: r, h => by
    obtain ⟨c, rfl, hc⟩ := h x List.mem_cons_self
    obtain ⟨h1, h2, h3⟩ := join_one r fun y hy => h y (List.mem_cons_of_mem _ hy)
    have e : Txt.join "" ((⟨#[c]⟩ : Str) :: r) = (⟨#[c]⟩ : Str) ++ Txt.join "" r := by
      rw [TL.join_eq, TL.join_eq]
      exact PyProof.Rows.join_nil_cons _ _
    refine ⟨?_, ?_, ?_⟩
    · rw [e]
      show (#[c] ++ (Txt.join "" r).cps).size = _
      have : (Txt.join "" r).cps.size = r.length := h1
      simp [this]
      omega
    · rw [e]
      intro d hd
      have hd' : d ∈ (#[c] ++ (Txt.join "" r).cps).toList := hd
      rw [Array.toList_append, List.mem_append] at hd'
      rcases hd' with h | h
      · rw [List.mem_singleton.mp h]; exact hc
      · exact h2 d h
    · rw [List.map_cons, List.sum_cons, h3, List.length_cons]
      show 1 + r.length = _
      omega
def sp_law_names (K : PySem.W.Frag) (A : Adr) : Sp := fun vs H Q _ => ∃ (c : Int) (n : Nat), vs = [.int c, .int n] ∧ n ≤ 100 ∧ ∀ H' q (xs : List Str), xs.length = n → (∀ x ∈ xs, Name x) → News [(q, .lst (xs.map .str))] H H' → Q (.ref q) H'
theorem ok_law_names (T : Txt K mg A) : ∃ fd, FnOk P w K mg base CX0 2 A.f_law_names fd ["_law_cell_here", "_law_many"] (sp_law_names K A) ∧ Binds K fd ["_law_cell_here", "_law_many"] [] := by
  have ⟨fd, F, b⟩ := T.d_law_names
  refine ⟨fd, F.ok sc_law_names (fun vs H Q E h => ?_) (fun cdv Ar outer s H vs Q E hr h => ?_), b⟩
  · obtain ⟨c, n, rfl, _⟩ := h
    rfl
  · obtain ⟨c, n, rfl, hn, k⟩ := h
    have nd := sc_law_names.nd
    have hu := hu_of hr
    have ⟨fd_law_draws, G_law_draws, b_law_draws⟩ := ok_law_draws (P := P) (w := w) (base := base) T
    refine ⟨_, (pss_cons (ps_set (i := 2) nd rfl (Or.inr rfl) pe_str)
      (pss_cons (ps_set (i := 3) nd rfl (Or.inr rfl) (pe_call G_law_draws (hr.mono (by decide)) (by rfl) T.g_law_draws T.d_law_draws.kp b_law_draws .nil pass0 (pa_cons (pv 0) (pa_cons pe_int pa_nil))))
      (pss_cons (ps_set (i := 4) nd rfl (Or.inl rfl) (pe_op op_add pe_int (pe_op op_mod (pe_ix ix_list (pv 3) pe_int (fun _ _ => rfl)) pe_int)))
      (pss_cons (ps_set (i := 5) nd rfl (Or.inr rfl) (pe_op op_mod (pe_ix ix_list (pv 3) pe_int (fun _ _ => rfl)) (pv 4)))
      (pss_cons (ps_set (i := 6) nd rfl (Or.inl rfl) (pe_lst pa_nil))
      (pss_cons (ps_for PassesOwn.never rfl (pi_range1 rfl T.b_range (pa_cons (pv 1) pa_nil)) (pg_name (i := 7) nd rfl (Or.inr rfl)) (pss_cons (ps_setLc (i := 8) rfl nd rfl rfl (sw_true rfl rfl rfl (by decide +kernel)) (own := [("_law_j", 9)]) (pi_range1 rfl T.b_range (pa_cons (pv 4) pa_nil)) (blkOk_by (own := [("_law_j", 9)]) (N := ["_law_cell_here", "_law_many", "_law_letters", "_law_draws_here", "_law_size", "_law_at", "_law_names_here", "_law_k", "_law_signs", "_law_j", "_law_sign"]) (sc := defScope s_law_names) (by decide +kernel)) (fun _ _ _ _ _ => pg_name (i := 9) nd rfl (Or.inl rfl)) (fun _ _ _ _ _ => pts_nil) (fun _ _ _ _ _ => (pe_op op_mod (pe_op op_add (pe_ix (ix_listK (K := K) rfl) (pv 3) (pe_op op_add pe_int (pv 9)) (fun _ _ => rfl)) (pe_op op_mul (pv 7) (pe_callTy call_int1 (by rfl) T.b_int (by decide +kernel) (pa_cons (pe_cmpR op_eq (pv 9) (pv 5) (nomark _)) pa_nil)))) pe_int)))
      (pss_one (ps_expr (pe_bm PySem.F.plainAttrs_list PySem.F.slot_list_append PySem.F.type_list_append mt_append (pv 6) (pa_cons (pe_join pe_str (pe_lc (own := [("_law_sign", 10)]) rfl nd (pi_list (pv 8)) (blkOk_by (own := [("_law_sign", 10)]) (N := ["_law_cell_here", "_law_many", "_law_letters", "_law_draws_here", "_law_size", "_law_at", "_law_names_here", "_law_k", "_law_signs", "_law_j", "_law_sign"]) (sc := defScope s_law_names) (by decide +kernel)) (fun _ _ _ _ _ => pg_name (i := 10) nd rfl (Or.inl rfl)) (fun _ _ _ _ _ => pts_nil) (fun _ _ _ _ _ => (pe_ix ix_str (pv 2) (pv 10) (fun _ _ => rfl))))) pa_nil))))))
      (pss_one (ps_ret (pv 6))))))))), ?_⟩
    simp only [cxOf, Cx.nox, L2.start, List.map_cons, List.map_nil, List.length_cons, List.length_nil, Nat.reduceAdd, Nat.reduceSub, List.replicate, List.cons_append, List.nil_append]
    walk_at "z"
    refine ⟨c, 10, rfl, by decide, fun H1 q1 xs hx pos S1 => ?_⟩
    have g0 : xs[0]? = some (xs[0]'(by omega)) := List.getElem?_eq_getElem _
    have g1 : xs[1]? = some (xs[1]'(by omega)) := List.getElem?_eq_getElem _
    have p0 := (pos _ (List.mem_of_getElem? g0)).1
    have p1 := (pos _ (List.mem_of_getElem? g1)).1
    have hq := S1.at 0 rfl
    walk_at "z"
    refine Z.ixL (i := 0) (SqL.of hq) (by rw [List.getElem?_map, g0]; rfl) ?_
    walk_at "z"
    refine Z.ixL (i := 1) (SqL.of hq) (by rw [List.getElem?_map, g1]; rfl) ?_
    walk_at "z"
    refine ⟨by simp only [List.length_cons, List.length_nil]; decide, fun q hq2 => ?_⟩
    obtain ⟨sz, hsz, hs1, hs8⟩ : ∃ sz : Nat, (1 : Int) + xs[0]'(by omega) % 8 = (sz : Int) ∧ 1 ≤ sz ∧ sz ≤ 8 := ⟨((1 : Int) + xs[0]'(by omega) % 8).toNat, by omega, by omega, by omega⟩
    rw [hsz]
    have S2 := S1.new (o := .lst []) hq2
    walk_at "z"
    refine ⟨(n : Int), rfl, by omega, by omega, ?_⟩
    rw [Int.toNat_natCast]
    refine (for_range (lo := 0) (n := n) (fun i σ H' => ∃ (zs : List Str) (v7 v8 v9 v10 : Option V), σ = [some (.int c), some (.int n), some (.str LET), some (.ref q1), some (.int sz), some (.int (xs[1]'(by omega) % sz)), some (.ref q), v7, v8, v9, v10] ∧ zs.length = i ∧ (∀ x ∈ zs, Name x) ∧ Z.Hs [(q, .lst (zs.map .str)), (q1, .lst (xs.map .int))] H H')
      ⟨[], none, none, none, none, rfl, rfl, fun x h => (nomatch h), S2⟩ ?_ ?_)
    · rintro i σ H2 hi ⟨zs, v7, v8, v9, v10, rfl, hl, hz, S⟩
      walk_at "z"
      refine ⟨.int (sz : Int), rfl, (sz : Int), rfl, by omega, by omega, ?_⟩
      rw [Int.toNat_natCast]
      intro g hg
      refine lc_range (lo := 0) (n := sz) (fun i H' => ∃ ys : List Int, ys.length = i ∧ (∀ y ∈ ys, 0 ≤ y ∧ y < 26) ∧ Z.Hs [(g, .lst (ys.map .int)), (q, .lst (zs.map .str)), (q1, .lst (xs.map .int))] H H') ⟨[], rfl, fun x h => (nomatch h), S.new hg⟩ ?_ ?_
      · rintro j H3 hj ⟨ys, hy, yb, S3⟩
        refine ⟨rfl, ?_⟩
        walk_at "z"
        have g2 : xs[2 + j]? = some (xs[2 + j]'(by omega)) := List.getElem?_eq_getElem _
        rw [show (2 : Int) + (0 + (j : Int)) = ((2 + j : Nat) : Int) by omega]
        refine Z.ixL (SqL.of (S3.at 2 rfl)) (by rw [List.getElem?_map, g2]; rfl) ?_
        walk_at "z"
        refine .inr ⟨_, rfl, ?_⟩
        refine Z.ic ?hc ?_
        case hc => exact .inl ⟨by omega, by omega⟩
        walk_at "z"
        refine ⟨_, S3.at 0 rfl, by rw [List.length_map]; exact Nat.lt_of_le_of_lt (show ys.length ≤ 1000 by omega) (by decide), ys ++ [_], by simp; omega, fun y hy => ?_, by rw [List.map_append]; exact S3.set 0 rfl _⟩
        rcases List.mem_append.mp hy with h | h
        · exact yb y h
        · rw [List.mem_singleton.mp h]; exact ⟨Int.emod_nonneg _ (by decide), Int.emod_lt_of_pos _ (by decide)⟩
      · rintro H3 ⟨ys, hy, yb, S3⟩
        walk_at "z"
        refine ⟨.inl ⟨rfl, _, SqL.of (S3.at 1 rfl)⟩, ?_⟩
        walk_at "z"
        refine ⟨⟨_, rfl⟩, .ref g, rfl, g, rfl, ⟨_, SqL.of (S3.at 0 rfl)⟩, fun D hD => ?_⟩
        refine lc_list (fun i H' => ∃ ws : List Str, ws.length = i ∧ (∀ x ∈ ws, One x) ∧ Z.Hs [(D, .lst (ws.map .str)), (g, .lst (ys.map .int)), (q, .lst (zs.map .str)), (q1, .lst (xs.map .int))] H H') ⟨[], rfl, fun x h => (nomatch h), S3.new hD⟩ (fun i H' hi ⟨ws, _, _, S4⟩ => SqL.of (S4.at 1 rfl)) ?_ ?_
        · rintro j x H4 hx ⟨ws, hw, ow, S4⟩
          rw [List.getElem?_map] at hx
          obtain ⟨y, hy', rfl⟩ := Option.map_eq_some_iff.mp hx
          obtain ⟨y0, y1⟩ := yb y (List.mem_of_getElem? hy')
          have hjl : j < ys.length := (List.getElem?_eq_some_iff.mp hy').1
          refine ⟨rfl, ?_⟩
          walk_at "z"
          have eL : LET.length = 26 := by decide +kernel
          refine Z.ixS (by rw [eL]; decide) y0 (by rw [eL]; exact y1) fun c hc => ?_
          walk_at "z"
          refine ⟨_, S4.at 0 rfl, by rw [List.length_map]; exact Nat.lt_of_le_of_lt (show ws.length ≤ 1000 by omega) (by decide), ws ++ [⟨#[c]⟩], by simp; omega, fun y hy => ?_, by rw [List.map_append]; exact S4.set 0 rfl _⟩
          rcases List.mem_append.mp hy with h | h
          · exact ow y h
          · rw [List.mem_singleton.mp h]; exact ⟨c, rfl, List.mem_of_getElem? hc⟩
        · rintro H4 ⟨ws, hw, ow, S4⟩
          rw [List.length_map] at hw
          obtain ⟨j1, j2, j3⟩ := join_one ws ow
          walk_at "z"
          refine ⟨_, D, ws, rfl, rfl, .inl (SqL.of (S4.at 0 rfl)), by rw [j3]; show ws.length + ws.length * 0 ≤ _; omega, ?_⟩
          walk_at "z"
          refine ⟨q, _, _, rfl, rfl, S4.at 2 rfl, by rw [List.length_map]; exact Nat.lt_of_le_of_lt (show zs.length ≤ 1000 by omega) (by decide), ?_⟩
          walk_at "z"
          have S5 : Z.Hs [(q, .lst (zs.map .str ++ [.str (Txt.join "" ws)])), (q1, .lst (xs.map .int))] H _ := (S4.set 2 rfl (.lst (zs.map .str ++ [.str (Txt.join "" ws)]))).pick [2, 3] (by decide) rfl
          refine ⟨zs ++ [Txt.join "" ws], _, _, _, _, rfl, by simp; omega, fun y hy => ?_, by rw [List.map_append]; exact S5⟩
          rcases List.mem_append.mp hy with h | h
          · exact hz y h
          · rw [List.mem_singleton.mp h]; exact ⟨by rw [j1]; omega, by rw [j1]; omega, j2⟩
    · rintro σ H2 ⟨zs, v7, v8, v9, v10, rfl, hl, hz, S⟩
      walk_at "z"
      exact k H2 q zs hl hz (S.pick [0] (by decide) rfl)
def sp_law_value (K : PySem.W.Frag) (A : Adr) : Sp := fun vs H Q _ => ∃ kd d, vs = [.str kd, .int d] ∧ 0 ≤ d ∧ ((kd = "word" ∧ ∀ z H', Name z → Same H H' → Q (.str z) H') ∨ (kd = "number" ∧ ∀ i H', -(10 ^ 9) ≤ i → i ≤ 10 ^ 9 → Same H H' → Q (.int i) H'))
theorem ok_law_value (T : Txt K mg A) : ∃ fd, FnOk P w K mg base CX0 3 A.f_law_value fd ["_law_kind", "_law_draw"] (sp_law_value K A) ∧ Binds K fd ["_law_kind", "_law_draw"] [] := by
  have ⟨fd, F, b⟩ := T.d_law_value
  refine ⟨fd, F.ok sc_law_value (fun vs H Q E h => ?_) (fun cdv Ar outer s H vs Q E hr h => ?_), b⟩
  · obtain ⟨kd, d, rfl, _⟩ := h
    rfl
  · obtain ⟨kd, d, rfl, hd, h⟩ := h
    have nd := sc_law_value.nd
    have hu := hu_of hr
    have ⟨fd_law_names, G_law_names, b_law_names⟩ := ok_law_names (P := P) (w := w) (base := base) T
    refine ⟨_, (pss_cons (ps_if (pt_cmpR op_eq (pv 0) pe_str (nomark _)) (pss_one (ps_ret (pe_ix ix_list (pe_call G_law_names (hr.mono (by decide)) (by rfl) T.g_law_names T.d_law_names.kp b_law_names .nil pass0 (pa_cons (pe_op op_fdivW (pv 1) pe_int) (pa_cons (pe_op op_add pe_int (pe_op op_mod (pv 1) pe_int)) pa_nil))) (pe_op op_mod (pv 1) pe_int) (fun _ _ => rfl)))) pss_nil)
      (pss_cons (ps_set (i := 2) nd rfl (Or.inl rfl) (pe_ix ix_list (pe_lst (pa_cons (pe_op op_mod (pv 1) pe_int) (pa_cons (pe_op op_mod (pv 1) (pe_op op_add (pe_op op_pow pe_int pe_int) pe_int)) (pa_cons (pe_op op_sub (pe_op op_pow pe_int pe_int) (pe_op op_mod (pv 1) pe_int)) pa_nil)))) (pe_op op_mod (pe_op op_fdivW (pv 1) pe_int) pe_int) (fun _ _ => rfl)))
      (pss_one (ps_ret (pe_op op_mul (pv 2) (pe_ix ix_list (pe_lst (pa_cons pe_int (pa_cons (pe_un un_neg pe_int) pa_nil))) (pe_op op_mod (pe_op op_fdivW (pv 1) pe_int) pe_int) (fun _ _ => rfl))))))), ?_⟩
    simp only [cxOf, Cx.nox, L2.start, List.map_cons, List.map_nil, List.length_cons, List.length_nil, Nat.reduceAdd, Nat.reduceSub, List.replicate, List.cons_append, List.nil_append]
    rcases h with ⟨rfl, k⟩ | ⟨rfl, k⟩
    · walk_at "z"
      obtain ⟨m, hm, m3⟩ : ∃ m : Nat, d % 3 = (m : Int) ∧ m < 3 := ⟨(d % 3).toNat, by omega, by omega⟩
      rw [hm]
      refine ⟨d / 3, 1 + m, rfl, by omega, fun H1 q zs hl hz S => ?_⟩
      have g0 : zs[m]? = some (zs[m]'(by omega)) := List.getElem?_eq_getElem _
      walk_at "z"
      rw [hm]
      refine Z.ixL (SqL.of (S.at 0 rfl)) (by rw [List.getElem?_map, g0]; rfl) ?_
      walk_at "z"
      exact k _ _ (hz _ (List.mem_of_getElem? g0)) S.same
    · walk_at "z"
      refine ⟨by simp only [List.length_cons, List.length_nil]; decide, fun p1 hp1 => ?_⟩
      walk_at "z"
      refine Z.ixAll (G := fun v => ∃ k, v = .int k ∧ 0 ≤ k ∧ k ≤ 10 ^ 9) (SqL.of upd_same) (by omega) (by simp only [List.length_cons, List.length_nil]; omega) (fun v hv => ?_) (fun v ⟨s, e, hs0, hs1⟩ _ => ?_)
      · simp only [List.mem_cons, List.not_mem_nil, or_false] at hv
        rcases hv with h | h | h
        · exact ⟨_, h, by omega, by omega⟩
        · refine ⟨_, h, Int.emod_nonneg _ (by decide), ?_⟩
          have := Int.emod_lt_of_pos d (show (0 : Int) < 10 ^ Int.toNat 9 + 1 by decide)
          have e9 : (10 : Int) ^ Int.toNat 9 = 10 ^ 9 := rfl
          omega
        · have e9 : (10 : Int) ^ Int.toNat 9 = 10 ^ 9 := rfl
          exact ⟨_, h, by omega, by omega⟩
      subst e
      walk_at "z"
      refine ⟨_, rfl, ?_⟩
      walk_at "z"
      refine ⟨by simp only [List.length_cons, List.length_nil]; decide, fun p2 hp2 => ?_⟩
      walk_at "z"
      refine Z.ixAll (G := fun v => ∃ k, v = .int k ∧ (k = 1 ∨ k = -1)) (SqL.of upd_same) (by omega) (by simp only [List.length_cons, List.length_nil]; omega) (fun v hv => ?_) (fun v ⟨t, e, ht⟩ _ => ?_)
      · simp only [List.mem_cons, List.not_mem_nil, or_false] at hv
        rcases hv with h | h
        · exact ⟨_, h, .inl rfl⟩
        · exact ⟨_, h, .inr rfl⟩
      subst e
      walk_at "z"
      have sm := (Z.same_new (o := .lst [.int (d % 5), .int (d % (10 ^ Int.toNat 9 + 1)), .int (10 ^ Int.toNat 9 - d % 3)]) hp1).trans (Z.same_new (o := .lst [.int 1, .int (-1)]) hp2)
      rcases ht with rfl | rfl
      · exact k _ _ (by omega) (by omega) sm
      · exact k _ _ (by omega) (by omega) sm
/-- a value told: a number, a word, nothing -/
def Told (v : V) : Prop := v = .non ∨ (∃ i, v = .int i) ∨ ∃ z, v = .str z
def sp_law_same (K : PySem.W.Frag) (A : Adr) : Sp := fun vs H Q _ => ∃ v, vs = [v, v] ∧ Told v ∧ Q (.bl true) H
theorem ok_law_same (T : Txt K mg A) : ∃ fd, FnOk P w K mg base CX0 1 A.f_law_same fd ["_law_found", "_law_due"] (sp_law_same K A) ∧ Binds K fd ["_law_found", "_law_due"] [] := by
  have ⟨fd, F, b⟩ := T.d_law_same
  refine ⟨fd, F.ok sc_law_same (fun vs H Q E h => ?_) (fun cdv Ar outer s H vs Q E hr h => ?_), b⟩
  · obtain ⟨v, rfl, _⟩ := h
    rfl
  · obtain ⟨v, rfl, h, k⟩ := h
    have nd := sc_law_same.nd
    have hu := hu_of hr
    refine ⟨_, (pss_cons (ps_if (PW.pt (pw_or (pt_cmpR op_isN (pv 1) pe_non (nomark _)) (pw_or1 (pt_cmpR op_isN (pv 0) pe_non (nomark _))))) (pss_one (ps_ret (pe_and (pe_cmpR op_isN (pv 0) pe_non (nomark _)) (pe_one (pe_cmpR op_isN (pv 1) pe_non (nomark _)))))) pss_nil)
      (pss_one (ps_ret (pe_and (pe_cmpR op_eq (pv 0) (pv 1) (nomark _)) (pe_and (pe_cmpR op_eq (pe_callB call_isi (by rfl) T.b_isinstance (by decide +kernel) (pa_cons (pv 0) (pa_cons (pe_bltn (v := .ty "str") (u := .type "str") (by rfl) T.b_str (by decide +kernel) rfl) pa_nil))) (pe_callB call_isi (by rfl) T.b_isinstance (by decide +kernel) (pa_cons (pv 1) (pa_cons (pe_bltn (v := .ty "str") (u := .type "str") (by rfl) T.b_str (by decide +kernel) rfl) pa_nil))) (nomark _)) (pe_one (pe_not (pe_callB call_isi (by rfl) T.b_isinstance (by decide +kernel) (pa_cons (pv 0) (pa_cons (pe_bltn (v := .ty "bool") (u := .type "bool") (by rfl) T.b_bool (by decide +kernel) rfl) pa_nil)))))))))), ?_⟩
    simp only [cxOf, Cx.nox, L2.start, List.map_cons, List.map_nil, List.length_cons, List.length_nil, Nat.reduceAdd, Nat.reduceSub, List.replicate, List.cons_append, List.nil_append]
    rcases h with rfl | ⟨i, rfl⟩ | ⟨z, rfl⟩
    · walk_at "z"
      exact k
    · walk_at "z"
      exact k
    · walk_at "z"
      exact k
theorem call_isiK {X : Cx} {K : PySem.W.Frag} (h : X.K = K) : CallR X (.builtin "isinstance") (rIsi K) := by
  subst h
  exact call_isi
theorem eqBools2 {H : Hp} {Q : VK} {a b : Addr} {x y : Bool} (ha : SqL K H a [.bl x, .bl y]) (hb : SqL K H b [.bl x, .bl y]) (k : Q (.bl true) H) : rEqD K (.ref a) (.ref b) H Q := by
  refine ⟨_, _, .lst ha (.cons (.bl x) (.cons (.bl y) .nil)), .lst hb (.cons (.bl x) (.cons (.bl y) .nil)), by cases x <;> cases y <;> decide +kernel, by cases x <;> cases y <;> decide +kernel, ?_⟩
  rw [show PyData.eqv (.list [.bool x, .bool y]) (.list [.bool x, .bool y]) = true by cases x <;> cases y <;> decide +kernel]
  exact k
def sp_law_truths (K : PySem.W.Frag) (A : Adr) : Sp := fun vs H Q _ => ∃ v wh nm, vs = [v, .bl wh, .bl nm] ∧ Whole H v wh ∧ Named H v nm ∧ ∀ H', Same H H' → Q (.bl true) H'
theorem ok_law_truths (T : Txt K mg A) : ∃ fd, FnOk P w K mg base CX0 2 A.f_law_truths fd ["_law_thing", "_law_whole", "_law_name"] (sp_law_truths K A) ∧ Binds K fd ["_law_thing", "_law_whole", "_law_name"] [] := by
  have ⟨fd, F, b⟩ := T.d_law_truths
  refine ⟨fd, F.ok sc_law_truths (fun vs H Q E h => ?_) (fun cdv Ar outer s H vs Q E hr h => ?_), b⟩
  · obtain ⟨v, wh, nm, rfl, _⟩ := h
    rfl
  · obtain ⟨v, wh, nm, rfl, hw, hn, k⟩ := h
    have nd := sc_law_truths.nd
    have hu := hu_of hr
    have ⟨fd_is_name, G_is_name, b_is_name⟩ := ok_is_name (P := P) (w := w) (base := base) T
    have ⟨fd_is_whole, G_is_whole, b_is_whole⟩ := ok_is_whole (P := P) (w := w) (base := base) T
    refine ⟨_, (pss_cons (ps_set (i := 3) nd rfl (Or.inl rfl) (pe_lst (pa_cons (pe_call G_is_whole (hr.mono (by decide)) (by rfl) T.g_is_whole T.d_is_whole.kp b_is_whole .nil pass0 (pa_cons (pv 0) pa_nil)) (pa_cons (pe_call G_is_name (hr.mono (by decide)) (by rfl) T.g_is_name T.d_is_name.kp b_is_name .nil pass0 (pa_cons (pv 0) pa_nil)) pa_nil))))
      (pss_one (ps_ret (pe_and (pe_cmpR (op_eqD hr.units) (pe_lc (own := [("_law_truth", 4)]) rfl nd (pi_list (pv 3)) (blkOk_by (own := [("_law_truth", 4)]) (N := ["_law_thing", "_law_whole", "_law_name", "_law_told", "_law_truth"]) (sc := defScope s_law_truths) (by decide +kernel)) (fun _ _ _ _ _ => pg_name (i := 4) nd rfl (Or.inl rfl)) (fun _ _ _ _ _ => pts_one (pt_not (pt_val (pe_callB (call_isiK (K := K) rfl) (by rfl) T.b_isinstance (by decide +kernel) (pa_cons (pv 4) (pa_cons (pe_bltn (v := .ty "bool") (u := .type "bool") (by rfl) T.b_bool (by decide +kernel) rfl) pa_nil)))))) (fun _ _ _ _ _ => (pv 4))) (pe_lst pa_nil) (nomark _)) (pe_one (pe_cmpR (op_eqD hr.units) (pv 3) (pe_lst (pa_cons (pv 1) (pa_cons (pv 2) pa_nil))) (nomark _))))))), ?_⟩
    simp only [cxOf, Cx.nox, L2.start, List.map_cons, List.map_nil, List.length_cons, List.length_nil, Nat.reduceAdd, Nat.reduceSub, List.replicate, List.cons_append, List.nil_append]
    walk_at "z"
    refine ⟨v, wh, rfl, hw, ?_⟩
    walk_at "z"
    refine ⟨v, nm, rfl, hn, ?_⟩
    walk_at "z"
    refine ⟨by simp only [List.length_cons, List.length_nil]; decide, fun l hl => ?_⟩
    have S0 := Z.Hs.nil.new (H := H) (o := .lst [.bl wh, .bl nm]) hl
    walk_at "z"
    refine ⟨.ref l, rfl, l, rfl, ⟨_, SqL.of (S0.at 0 rfl)⟩, fun D hD => ?_⟩
    refine lc_list (fun i H' => Z.Hs [(D, .lst []), (l, .lst [.bl wh, .bl nm])] H H') (S0.new hD) (fun i H' hi S4 => SqL.of (S4.at 1 rfl)) ?_ ?_
    · rintro j x H4 hx S4
      have hx' : ∃ b, x = .bl b := by
        have m := List.mem_of_getElem? hx
        simp only [List.mem_cons, List.not_mem_nil, or_false] at m
        rcases m with m | m
        · exact ⟨_, m⟩
        · exact ⟨_, m⟩
      obtain ⟨b, rfl⟩ := hx'
      refine ⟨rfl, ?_⟩
      walk_at "z"
      exact S4
    · rintro H4 S4
      walk_at "z"
      refine ⟨Nat.zero_le _, fun p hp => ?_⟩
      have S5 := S4.new (o := .lst []) hp
      refine Z.eqStrs (xs := []) (SqL.of (S5.at 1 rfl)) (SqL.of (S5.at 0 rfl)) (fun x h => nomatch h) ?_
      walk_at "z"
      refine ⟨by simp only [List.length_cons, List.length_nil]; decide, fun p2 hp2 => ?_⟩
      have S6 := S5.new (o := .lst [.bl wh, .bl nm]) hp2
      refine eqBools2 (SqL.of (S6.at 3 rfl)) (SqL.of (S6.at 0 rfl)) ?_
      exact k _ S6.same
theorem lc_str {z : Str} {g : TG} {tt : TT} {te : TE} {vs : List Nat} {σ : L2.St} {H1 : Hp} {D : Addr} {Qd : Hp → Prop} (Pv : Nat → Hp → Prop) (h0 : Pv 0 (upd H1 D (.lst [])))
    (hs : ∀ i c H, z.cps[i]? = some c → Pv i H → g (.str ⟨#[c]⟩) (wipe σ vs) H fun σ2 H2 => wipe σ2 vs = wipe σ vs ∧ tt σ2 H2 fun b H3 =>
      if b = true then te σ2 H3 fun y H4 => ∃ acc, H4 D = some (.lst acc) ∧ acc.length < sizeLine ∧ Pv (i + 1) (upd H4 D (.lst (acc ++ [y]))) else Pv (i + 1) H3) (hd : ∀ H, Pv z.cps.size H → Qd H) :
    ∃ W : Nat → Nat → Hp → Prop, (∃ m, W 0 m (upd H1 D (.lst []))) ∧ ∀ i m H, W i m H →
      ((Its z).stop i H ∧ Qd H) ∨ ((Its z).go i H ∧ ∃ Nx : Hp → Prop, (∀ H', Nx H' → ∃ m', m' < m ∧ W (i + 1) m' H') ∧ ∀ x H', (Its z).yld i H x H' → g x (wipe σ vs) H' fun σ2 H2 => wipe σ2 vs = wipe σ vs ∧ tt σ2 H2 fun b H3 =>
        if b = true then te σ2 H3 fun y H4 => ∃ acc, H4 D = some (.lst acc) ∧ acc.length < sizeLine ∧ Nx (upd H4 D (.lst (acc ++ [y]))) else Nx H3) := by
  refine ⟨fun i m H => m = z.cps.size - i ∧ i ≤ z.cps.size ∧ Pv i H, ⟨z.cps.size, by simp, Nat.zero_le _, h0⟩, ?_⟩
  rintro i m H ⟨rfl, hi, p⟩
  by_cases hlt : i < z.cps.size
  · refine .inr ⟨hlt, Pv (i + 1), fun H' p' => ⟨z.cps.size - (i + 1), by omega, rfl, hlt, p'⟩, fun x H' y => ?_⟩
    obtain ⟨e, c, hc, y⟩ := y
    subst e y
    exact hs i c _ hc p
  · have e : i = z.cps.size := by omega
    subst e
    exact .inl ⟨Nat.le_refl _, hd H p⟩
/-- the signs of a text that are not of S, each a text, up to a place -/
def outs (S z : Str) (n : Nat) : List Str := ((z.cps.toList.take n).filter (fun c => !decide (c ∈ S.cps.toList))).map (fun c => ⟨#[c]⟩)
theorem outs_len (S z : Str) (n : Nat) : (outs S z n).length ≤ z.length := by
  unfold outs
  rw [List.length_map, ← len_toList]
  exact Nat.le_trans (List.length_filter_le _ _) (by rw [List.length_take]; omega)
theorem outs_in {S z : Str} {i c : Nat} (h : z.cps[i]? = some c) (hc : c ∈ S.cps.toList) : outs S z (i + 1) = outs S z i := by
  have e : z.cps.toList[i]? = some c := by rw [Array.getElem?_toList]; exact h
  unfold outs
  have hc' : c ∈ S.cps := by simpa using hc
  rw [List.take_add_one, e, List.filter_append]
  simp [hc']
theorem outs_out {S z : Str} {i c : Nat} (h : z.cps[i]? = some c) (hc : ¬ c ∈ S.cps.toList) : outs S z (i + 1) = outs S z i ++ [⟨#[c]⟩] := by
  have e : z.cps.toList[i]? = some c := by rw [Array.getElem?_toList]; exact h
  unfold outs
  have hc' : ¬ c ∈ S.cps := by simpa using hc
  rw [List.take_add_one, e, List.filter_append, List.map_append]
  simp [hc']
theorem outs_nil {S z : Str} : outs S z z.cps.size = [] ↔ InS S z := by
  unfold outs
  rw [List.map_eq_nil_iff, List.filter_eq_nil_iff, List.take_of_length_le (by simp)]
  exact ⟨fun h c hc => by simpa using h c hc, fun h c hc => by simpa using h c hc⟩
theorem outs_ok {S z : Str} {n : Nat} (h : PyData.strOk z = true) : ∀ x ∈ outs S z n, PyData.strOk x = true := fun x hx => by
  obtain ⟨c, hc, rfl⟩ := List.mem_map.mp hx
  have hz : c ∈ z.cps.toList := List.mem_of_mem_take (List.mem_filter.mp hc).1
  unfold PyData.strOk at *
  rw [Array.all_eq_true_iff_forall_mem] at h
  have := h c (by simpa using hz)
  simpa using this
theorem neNil {K : PySem.W.Frag} {H : Hp} {Q : VK} {a b : Addr} {xs : List Str} (ha : SqL K H a (xs.map V.str)) (hb : SqL K H b []) (h : ∀ x ∈ xs, PyData.strOk x = true) (hx : xs ≠ []) (k : Q (.bl true) H) : rNeD K (.ref a) (.ref b) H Q := by
  refine ⟨_, _, .lst ha (Z.dp_strs xs), .lst hb .nil, Z.shaped_strs h, Z.shaped_strs (xs := []) (fun x h => nomatch h), ?_⟩
  cases xs with
  | nil => exact (hx rfl).elim
  | cons x r =>
    rw [show PyData.eqv (.list ((x :: r).map PyData.str)) (.list []) = false by rw [PyData.eqv, List.map_cons, PyData.eqvAll]]
    exact k
def sp_law_word (K : PySem.W.Frag) (A : Adr) : Sp := fun vs H Q _ => ∃ z, vs = [.str z] ∧ PyData.strOk z = true ∧ z.length ≤ 600 ∧ ∀ H', Same H H' → Q (optS (if Name z then some z else none)) H'
theorem ok_law_word (T : Txt K mg A) : ∃ fd, FnOk P w K mg base CX0 1 A.f_law_word fd ["_law_text"] (sp_law_word K A) ∧ Binds K fd ["_law_text"] [] := by
  have ⟨fd, F, b⟩ := T.d_law_word
  refine ⟨fd, F.ok sc_law_word (fun vs H Q E h => ?_) (fun cdv Ar outer s H vs Q E hr h => ?_), b⟩
  · obtain ⟨z, rfl, _⟩ := h
    rfl
  · obtain ⟨z, rfl, ok, hz, k⟩ := h
    have nd := sc_law_word.nd
    have hu := hu_of hr
    refine ⟨_, (pss_cons (ps_set (i := 1) nd rfl (Or.inr rfl) pe_str)
      (pss_cons (ps_if (PW.pt (pw_or (pt_cmpR op_eq (pv 0) pe_str (nomark _)) (pw_or (pt_cmpR op_gt (pe_callB call_len_str (by rfl) T.b_len PySem.boot_len (pa_cons (pv 0) pa_nil)) pe_int (nomark _)) (pw_or1 (pt_cmpR (op_neD hr.units) (pe_lc (own := [("_law_sign", 2)]) rfl nd (pi_str (pv 0)) (blkOk_by (own := [("_law_sign", 2)]) (N := ["_law_text", "_law_letters", "_law_sign"]) (sc := defScope s_law_word) (by decide +kernel)) (fun _ _ _ _ _ => pg_name (i := 2) nd rfl (Or.inl rfl)) (fun _ _ _ _ _ => pts_one (pt_cmpR op_notIn_sign (pv 2) (pv 1) (by rfl))) (fun _ _ _ _ _ => (pv 2))) (pe_lst pa_nil) (nomark _)))))) (pss_one (ps_ret pe_non)) pss_nil)
      (pss_one (ps_ret (pv 0))))), ?_⟩
    simp only [cxOf, Cx.nox, L2.start, List.map_cons, List.map_nil, List.length_cons, List.length_nil, Nat.reduceAdd, Nat.reduceSub, List.replicate, List.cons_append, List.nil_append]
    walk_at "z"
    refine Z.iteD (fun h1 => ?_) (fun h1 => ?_)
    · have e : z = "" := V.str.inj h1
      walk_at "z"
      have := k H fun _ _ e => e
      rw [if_neg (fun n => by have := n.1; rw [e] at this; exact absurd this (by decide))] at this
      exact this
    · walk_at "z"
      refine ⟨z, rfl, Nat.le_trans hz (by decide), ?_⟩
      walk_at "z"
      refine Z.iteD (fun h2 => ?_) (fun h2 => ?_)
      · walk_at "z"
        have := k H fun _ _ e => e
        rw [if_neg (fun n => by have := n.2.1; omega)] at this
        exact this
      · walk_at "z"
        refine ⟨.str z, rfl, z, rfl, fun D hD => ?_⟩
        refine lc_str (fun i H' => Z.Hs [(D, .lst ((outs LET z i).map .str))] H H') (Z.Hs.nil.new hD) ?_ ?_
        · rintro i c H1 hc S
          refine ⟨rfl, ?_⟩
          walk_at "z"
          refine ⟨c, _, rfl, rfl, ?_⟩
          walk_at "z"
          refine Z.iteN (fun h3 => ?_) (fun h3 => ?_)
          · walk_at "z"
            refine ⟨_, S.at 0 rfl, by rw [List.length_map]; exact Nat.lt_of_le_of_lt (Nat.le_trans (outs_len _ _ _) hz) (by decide), ?_⟩
            rw [outs_out (S := LET) hc h3, List.map_append]
            exact S.set 0 rfl _
          · rw [outs_in (S := LET) hc h3]
            exact S
        · rintro H1 S
          walk_at "z"
          refine ⟨Nat.zero_le _, fun p hp => ?_⟩
          have S5 := S.new (o := .lst []) hp
          by_cases hS : InS LET z
          · have eo := outs_nil.mpr hS
            have a5 := S5.at 1 rfl
            rw [eo] at a5
            refine Z.neStrs (xs := []) (SqL.of a5) (SqL.of (S5.at 0 rfl)) (fun x h => nomatch h) ?_
            walk_at "z"
            have := k _ S5.same
            rw [if_pos ⟨by have := len_pos (z := z) (fun e => h1 (by rw [e])); omega, by omega, hS⟩] at this
            exact this
          · refine neNil (SqL.of (S5.at 1 rfl)) (SqL.of (S5.at 0 rfl)) (outs_ok ok) (fun e => hS (outs_nil.mp e)) ?_
            walk_at "z"
            have := k _ S5.same
            rw [if_neg (fun n => hS n.2.2)] at this
            exact this
theorem cut_a (c : Nat) (r : List Nat) : cutS ⟨(c :: r).toArray⟩ none (some 1) = ⟨#[c]⟩ := by
  have e : HT.sIx (c :: r).length (c :: r).length (some 1) = 1 := (HT.sIx_nat _ _ 1).trans (by simp)
  have hl : (⟨(c :: r).toArray⟩ : Str).length = (c :: r).length := by simp [Str.length]
  unfold cutS
  rw [hl, e]
  simp [HT.sIx_none]
theorem cut_b (c : Nat) (r : List Nat) : cutS ⟨(c :: r).toArray⟩ (some 1) none = ⟨r.toArray⟩ := by
  have e : HT.sIx (c :: r).length 0 (some 1) = 1 := (HT.sIx_nat _ _ 1).trans (by simp)
  have hl : (⟨(c :: r).toArray⟩ : Str).length = (c :: r).length := by simp [Str.length]
  unfold cutS
  rw [hl, e]
  simp [HT.sIx_none]
theorem minus_iff {z : Str} : minus z ↔ z.cps.toList[0]? = some 45 := by
  obtain ⟨⟨l⟩⟩ := z
  cases l with
  | nil => exact ⟨fun h => absurd h (by unfold minus; decide +kernel), fun h => by simp at h⟩
  | cons c r =>
    unfold minus
    rw [cut_a]
    constructor
    · intro h
      rw [one_eq (e := 45) h]
      rfl
    · intro h
      have : c = 45 := by simpa using h
      rw [this]
      rfl
theorem starts_minus (z : Str) : Txt.startswith z "-" = decide (minus z) := by
  have h := PySem.StrLaws.subAt_one z 45 0
  unfold Txt.startswith
  by_cases m : minus z
  · rw [decide_eq_true m]
    obtain ⟨h1, h2⟩ := h.mpr (minus_iff.mp m)
    exact Bool.and_eq_true_iff.mpr ⟨decide_eq_true h1, h2⟩
  · rw [decide_eq_false m]
    refine Bool.eq_false_iff.mpr fun e => m (minus_iff.mpr (h.mp ?_))
    obtain ⟨h1, h2⟩ := Bool.and_eq_true_iff.mp e
    exact ⟨of_decide_eq_true h1, h2⟩
theorem tail_ne {z : Str} (h : minus z) : z ≠ tailS z := by
  unfold tailS
  rw [if_pos h]
  have h' := minus_iff.mp h
  obtain ⟨⟨l⟩⟩ := z
  cases l with
  | nil => simp at h'
  | cons c r =>
    rw [cut_b]
    intro e
    have := congrArg (fun s : Str => s.cps.size) e
    simp at this
theorem dval_lt : ∀ (cs : List Nat) (a : Nat), NumText.AllDigits cs → cs.foldl (fun acc c => acc * 10 + (c - 48)) a < (a + 1) * 10 ^ cs.length
  | [], a, _ => by simp
  | c :: r, a, h => by
    have hc := h.head
    have := dval_lt r (a * 10 + (c - 48)) h.tail
    rw [List.foldl_cons, List.length_cons, Nat.pow_succ]
    refine Nat.lt_of_lt_of_le this ?_
    rw [Nat.mul_comm (10 ^ r.length) 10, ← Nat.mul_assoc]
    exact Nat.mul_le_mul_right _ (by omega)
theorem head_num (n : Nat) : n ≠ 0 → (TL.numL n)[0]? ≠ some 48 := by
  induction n using Nat.strongRecOn with
  | _ n ih =>
    intro h0
    by_cases h : n < 10
    · rw [TL.numL_lt h]
      intro e
      have : 48 + n = 48 := by simpa using e
      omega
    · rw [TL.numL_step (by omega)]
      rw [List.getElem?_append_left (List.length_pos_iff.mpr (TL.numL_ne _))]
      exact ih (n / 10) (by omega) (by omega)
theorem num_of {cs : List Nat} (h : NumText.AllDigits cs) (ne : cs ≠ []) (nz : ¬ (cs[0]? = some 48 ∧ 1 < cs.length)) : TL.numL (NumText.digitsVal cs) = cs := by
  cases cs with
  | nil => exact (ne rfl).elim
  | cons c r =>
    have hc := h.head
    have e := NumText.toDigits_digitsVal r.length (c :: r) rfl h (by
      by_cases hr : r.length = 0
      · exact .inl hr
      · refine .inr ⟨c, r, rfl, ?_⟩
        have : c ≠ 48 := fun e => nz ⟨by rw [e]; rfl, by rw [List.length_cons]; omega⟩
        omega)
    unfold TL.numL
    rw [e, List.map_map]
    refine (List.map_congr_left fun d hd => ?_).trans (List.map_id _)
    have b := h d hd
    have all : ∀ d : Nat, d < 58 → (Char.ofNat d).toNat = d := by decide +kernel
    exact all d (by omega)
theorem log_small2 {n : Nat} (h : n < 10 ^ 12) : n.log2 < 1920 := by
  by_cases e : n = 0
  · subst e; decide
  · exact Nat.lt_of_lt_of_le ((Nat.log2_lt e).mpr (show n < 2 ^ 40 by omega)) (by decide)
theorem figIn_none {f : Str} (h : f = "" ∨ 10 < f.length ∨ (f.cps.toList[0]? = some 48 ∧ 1 < f.length) ∨ ¬ InS FIG f) : figIn f = none := if_pos h
theorem numIn_none {z : Str} (h : figIn (tailS z) = none) : numIn z = none := by unfold numIn; rw [h]
theorem numIn_big {z : Str} {n : Nat} (hn : n = NumText.digitsVal (tailS z).cps.toList) (h : 10 ^ 9 < (n : Int) ∨ z = "-0") : numIn z = none := by
  unfold numIn figIn
  split
  · rfl
  · rename_i m e
    split at e
    · cases e
    · cases e
      rw [← hn, if_pos h]
theorem numIn_ok {z : Str} {n : Nat} (hn : n = NumText.digitsVal (tailS z).cps.toList) (hf : InS FIG (tailS z)) (ne : tailS z ≠ "") (h : ¬ 10 ^ 9 < (n : Int)) (h2 : z ≠ "-0") (et : tailS z = Str.ofString (toString ((n : Nat) : Int))) :
    numIn z = if minus z then some (0 - (n : Int)) else some (n : Int) := by
  have el : (tailS z).cps.toList = TL.numL n := by rw [et]; exact TL.tl_num n
  have l10 : (TL.numL n).length ≤ 10 := TL.numL_len (by decide) (by omega)
  have e1 : figIn (tailS z) = some (n : Int) := by
    unfold figIn
    rw [if_neg, ← hn]
    rintro (h | h | ⟨h, h'⟩ | h)
    · exact ne h
    · rw [← len_toList, el] at h; omega
    · rw [← len_toList, el] at h'
      rw [el] at h
      by_cases n0 : n = 0
      · rw [n0] at h'
        exact absurd h' (by decide +kernel)
      · exact head_num n n0 h
    · exact h hf
  unfold numIn
  rw [e1]
  dsimp only
  rw [if_neg (fun e => e.elim h h2)]
def sp_law_plain (K : PySem.W.Frag) (A : Adr) : Sp := fun vs H Q _ => ∃ z, vs = [.str z] ∧ PyData.strOk z = true ∧ z.length ≤ 600 ∧ ∀ H', Same H H' → Q (optN (numIn z)) H'
theorem ok_law_plain (T : Txt K mg A) : ∃ fd, FnOk P w K mg base CX0 1 A.f_law_plain fd ["_law_text"] (sp_law_plain K A) ∧ Binds K fd ["_law_text"] [] := by
  have ⟨fd, F, b⟩ := T.d_law_plain
  refine ⟨fd, F.ok sc_law_plain (fun vs H Q E h => ?_) (fun cdv Ar outer s H vs Q E hr h => ?_), b⟩
  · obtain ⟨z, rfl, _⟩ := h
    rfl
  · obtain ⟨z, rfl, ok, hz, k⟩ := h
    have nd := sc_law_plain.nd
    have hu := hu_of hr
    refine ⟨_, (pss_cons (ps_set (i := 1) nd rfl (Or.inl rfl) (pv 0))
      (Evl.pss_cut (ps_if (pt_val (pe_m1 PySem.F.slot_str_startswith PySem.F.type_str_startswith mt_startswith (pv 0) pe_str)) (pss_one (ps_set (i := 1) nd rfl (Or.inl rfl) (pe_slice sl_str (pv 0) (po_some pe_int) po_none))) pss_nil)
      (pss_cons (ps_if (PW.pt (pw_or (pt_cmpR op_eq (pv 1) pe_str (nomark _)) (pw_or1 (pt_cmpR (op_neD hr.units) (pe_lc (own := [("_law_sign", 3)]) rfl nd (pi_str (pv 1)) (blkOk_by (own := [("_law_sign", 3)]) (N := ["_law_text", "_law_figures", "_law_number", "_law_sign"]) (sc := defScope s_law_plain) (by decide +kernel)) (fun _ _ _ _ _ => pg_name (i := 3) nd rfl (Or.inl rfl)) (fun _ _ _ _ _ => pts_one (pt_cmpR op_notIn_sign (pv 3) pe_str (by rfl))) (fun _ _ _ _ _ => (pv 3))) (pe_lst pa_nil) (nomark _))))) (pss_one (ps_ret pe_non)) pss_nil)
      (pss_cons (ps_if (PW.pt (pw_or (pt_cmpR op_gt (pe_callB call_len_str (by rfl) T.b_len PySem.boot_len (pa_cons (pv 1) pa_nil)) pe_int (nomark _)) (pw_or (pt_cmpR op_ne (pv 1) (pe_callTy call_strA (by rfl) T.b_str (by decide +kernel) (pa_cons (pe_callTy call_int_str (by rfl) T.b_int (by decide +kernel) (pa_cons (pv 1) pa_nil)) pa_nil)) (nomark _)) (pw_or1 (pt_cmpR op_eq (pv 0) pe_str (nomark _)))))) (pss_one (ps_ret pe_non)) pss_nil)
      (pss_cons (ps_set (i := 2) nd rfl (Or.inl rfl) (pe_op op_mul (pe_callTy call_int_str (by rfl) T.b_int (by decide +kernel) (pa_cons (pv 1) pa_nil)) (pe_ix ix_list (pe_lst (pa_cons pe_int (pa_cons (pe_un un_neg pe_int) pa_nil))) (pe_callTy call_int1 (by rfl) T.b_int (by decide +kernel) (pa_cons (pe_cmpR op_ne (pv 0) (pv 1) (nomark _)) pa_nil)) (fun _ _ => rfl))))
      (pss_cons (ps_if (PW.pt (pw_or (pt_cmpR op_lt (pv 2) (pe_op op_sub pe_int (pe_op op_pow pe_int pe_int)) (nomark _)) (pw_or1 (pt_cmpR op_gt (pv 2) (pe_op op_pow pe_int pe_int) (nomark _))))) (pss_one (ps_ret pe_non)) pss_nil)
      (pss_one (ps_ret (pv 2))))))))), ?_⟩
    simp only [cxOf, Cx.nox, L2.start, List.map_cons, List.map_nil, List.length_cons, List.length_nil, Nat.reduceAdd, Nat.reduceSub, List.replicate, List.cons_append, List.nil_append]
    have okf : PyData.strOk (tailS z) = true := by
      unfold tailS
      split
      · exact Z.ok_cut ok
      · exact ok
    walk_at "z"
    refine Z.cut (M := fun σ' H' => σ' = [some (.str z), some (.str (tailS z)), none, none] ∧ H' = H) ?_ ?_
    · walk_at "z"
      refine ⟨⟨_, rfl⟩, z, _, rfl, rfl, ?_⟩
      rw [starts_minus]
      refine ⟨_, rfl, ?_⟩
      refine Z.iteD (fun m => ?_) (fun m => ?_)
      · walk_at "z"
        refine Z.slS (by omega) ?_
        walk_at "z"
        exact ⟨by rw [show tailS z = cutS z (some 1) none from if_pos m]; rfl, rfl⟩
      · walk_at "z"
        exact ⟨by rw [show tailS z = z from if_neg m]; rfl, rfl⟩
    · rintro σ' H1 ⟨rfl, eH⟩
      subst eH
      have hf6 : (tailS z).length ≤ 600 := tail_len hz
      walk_at "z"
      refine Z.iteD (fun h1 => ?_) (fun h1 => ?_)
      · walk_at "z"
        have := k H1 fun _ _ e => e
        rw [numIn_none (figIn_none (.inl (V.str.inj h1)))] at this
        exact this
      · have ne : tailS z ≠ "" := fun e => h1 (by rw [e])
        walk_at "z"
        refine ⟨.str (tailS z), rfl, tailS z, rfl, fun D hD => ?_⟩
        refine lc_str (fun i H' => Z.Hs [(D, .lst ((outs FIG (tailS z) i).map .str))] H1 H') (Z.Hs.nil.new hD) ?_ ?_
        · rintro i c H2 hc S
          refine ⟨rfl, ?_⟩
          walk_at "z"
          refine ⟨c, _, rfl, rfl, ?_⟩
          walk_at "z"
          refine Z.iteN (fun h3 => ?_) (fun h3 => ?_)
          · walk_at "z"
            refine ⟨_, S.at 0 rfl, by rw [List.length_map]; exact Nat.lt_of_le_of_lt (Nat.le_trans (outs_len _ _ _) hf6) (by decide), ?_⟩
            rw [outs_out (S := FIG) hc h3, List.map_append]
            exact S.set 0 rfl _
          · rw [outs_in (S := FIG) hc h3]
            exact S
        · rintro H2 S
          walk_at "z"
          refine ⟨Nat.zero_le _, fun p hp => ?_⟩
          have S5 := S.new (o := .lst []) hp
          by_cases hS : InS FIG (tailS z)
          · have eo := outs_nil.mpr hS
            have a5 := S5.at 1 rfl
            rw [eo] at a5
            refine Z.neStrs (xs := []) (SqL.of a5) (SqL.of (S5.at 0 rfl)) (fun x h => nomatch h) ?_
            walk_at "z"
            refine ⟨tailS z, rfl, Nat.le_trans hf6 (by decide), ?_⟩
            walk_at "z"
            have k5 := k _ S5.same
            refine Z.iteD (fun h2 => ?_) (fun h2 => ?_)
            · walk_at "z"
              rw [numIn_none (figIn_none (.inr (.inl (by omega))))] at k5
              exact k5
            · obtain ⟨n, hn⟩ : ∃ n, n = NumText.digitsVal (tailS z).cps.toList := ⟨_, rfl⟩
              have it : PySem.intText? (tailS z) = some (n : Int) := by rw [hn]; exact intText_digits (dig_of hS) (fun e => ne (str_nil e)) (by omega)
              have n12 : n < 10 ^ 12 := by
                have := dval_lt (tailS z).cps.toList 0 (dig_of hS)
                have l : (tailS z).cps.toList.length ≤ 12 := by rw [len_toList]; omega
                have p : 10 ^ (tailS z).cps.toList.length ≤ 10 ^ 12 := Nat.pow_le_pow_right (by decide) l
                have e : n = (tailS z).cps.toList.foldl (fun acc c => acc * 10 + (c - 48)) 0 := hn
                omega
              walk_at "z"
              refine ⟨tailS z, _, rfl, it, by omega, ?_⟩
              walk_at "z"
              refine ⟨_, _, rfl, .inl ⟨_, rfl, log_small2 (show ((n : Nat) : Int).natAbs < 10 ^ 12 by omega), rfl⟩, ?_⟩
              walk_at "z"
              refine Z.iteN (fun h3 => ?_) (fun h3 => ?_)
              · walk_at "z"
                rw [numIn_none (figIn_none (.inr (.inr (.inl (by
                  refine Classical.byContradiction fun nz => h3 (congrArg V.str (TL.ext_tl ?_))
                  have e := num_of (dig_of hS) (fun e => ne (str_nil e)) (fun e => nz ⟨e.1, by have := e.2; rwa [len_toList] at this⟩)
                  rw [← hn] at e
                  exact e.symm.trans (TL.tl_num n).symm)))))] at k5
                exact k5
              · have et : tailS z = Str.ofString (toString ((n : Nat) : Int)) := V.str.inj h3
                walk_at "z"
                refine Z.iteD (fun h4 => ?_) (fun h4 => ?_)
                · walk_at "z"
                  rw [numIn_big hn (.inr (V.str.inj h4))] at k5
                  exact k5
                · have n0 : z ≠ "-0" := fun e => h4 (by rw [e])
                  walk_at "z"
                  refine ⟨tailS z, _, rfl, it, by omega, ?_⟩
                  walk_at "z"
                  refine ⟨_, rfl, ?_⟩
                  walk_at "z"
                  refine ⟨by simp only [List.length_cons, List.length_nil]; decide, fun p2 hp2 => ?_⟩
                  have S6 := S5.new (o := .lst [.int 1, .int (-1)]) hp2
                  have k6 := k _ S6.same
                  walk_at "z"
                  refine .inr ⟨_, rfl, ?_⟩
                  by_cases m : minus z
                  · rw [show decide (V.str z = V.str (tailS z)) = false from decide_eq_false fun e => tail_ne m (V.str.inj e)]
                    refine Z.ixL (i := 1) (v := .int (-1)) (SqL.of upd_same) rfl ?_
                    walk_at "z"
                    refine Z.iteD (fun h5 => ?_) (fun h5 => ?_)
                    · have h5' : (n : Int) * (-1) < 0 - 10 ^ 9 := h5
                      walk_at "z"
                      rw [numIn_big hn (.inl (by omega))] at k6
                      exact k6
                    · have h5' : ¬ (n : Int) * (-1) < 0 - 10 ^ 9 := h5
                      walk_at "z"
                      refine Z.iteD (fun h6 => ?_) (fun h6 => ?_)
                      · have h6' : 10 ^ 9 < (n : Int) * (-1) := h6
                        walk_at "z"
                        rw [numIn_big hn (.inl (by omega))] at k6
                        exact k6
                      · have h6' : ¬ 10 ^ 9 < (n : Int) * (-1) := h6
                        walk_at "z"
                        rw [numIn_ok hn hS ne (by omega) n0 et, if_pos m] at k6
                        rw [show (n : Int) * (-1) = 0 - (n : Int) by omega]
                        exact k6
                  · rw [show decide (V.str z = V.str (tailS z)) = true from decide_eq_true (congrArg V.str (show z = tailS z from (if_neg m).symm))]
                    refine Z.ixL (i := 0) (v := .int 1) (SqL.of upd_same) rfl ?_
                    walk_at "z"
                    refine Z.iteD (fun h6 => ?_) (fun h6 => ?_)
                    · have h6' : 10 ^ 9 < (n : Int) * 1 := h6
                      walk_at "z"
                      rw [numIn_big hn (.inl (by omega))] at k6
                      exact k6
                    · have h6' : ¬ 10 ^ 9 < (n : Int) * 1 := h6
                      walk_at "z"
                      rw [numIn_ok hn hS ne (by omega) n0 et, if_neg m] at k6
                      rw [show (n : Int) * 1 = (n : Int) by omega]
                      exact k6
          · refine neNil (SqL.of (S5.at 1 rfl)) (SqL.of (S5.at 0 rfl)) (outs_ok okf) (fun e => hS (outs_nil.mp e)) ?_
            walk_at "z"
            have := k _ S5.same
            rw [numIn_none (figIn_none (.inr (.inr (.inr hS))))] at this
            exact this
theorem ok_mul {z : Str} {n : Int} (h : PyData.strOk z = true) : PyData.strOk (PySem.Txt.mul z n) = true := by
  unfold PySem.Txt.mul
  by_cases c : n < 1
  · rw [if_pos c]; decide +kernel
  · rw [if_neg c]
    by_cases c2 : (n == 1 || z.length == 0) = true
    · rw [if_pos c2]; exact h
    · rw [if_neg c2]
      have gen : ∀ (k : Nat) (a : Array Nat), a.all (· < 0x110000) = true → ((List.replicate k z.cps).foldl (· ++ ·) a).all (· < 0x110000) = true := by
        intro k
        induction k with
        | zero => intro a ha; exact ha
        | succ k ih =>
          intro a ha
          rw [List.replicate_succ, List.foldl_cons]
          refine ih _ ?_
          rw [Array.all_append, ha]
          exact h
      exact gen _ _ (by simp)
def Near (y : Str) : Prop := PyData.strOk y = true ∧ y.length ≤ 40
theorem Near.app {x y : Str} (hx : PyData.strOk x = true) (hy : PyData.strOk y = true) (h : x.length + y.length ≤ 40) : Near (x ++ y) := ⟨Z.ok_app hx hy, by
  show (x.cps ++ y.cps).size ≤ 40
  rw [Array.size_append]
  exact h⟩
theorem app_len (x y : Str) : (x ++ y).length = x.length + y.length := Array.size_append
def SIG : Str := "0179-+ aAz;|:."
theorem sig_ok : ∀ c ∈ SIG.cps.toList, PyData.strOk (⟨#[c]⟩ : Str) = true := by decide +kernel
def sp_law_near (K : PySem.W.Frag) (A : Adr) : Sp := fun vs H Q _ => ∃ (z : Str) (q : Addr) (xs : List Int), vs = [.str z, .ref q] ∧ SqL K H q (xs.map .int) ∧ xs.length = 3 ∧ (∀ x ∈ xs, 0 ≤ x) ∧ PyData.strOk z = true ∧ z.length ≤ 12 ∧
  ∀ H' p (zs : List Str), (∀ y ∈ zs, Near y) → News [(p, .lst (zs.map .str))] H H' → Q (.ref p) H'
theorem ok_law_near (T : Txt K mg A) : ∃ fd, FnOk P w K mg base CX0 1 A.f_law_near fd ["_law_text", "_law_draws_here"] (sp_law_near K A) ∧ Binds K fd ["_law_text", "_law_draws_here"] [] := by
  have ⟨fd, F, b⟩ := T.d_law_near
  refine ⟨fd, F.ok sc_law_near (fun vs H Q E h => ?_) (fun cdv Ar outer s H vs Q E hr h => ?_), b⟩
  · obtain ⟨z, q, xs, rfl, _⟩ := h
    rfl
  · obtain ⟨z, q, xs, rfl, hq, hx, pos, ok, hz, k⟩ := h
    have nd := sc_law_near.nd
    have hu := hu_of hr
    refine ⟨_, (pss_cons (ps_set (i := 2) nd rfl (Or.inl rfl) (pe_op op_mod (pe_ix ix_list (pv 1) pe_int (fun _ _ => rfl)) (pe_op op_add (pe_callB call_len_str (by rfl) T.b_len PySem.boot_len (pa_cons (pv 0) pa_nil)) pe_int)))
      (pss_cons (ps_set (i := 3) nd rfl (Or.inl rfl) (pe_ix ix_str pe_str (pe_op op_mod (pe_ix ix_list (pv 1) pe_int (fun _ _ => rfl)) pe_int) (fun _ _ => rfl)))
      (pss_cons (ps_set (i := 4) nd rfl (Or.inl rfl) (pe_lst (pa_cons (pe_op op_add_str (pe_op op_add_str (pe_slice sl_str (pv 0) po_none (po_some (pv 2))) (pv 3)) (pe_slice sl_str (pv 0) (po_some (pv 2)) po_none)) (pa_cons (pe_op op_add_str (pe_slice sl_str (pv 0) po_none (po_some (pv 2))) (pe_slice sl_str (pv 0) (po_some (pe_op op_add (pv 2) pe_int)) po_none)) (pa_cons (pe_op op_add_str (pv 3) (pv 0)) (pa_cons (pe_op op_add_str (pv 0) (pv 3)) (pa_cons pe_str (pa_cons (pe_op op_add_str (pv 0) (pv 0)) (pa_cons pe_str pa_nil)))))))))
      (pss_one (ps_ret (pe_op op_cat (pv 4) (pe_lst (pa_cons (pe_op op_add_str (pe_op op_add_str (pe_slice sl_str (pv 0) po_none (po_some (pv 2))) (pv 3)) (pe_slice sl_str (pv 0) (po_some (pe_op op_add (pv 2) pe_int)) po_none)) (pa_cons (pe_op Z.op_repS pe_str (pe_op op_mod (pe_ix ix_list (pv 1) pe_int (fun _ _ => rfl)) pe_int)) (pa_cons (pe_op op_add_str pe_str (pe_op Z.op_repS pe_str (pe_op op_mod (pe_ix ix_list (pv 1) pe_int (fun _ _ => rfl)) pe_int))) pa_nil)))))))))), ?_⟩
    simp only [cxOf, Cx.nox, L2.start, List.map_cons, List.map_nil, List.length_cons, List.length_nil, Nat.reduceAdd, Nat.reduceSub, List.replicate, List.cons_append, List.nil_append]
    obtain ⟨a, b, c, rfl⟩ : ∃ a b c, xs = [a, b, c] := by
      match xs, hx with
      | [a, b, c], _ => exact ⟨a, b, c, rfl⟩
    have a0 := pos a (by simp)
    have b0 := pos b (by simp)
    have c0 := pos c (by simp)
    walk_at "z"
    refine Z.ixL (i := 0) hq rfl ?_
    walk_at "z"
    refine ⟨z, rfl, Nat.le_trans hz (by decide), ?_⟩
    walk_at "z"
    refine Z.ixL (i := 1) hq rfl ?_
    walk_at "z"
    have eS : SIG.length = 14 := by decide +kernel
    refine Z.ixS (z := SIG) (by rw [eS]; decide) (by omega) (by rw [eS]; omega) fun g hg => ?_
    have og := sig_ok g (List.mem_of_getElem? hg)
    have lg : (⟨#[g]⟩ : Str).length = 1 := rfl
    walk_at "z"
    generalize a % ((z.length : Int) + 1) = t
    have l1 : (cutS z none (some t)).length ≤ 12 := Nat.le_trans (cut_len _ _ _) hz
    have l2 : (cutS z (some t) none).length ≤ 12 := Nat.le_trans (cut_len _ _ _) hz
    have l3 : (cutS z (some (t + 1)) none).length ≤ 12 := Nat.le_trans (cut_len _ _ _) hz
    refine Z.slS (by omega) ?_
    walk_at "z"
    refine Z.addS (by (try simp only [app_len]); omega) ?_
    walk_at "z"
    refine Z.slS (by omega) ?_
    walk_at "z"
    refine Z.addS (by (try simp only [app_len]); omega) ?_
    walk_at "z"
    refine Z.slS (by omega) ?_
    walk_at "z"
    refine Z.slS (by omega) ?_
    walk_at "z"
    refine Z.addS (by (try simp only [app_len]); omega) ?_
    walk_at "z"
    refine Z.addS (by (try simp only [app_len]); omega) ?_
    walk_at "z"
    refine Z.addS (by (try simp only [app_len]); omega) ?_
    walk_at "z"
    refine Z.addS (by (try simp only [app_len]); omega) ?_
    walk_at "z"
    refine ⟨by simp only [List.length_cons, List.length_nil]; decide, fun p hp => ?_⟩
    walk_at "z"
    refine Z.slS (by omega) ?_
    walk_at "z"
    refine Z.addS (by (try simp only [app_len]); omega) ?_
    walk_at "z"
    refine Z.slS (by omega) ?_
    walk_at "z"
    refine Z.addS (by (try simp only [app_len]); omega) ?_
    walk_at "z"
    refine Z.ixL (i := 2) ((Same.seq (Z.same_new hp)) hq) rfl ?_
    walk_at "z"
    refine ⟨"0", c % 12, rfl, rfl, by decide +kernel, by omega, by omega, fun r1 e1 m1 => ?_⟩
    walk_at "z"
    refine Z.ixL (i := 2) ((Same.seq (Z.same_new hp)) hq) rfl ?_
    walk_at "z"
    refine ⟨"0", c % 12, rfl, rfl, by decide +kernel, by omega, by omega, fun r2 e2 m2 => ?_⟩
    walk_at "z"
    have l0 : ("0" : Str).length = 1 := by decide +kernel
    have l9 : ("1" : Str).length = 1 := by decide +kernel
    rw [l0] at m1 m2
    refine Z.addS (by rw [l9]; omega) ?_
    walk_at "z"
    refine ⟨by simp only [List.length_cons, List.length_nil]; decide, fun p2 hp2 => ?_⟩
    walk_at "z"
    refine ⟨p, p2, _, _, rfl, rfl, (Z.same_new hp2) _ _ upd_same, upd_same, by simp only [List.length_cons, List.length_nil]; decide, fun p3 hp3 => ?_⟩
    have o1 : PyData.strOk (cutS z none (some t)) = true := Z.ok_cut ok
    have o2 : PyData.strOk (cutS z (some t) none) = true := Z.ok_cut ok
    have o3 : PyData.strOk (cutS z (some (t + 1)) none) = true := Z.ok_cut ok
    have q0 : PyData.strOk ("0" : Str) = true := by decide +kernel
    have q1 : PyData.strOk ("1" : Str) = true := by decide +kernel
    have q2 : PyData.strOk ("" : Str) = true := by decide +kernel
    have q3 : PyData.strOk ("-" : Str) = true := by decide +kernel
    have r1o : PyData.strOk r1 = true := by rw [e1]; exact ok_mul q0
    have r2o : PyData.strOk r2 = true := by rw [e2]; exact ok_mul q0
    refine k _ p3 [cutS z none (some t) ++ ⟨#[g]⟩ ++ cutS z (some t) none, cutS z none (some t) ++ cutS z (some (t + 1)) none, ⟨#[g]⟩ ++ z, z ++ ⟨#[g]⟩, "", z ++ z, "-", cutS z none (some t) ++ ⟨#[g]⟩ ++ cutS z (some (t + 1)) none, r1, "1" ++ r2] (fun y hy => ?_) ((Z.Hs.nil.ext ((Z.same_new hp).trans (Z.same_new hp2))).new hp3)
    simp only [List.mem_cons, List.not_mem_nil, or_false] at hy
    rcases hy with rfl | rfl | rfl | rfl | rfl | rfl | rfl | rfl | rfl | rfl
    · exact Near.app (Z.ok_app o1 og) o2 (by rw [app_len]; omega)
    · exact Near.app o1 o3 (by omega)
    · exact Near.app og ok (by omega)
    · exact Near.app ok og (by omega)
    · exact ⟨q2, by decide +kernel⟩
    · exact Near.app ok ok (by omega)
    · exact ⟨q3, by decide +kernel⟩
    · exact Near.app (Z.ok_app o1 og) o3 (by rw [app_len]; omega)
    · exact ⟨r1o, by omega⟩
    · exact Near.app q1 r2o (by rw [l9]; omega)
theorem cutV_int (xs : List Int) (lo hi : Option Int) : ∃ ys : List Int, cutV (xs.map V.int) lo hi = ys.map V.int ∧ ys.length ≤ xs.length := by
  refine ⟨(xs.drop (HT.sIx xs.length 0 lo)).take (HT.sIx xs.length xs.length hi - HT.sIx xs.length 0 lo), ?_, ?_⟩
  · unfold cutV
    rw [List.length_map, List.map_take, List.map_drop]
  · rw [List.length_take, List.length_drop]
    omega
theorem tl_app (s t : String) : (Str.ofString (s ++ t)).cps.toList = (Str.ofString s).cps.toList ++ (Str.ofString t).cps.toList := by
  rw [Str.ofString_eq_toList, Str.ofString_eq_toList, Str.ofString_eq_toList]
  simp
theorem tl_int (i : Int) : (Str.ofString (toString i)).cps.toList = if i < 0 then 45 :: TL.numL i.natAbs else TL.numL i.natAbs := by
  by_cases h : i < 0
  · rw [if_pos h, PyProof.Rows.toString_neg h, tl_app, show (0 - i) = ((i.natAbs : Nat) : Int) by omega]
    have e := TL.tl_num i.natAbs
    rw [show (Str.ofString (toString ((i.natAbs : Nat) : Int))).cps.toList = TL.numL i.natAbs from e, show (Str.ofString "-").cps.toList = [45] by decide +kernel]
    rfl
  · rw [if_neg h]
    have e := TL.tl_num i.natAbs
    rw [show ((i.natAbs : Nat) : Int) = i by omega] at e
    exact e
theorem num_facts {i : Int} (h0 : -(10 ^ 9) ≤ i) (h1 : i ≤ 10 ^ 9) : numIn (Str.ofString (toString i)) = some i ∧ (Str.ofString (toString i)).length ≤ 11 ∧ PyData.strOk (Str.ofString (toString i)) = true := by
  have hd := TL.numL_digits i.natAbs
  have hl : (TL.numL i.natAbs).length ≤ 10 := TL.numL_len (by decide) (by omega)
  have hv := TL.numL_val i.natAbs
  have hn := TL.numL_ne i.natAbs
  have ht := tl_int i
  have fig : FIG.cps.toList = [48, 49, 50, 51, 52, 53, 54, 55, 56, 57] := by decide +kernel
  have hF : ∀ z : Str, z.cps.toList = TL.numL i.natAbs → InS FIG z := fun z e c hc => by
    rw [e] at hc
    have := hd c hc
    rw [fig]
    simp only [List.mem_cons, List.not_mem_nil, or_false]
    omega
  have ok : PyData.strOk (Str.ofString (toString i)) = true := by
    unfold PyData.strOk
    rw [← Array.all_toList, ht, List.all_eq_true]
    intro c hc
    refine decide_eq_true ?_
    split at hc
    · rcases List.mem_cons.mp hc with h | h
      · omega
      · have := hd c h; omega
    · have := hd c hc; omega
  have len : (Str.ofString (toString i)).length ≤ 11 := by
    rw [← len_toList, ht]
    split
    · rw [List.length_cons]; omega
    · omega
  refine ⟨?_, len, ok⟩
  by_cases h : i < 0
  · rw [if_pos h] at ht
    have m : minus (Str.ofString (toString i)) := minus_iff.mpr (by rw [ht]; rfl)
    have et : (tailS (Str.ofString (toString i))).cps.toList = TL.numL i.natAbs := by
      unfold tailS
      rw [if_pos m, show Str.ofString (toString i) = ⟨(45 :: TL.numL i.natAbs).toArray⟩ from TL.ext_tl ht, cut_b]
    rw [numIn_ok (n := i.natAbs) (by rw [et, hv]) (hF _ et) (fun e => hn (by rw [← et, e]; rfl)) (by omega) (fun e => ?_) (TL.ext_tl (et.trans (TL.tl_num i.natAbs).symm)), if_pos m]
    · congr 1
      omega
    · rw [e, show ("-0" : Str).cps.toList = [45, 48] by decide +kernel] at ht
      have h2 : TL.numL 0 = TL.numL i.natAbs := by
        rw [TL.numL_lt (by decide)]
        exact (List.cons.inj ht).2
      have := TL.numL_inj h2
      omega
  · rw [if_neg h] at ht
    have hm : ¬ minus (Str.ofString (toString i)) := fun m => by
      have m' := minus_iff.mp m
      rw [ht] at m'
      have := hd 45 (List.mem_of_getElem? m')
      omega
    have et : tailS (Str.ofString (toString i)) = Str.ofString (toString i) := if_neg hm
    rw [numIn_ok (n := i.natAbs) (by rw [et, ht, hv]) (hF _ (by rw [et, ht])) (fun e => hn (by rw [← ht, ← et, e]; rfl)) (by omega) (fun e => ?_) (by rw [et, show ((i.natAbs : Nat) : Int) = i by omega]), if_neg hm]
    · congr 1
      omega
    · rw [e, show ("-0" : Str).cps.toList = [45, 48] by decide +kernel] at ht
      have := hd 45 (by rw [← ht]; simp)
      omega
theorem let_lt : ∀ c ∈ LET.cps.toList, c < 123 := by decide +kernel
theorem Name.ok {z : Str} (n : Name z) : PyData.strOk z = true := by
  unfold PyData.strOk
  rw [← Array.all_toList, List.all_eq_true]
  intro c hc
  have := let_lt c (n.2.2 c hc)
  exact decide_eq_true (by omega)
/-- a value of a kind, and its text -/
def Val (kd : Str) (v : V) (t : Str) : Prop := (kd = "number" ∧ ∃ n : Int, v = .int n ∧ -(10 ^ 9) ≤ n ∧ n ≤ 10 ^ 9 ∧ t = Str.ofString (toString n)) ∨ (kd = "word" ∧ v = .str t ∧ Name t)
theorem Val.is {kd t : Str} {v : V} {H : Hp} (h : Val kd v t) : (kd = "word" ∧ Named H v true) ∨ (kd = "number" ∧ Numb H v true) := by
  rcases h with ⟨e, n, rfl, n0, n1, rfl⟩ | ⟨e, rfl, n⟩
  · exact .inr ⟨e, .inl ⟨n, rfl, (decide_eq_true ⟨n0, n1⟩).symm⟩⟩
  · exact .inl ⟨e, .inr (.inl ⟨_, rfl, by have := n.2.1; omega, (decide_eq_true n).symm⟩)⟩
theorem Val.whole {kd t : Str} {v : V} {H : Hp} (h : Val kd v t) : Whole H v (decide (V.str kd = V.str "number")) := by
  rcases h with ⟨rfl, n, rfl, n0, n1, rfl⟩ | ⟨rfl, rfl, n⟩
  · exact .inl ⟨n, rfl, by decide +kernel⟩
  · exact .inr (.inl ⟨_, rfl, by decide +kernel⟩)
theorem Val.named {kd t : Str} {v : V} {H : Hp} (h : Val kd v t) : Named H v (decide (V.str kd = V.str "word")) := by
  rcases h with ⟨rfl, n, rfl, n0, n1, rfl⟩ | ⟨rfl, rfl, n⟩
  · exact .inl ⟨n, rfl, by decide +kernel⟩
  · exact .inr (.inl ⟨_, rfl, by have := n.2.1; omega, by rw [decide_eq_true n]; decide +kernel⟩)
theorem Val.ok {kd t : Str} {v : V} (h : Val kd v t) : PyData.strOk t = true ∧ t.length ≤ 12 := by
  rcases h with ⟨rfl, n, rfl, n0, n1, rfl⟩ | ⟨rfl, rfl, n⟩
  · have := num_facts n0 n1
    exact ⟨this.2.2, by omega⟩
  · exact ⟨n.ok, by have := n.2.1; omega⟩
theorem Val.told {kd t : Str} {v : V} (h : Val kd v t) : Told v := by
  rcases h with ⟨rfl, n, rfl, n0, n1, rfl⟩ | ⟨rfl, rfl, n⟩
  · exact .inr (.inl ⟨n, rfl⟩)
  · exact .inr (.inr ⟨_, rfl⟩)
theorem nm_eq (y : Str) : V.bl (decide (Name y)) = V.bl (!decide (optS (if Name y then some y else none) = V.non)) := by
  by_cases h : Name y
  · rw [if_pos h, decide_eq_true h]; rfl
  · rw [if_neg h, decide_eq_false h]; rfl
theorem num_eq (n : Int) : V.bl (decide (-(10 ^ 9) ≤ n ∧ n ≤ 10 ^ 9)) = V.bl (decide ((if n < 0 then -n else n) ≤ 10 ^ Int.toNat 9)) := by
  have e : (10 : Int) ^ Int.toNat 9 = 10 ^ 9 := rfl
  rw [e]
  refine congrArg V.bl (decide_eq_decide.mpr ?_)
  split <;> omega
theorem Odd.same {H H' : Hp} {v : V} (h : Odd H v) (s : Same H H') : Odd H' v := by
  rcases h with h | h | ⟨a, xs, rfl, e⟩ | ⟨a, xs, rfl, e⟩ | ⟨a, xs, rfl, e⟩
  · exact .inl h
  · exact .inr (.inl h)
  · exact .inr (.inr (.inl ⟨a, xs, rfl, s _ _ e⟩))
  · exact .inr (.inr (.inr (.inl ⟨a, xs, rfl, s _ _ e⟩)))
  · exact .inr (.inr (.inr (.inr ⟨a, xs, rfl, s _ _ e⟩)))
theorem told_N (o : Option Int) : Told (optN o) := by
  cases o with
  | none => exact .inl rfl
  | some n => exact .inr (.inl ⟨n, rfl⟩)
theorem told_S (o : Option Str) : Told (optS o) := by
  cases o with
  | none => exact .inl rfl
  | some n => exact .inr (.inr ⟨n, rfl⟩)
def spLaw (K : PySem.W.Frag) : Sp := fun vs H Q _ => ∃ (a : Addr) (ns : List Int), vs = [.ref a] ∧ SqL K H a (ns.map V.int) ∧ ns.length ≤ 63 ∧ ∀ H', Q (.bl true) H'
theorem ok_law {f : Addr} {fd : FuncData} (F : Fun K "law" "law" s_law f fd) (T : Txt K mg A) : FnOk P w K mg base CX0 4 f fd ["_law_script"] (spLaw K) := by
  refine F.ok sc_law (fun vs H Q E h => ?_) (fun cdv Ar outer s H vs Q E hr h => ?_)
  · obtain ⟨a, ns, rfl, _⟩ := h
    rfl
  · obtain ⟨a, ns, rfl, hS, hlen, k⟩ := h
    have nd := sc_law.nd
    have hu := hu_of hr
    have ⟨fd_law_draws, G_law_draws, b_law_draws⟩ := ok_law_draws (P := P) (w := w) (base := base) T
    have ⟨fd_law_value, G_law_value, b_law_value⟩ := ok_law_value (P := P) (w := w) (base := base) T
    have ⟨fd_law_truths, G_law_truths, b_law_truths⟩ := ok_law_truths (P := P) (w := w) (base := base) T
    have ⟨fd_is_value, G_is_value, b_is_value⟩ := ok_is_value (P := P) (w := w) (base := base) T
    have ⟨fd_value_text, G_value_text, b_value_text⟩ := ok_value_text (P := P) (w := w) (base := base) T
    have ⟨fd_law_same, G_law_same, b_law_same⟩ := ok_law_same (P := P) (w := w) (base := base) T
    have ⟨fd_value_in, G_value_in, b_value_in⟩ := ok_value_in (P := P) (w := w) (base := base) T
    have ⟨fd_law_near, G_law_near, b_law_near⟩ := ok_law_near (P := P) (w := w) (base := base) T
    have ⟨fd_law_plain, G_law_plain, b_law_plain⟩ := ok_law_plain (P := P) (w := w) (base := base) T
    have ⟨fd_law_word, G_law_word, b_law_word⟩ := ok_law_word (P := P) (w := w) (base := base) T
    have ⟨fd_is_name, G_is_name, b_is_name⟩ := ok_is_name (P := P) (w := w) (base := base) T
    refine ⟨_, (pss_cons (ps_for PassesOwn.never rfl (pi_list (pe_op op_cat (pe_slice sl_list (pv 0) po_none (po_some pe_int)) (pe_lst (pa_cons pe_int pa_nil)))) (pg_name (i := 1) nd rfl (Or.inl rfl)) (pss_cons (ps_set (i := 2) nd rfl (Or.inl rfl) (pe_call G_law_draws (hr.mono (by decide)) (by rfl) T.g_law_draws T.d_law_draws.kp b_law_draws .nil pass0 (pa_cons (pv 1) (pa_cons pe_int pa_nil))))
      (pss_cons (ps_set (i := 3) nd rfl (Or.inl rfl) (pe_ix ix_list (pe_lst (pa_cons pe_str (pa_cons pe_str pa_nil))) (pe_op op_mod (pe_ix ix_list (pv 2) pe_int (fun _ _ => rfl)) pe_int) (fun _ _ => rfl)))
      (Evl.pss_cut (ps_set (i := 4) nd rfl (Or.inl rfl) (pe_call G_law_value (hr.mono (by decide)) (by rfl) T.g_law_value T.d_law_value.kp b_law_value .nil pass0 (pa_cons (pv 3) (pa_cons (pe_ix ix_list (pv 2) pe_int (fun _ _ => rfl)) pa_nil))))
      (pss_cons (ps_if (PW.pt (pw_or (pt_cmpR op_isnot_bl (pe_call G_is_value (hr.mono (by decide)) (by rfl) T.g_is_value T.d_is_value.kp b_is_value .nil pass0 (pa_cons (pv 3) (pa_cons (pv 4) pa_nil))) pe_bl (nomark _)) (pw_or1 (pt_not (pt_val (pe_call G_law_truths (hr.mono (by decide)) (by rfl) T.g_law_truths T.d_law_truths.kp b_law_truths .nil pass0 (pa_cons (pv 4) (pa_cons (pe_cmpR op_eq (pv 3) pe_str (nomark _)) (pa_cons (pe_cmpR op_eq (pv 3) pe_str (nomark _)) pa_nil))))))))) (pss_one (ps_ret pe_bl)) pss_nil)
      (pss_cons (ps_set (i := 5) nd rfl (Or.inl rfl) (pe_call G_value_text (hr.mono (by decide)) (by rfl) T.g_value_text T.d_value_text.kp b_value_text .nil pass0 (pa_cons (pv 4) pa_nil)))
      (pss_cons (ps_if (PW.pt (pw_or (pt_cmpR op_ne (pv 5) (pe_callTy call_strA (by rfl) T.b_str (by decide +kernel) (pa_cons (pv 4) pa_nil)) (nomark _)) (pw_or (pt_not (pt_val (pe_callB call_isi (by rfl) T.b_isinstance (by decide +kernel) (pa_cons (pv 5) (pa_cons (pe_bltn (v := .ty "str") (u := .type "str") (by rfl) T.b_str (by decide +kernel) rfl) pa_nil))))) (pw_or1 (pt_not (pt_val (pe_call G_law_same (hr.mono (by decide)) (by rfl) T.g_law_same T.d_law_same.kp b_law_same .nil pass0 (pa_cons (pe_call G_value_in (hr.mono (by decide)) (by rfl) T.g_value_in T.d_value_in.kp b_value_in .nil pass0 (pa_cons (pv 3) (pa_cons (pv 5) pa_nil))) (pa_cons (pv 4) pa_nil))))))))) (pss_one (ps_ret pe_bl)) pss_nil)
      (pss_cons (ps_for PassesOwn.never rfl (pi_list (pe_call G_law_near (hr.mono (by decide)) (by rfl) T.g_law_near T.d_law_near.kp b_law_near .nil pass0 (pa_cons (pv 5) (pa_cons (pe_slice sl_list (pv 2) (po_some pe_int) (po_some pe_int)) pa_nil)))) (pg_name (i := 6) nd rfl (Or.inl rfl)) (pss_cons (ps_if (pt_not (pt_val (pe_call G_law_same (hr.mono (by decide)) (by rfl) T.g_law_same T.d_law_same.kp b_law_same .nil pass0 (pa_cons (pe_call G_value_in (hr.mono (by decide)) (by rfl) T.g_value_in T.d_value_in.kp b_value_in .nil pass0 (pa_cons pe_str (pa_cons (pv 6) pa_nil))) (pa_cons (pe_call G_law_plain (hr.mono (by decide)) (by rfl) T.g_law_plain T.d_law_plain.kp b_law_plain .nil pass0 (pa_cons (pv 6) pa_nil)) pa_nil))))) (pss_one (ps_ret pe_bl)) pss_nil)
      (pss_cons (ps_if (pt_not (pt_val (pe_call G_law_same (hr.mono (by decide)) (by rfl) T.g_law_same T.d_law_same.kp b_law_same .nil pass0 (pa_cons (pe_call G_value_in (hr.mono (by decide)) (by rfl) T.g_value_in T.d_value_in.kp b_value_in .nil pass0 (pa_cons pe_str (pa_cons (pv 6) pa_nil))) (pa_cons (pe_call G_law_word (hr.mono (by decide)) (by rfl) T.g_law_word T.d_law_word.kp b_law_word .nil pass0 (pa_cons (pv 6) pa_nil)) pa_nil))))) (pss_one (ps_ret pe_bl)) pss_nil)
      (pss_one (ps_if (PW.pt (pw_or (pt_cmpR op_ne (pe_call G_is_name (hr.mono (by decide)) (by rfl) T.g_is_name T.d_is_name.kp b_is_name .nil pass0 (pa_cons (pv 6) pa_nil)) (pe_cmpR op_notN (pe_call G_law_word (hr.mono (by decide)) (by rfl) T.g_law_word T.d_law_word.kp b_law_word .nil pass0 (pa_cons (pv 6) pa_nil)) pe_non (nomark _)) (nomark _)) (pw_or1 (pt_cmpR op_ne (pe_call G_is_value (hr.mono (by decide)) (by rfl) T.g_is_value T.d_is_value.kp b_is_value .nil pass0 (pa_cons pe_str (pa_cons (pv 6) pa_nil))) (pe_call G_is_name (hr.mono (by decide)) (by rfl) T.g_is_name T.d_is_name.kp b_is_name .nil pass0 (pa_cons (pv 6) pa_nil)) (nomark _))))) (pss_one (ps_ret pe_bl)) pss_nil)))))
      (pss_cons (ps_for PassesOwn.never rfl (pi_list (pe_lst (pa_cons (pe_op op_pow pe_int pe_int) (pa_cons (pe_op op_add (pe_op op_pow pe_int pe_int) pe_int) (pa_cons (pe_op op_sub pe_int (pe_op op_pow pe_int pe_int)) (pa_cons (pe_op op_sub (pe_op op_sub pe_int (pe_op op_pow pe_int pe_int)) pe_int) (pa_cons (pe_op op_mul (pe_ix ix_list (pv 2) pe_int (fun _ _ => rfl)) (pe_op op_pow pe_int pe_int)) pa_nil))))))) (pg_name (i := 7) nd rfl (Or.inl rfl)) (pss_one (ps_if (PW.pt (pw_or (pt_cmpR op_ne (pe_call G_is_value (hr.mono (by decide)) (by rfl) T.g_is_value T.d_is_value.kp b_is_value .nil pass0 (pa_cons pe_str (pa_cons (pv 7) pa_nil))) (pe_cmpR op_le (pe_callB call_abs (by rfl) T.b_abs (by decide +kernel) (pa_cons (pv 7) pa_nil)) (pe_op op_pow pe_int pe_int) (nomark _)) (nomark _)) (pw_or1 (pt_not (pt_val (pe_call G_law_truths (hr.mono (by decide)) (by rfl) T.g_law_truths T.d_law_truths.kp b_law_truths .nil pass0 (pa_cons (pv 7) (pa_cons pe_bl (pa_cons pe_bl pa_nil))))))))) (pss_one (ps_ret pe_bl)) pss_nil)))
      (pss_one (ps_for PassesOwn.never rfl (pi_list (pe_lst (pa_cons pe_bl (pa_cons pe_bl (pa_cons pe_non (pa_cons (pe_tup (pa_cons (pv 4) pa_nil)) (pa_cons (pe_lst (pa_cons (pv 4) pa_nil)) (pa_cons pe_dnewK (pa_cons (pe_lst (pa_cons (pv 5) pa_nil)) (pa_cons (pe_tup (pa_cons pe_str (pa_cons pe_str pa_nil))) pa_nil)))))))))) (pg_name (i := 8) nd rfl (Or.inl rfl)) (pss_one (ps_if (PW.pt (pw_or (pt_not (pt_val (pe_call G_law_truths (hr.mono (by decide)) (by rfl) T.g_law_truths T.d_law_truths.kp b_law_truths .nil pass0 (pa_cons (pv 8) (pa_cons pe_bl (pa_cons pe_bl pa_nil)))))) (pw_or (pt_val (pe_call G_is_value (hr.mono (by decide)) (by rfl) T.g_is_value T.d_is_value.kp b_is_value .nil pass0 (pa_cons pe_str (pa_cons (pv 8) pa_nil)))) (pw_or1 (pt_val (pe_call G_is_value (hr.mono (by decide)) (by rfl) T.g_is_value T.d_is_value.kp b_is_value .nil pass0 (pa_cons pe_str (pa_cons (pv 8) pa_nil)))))))) (pss_one (ps_ret pe_bl)) pss_nil)))))))))))))
      (pss_one (ps_ret pe_bl))), ?_⟩
    simp only [cxOf, Cx.nox, L2.start, List.map_cons, List.map_nil, List.length_cons, List.length_nil, Nat.reduceAdd, Nat.reduceSub, List.replicate, List.cons_append, List.nil_append]
    walk_at "z"
    refine ⟨a, _, rfl, hS, fun p1 hp1 => ?_⟩
    obtain ⟨cs, ec, hc⟩ := cutV_int ns none (some 40)
    rw [ec]
    walk_at "z"
    refine ⟨by simp only [List.length_cons, List.length_nil]; decide, fun p2 hp2 => ?_⟩
    walk_at "z"
    refine ⟨p1, p2, _, _, rfl, rfl, (Z.same_new hp2) _ _ upd_same, upd_same, by rw [List.length_map]; exact Nat.le_trans (show cs.length + 1 ≤ 1000 by omega) (by decide), fun p3 hp3 => ?_⟩
    walk_at "z"
    refine ⟨p3, rfl, ⟨_, SqL.of upd_same⟩, for_list (xs := cs.map V.int ++ [.int 3]) (fun i σ H' => (∃ v1 v2 v3 v4 v5 v6 v7 v8, σ = [some (.ref a), v1, v2, v3, v4, v5, v6, v7, v8]) ∧ H' p3 = some (.lst (cs.map V.int ++ [.int 3]))) ⟨⟨_, _, _, _, _, _, _, _, rfl⟩, upd_same⟩ (fun i σ H' hi P => SqL.of P.2) ?_ ?_⟩
    · rintro i x σ H4 hx ⟨⟨v1, v2, v3, v4, v5, v6, v7, v8, rfl⟩, hp⟩
      obtain ⟨c, rfl⟩ : ∃ c, x = .int c := by
        rcases List.mem_append.mp (List.mem_of_getElem? hx) with m | m
        · obtain ⟨y, _, rfl⟩ := List.mem_map.mp m
          exact ⟨y, rfl⟩
        · exact ⟨3, List.mem_singleton.mp m⟩
      walk_at "z"
      refine ⟨c, 6, rfl, by decide, fun H5 q xs hxl pos S5 => ?_⟩
      obtain ⟨d0, d1, d2, d3, d4, d5, rfl⟩ : ∃ a b c d e f, xs = [a, b, c, d, e, f] := by
        match xs, hxl with
        | [a, b, c, d, e, f], _ => exact ⟨a, b, c, d, e, f, rfl⟩
      have q0 := (pos d0 (by simp)).1
      have q1 := (pos d1 (by simp)).1
      have q2 := (pos d2 (by simp)).1
      have q3 := (pos d3 (by simp)).1
      have q4 := (pos d4 (by simp)).1
      have q5 := pos d5 (by simp)
      have hq5 := S5.at 0 rfl
      walk_at "z"
      refine ⟨by simp only [List.length_cons, List.length_nil]; decide, fun p4 hp4 => ?_⟩
      have S6 := S5.new (o := .lst [.str "number", .str "word"]) hp4
      walk_at "z"
      refine Z.ixL (i := 0) (SqL.of (S6.at 1 rfl)) rfl ?_
      walk_at "z"
      refine Z.ixAll (G := fun v => v = .str "number" ∨ v = .str "word") (SqL.of upd_same) (by omega) (by simp only [List.length_cons, List.length_nil]; omega) (fun v hv => by simpa using hv) (fun v hk _ => ?_)
      obtain ⟨kd, rfl, hkd⟩ : ∃ kd : Str, v = .str kd ∧ (kd = "number" ∨ kd = "word") := hk.elim (fun e => ⟨_, e, .inl rfl⟩) (fun e => ⟨_, e, .inr rfl⟩)
      have s6 := hp
      walk_at "z"
      refine Z.cut (M := fun σ' H' => ∃ v t, σ' = [some (.ref a), some (.int c), some (.ref q), some (.str kd), some v, v5, v6, v7, v8] ∧ Val kd v t ∧ Same H4 H' ∧ H' q = some (.lst [.int d0, .int d1, .int d2, .int d3, .int d4, .int d5])) ?_ ?_
      · walk_at "z"
        refine Z.ixL (i := 1) (SqL.of (S6.at 1 rfl)) rfl ?_
        walk_at "z"
        have hq6 := S6.at 1 rfl
        refine ⟨_, d1, rfl, q1, ?_⟩
        rcases hkd with rfl | rfl
        · refine .inr ⟨rfl, fun n H7 n0 n1 s7 => ?_⟩
          exact ⟨_, _, rfl, .inl ⟨rfl, n, rfl, n0, n1, rfl⟩, S6.same.trans s7, s7 _ _ hq6⟩
        · refine .inl ⟨rfl, fun n H7 n0 s7 => ?_⟩
          exact ⟨_, _, rfl, .inr ⟨rfl, rfl, n0⟩, S6.same.trans s7, s7 _ _ hq6⟩
      rintro σ7 H7 ⟨v, t, rfl, hv, s7, hq⟩
      walk_at "z"
      refine ⟨_, _, true, rfl, hv.is, ?_⟩
      walk_at "z"
      refine ⟨_, _, rfl, rfl, ?_⟩
      walk_at "z"
      refine ⟨v, _, _, rfl, hv.whole, hv.named, fun H8 s8 => ?_⟩
      walk_at "z"
      have told := hv.told
      have okt := hv.ok
      refine ⟨v, t, rfl, ?_, ?_⟩
      · rcases hv with ⟨e, n, rfl, n0, n1, rfl⟩ | ⟨e, rfl, n⟩
        · exact .inl ⟨n, rfl, by omega, rfl⟩
        · exact .inr rfl
      walk_at "z"
      refine ⟨v, t, rfl, ?_, ?_⟩
      · rcases hv with ⟨e, n, rfl, n0, n1, rfl⟩ | ⟨e, rfl, n⟩
        · exact .inl ⟨n, rfl, log_small (by omega), rfl⟩
        · exact .inr rfl
      walk_at "z"
      refine ⟨_, _, v, rfl, by omega, ?_, ?_⟩
      · rcases hv with ⟨e, n, rfl, n0, n1, rfl⟩ | ⟨e, rfl, n⟩
        · exact .inr ⟨e, by rw [(num_facts n0 n1).1]; rfl⟩
        · exact .inl ⟨e, by rw [if_pos n]; rfl⟩
      walk_at "z"
      refine ⟨v, rfl, told, ?_⟩
      walk_at "z"
      have hq8 := s8 _ _ hq
      refine ⟨q, _, rfl, SqL.of hq8, fun p5 hp5 => ?_⟩
      walk_at "z"
      have s9 := Z.same_new (o := .lst (cutV [.int d0, .int d1, .int d2, .int d3, .int d4, .int d5] (some 2) (some 5))) hp5
      have ec5 : cutV [.int d0, .int d1, .int d2, .int d3, .int d4, .int d5] (some 2) (some 5) = [d2, d3, d4].map .int := rfl
      refine ⟨t, p5, [d2, d3, d4], rfl, ?_, rfl, ?_, okt.1, okt.2, fun H9 p6 zs hz S9 => ?_⟩
      · rw [← ec5]
        exact SqL.of upd_same
      · intro x hx
        simp only [List.mem_cons, List.not_mem_nil, or_false] at hx
        rcases hx with rfl | rfl | rfl <;> assumption
      have t9 : Same H4 H9 := s7.trans (s8.trans (s9.trans S9.same))
      have hq9 : H9 q = _ := S9.same _ _ (s9 _ _ hq8)
      have hz9 := S9.at 0 rfl
      clear s9 ec5 S9 hq8 hq s7 s8 S5 S6 hq5
      walk_at "z"
      refine ⟨p6, rfl, ⟨_, SqL.of hz9⟩, for_list (xs := zs.map .str) (fun i σ H' => (∃ v6, σ = [some (.ref a), some (.int c), some (.ref q), some (.str kd), some v, some (.str t), v6, v7, v8]) ∧ Same H9 H') ⟨⟨_, rfl⟩, Same.refl _⟩ (fun i σ H' hi P => SqL.of (P.2 _ _ hz9)) ?_ ?_⟩
      · rintro i x σ H' hx ⟨⟨v6, rfl⟩, s9⟩
        rw [List.getElem?_map] at hx
        obtain ⟨y, hy, rfl⟩ := Option.map_eq_some_iff.mp hx
        have ny := hz y (List.mem_of_getElem? hy)
        have ny2 := ny.2
        walk_at "z"
        refine ⟨_, y, _, rfl, by omega, .inr ⟨rfl, rfl⟩, ?_⟩
        walk_at "z"
        refine ⟨y, rfl, ny.1, by omega, fun H1 s1 => ?_⟩
        walk_at "z"
        refine ⟨_, rfl, told_N _, ?_⟩
        walk_at "z"
        refine ⟨_, y, _, rfl, by omega, .inl ⟨rfl, rfl⟩, ?_⟩
        walk_at "z"
        refine ⟨y, rfl, ny.1, by omega, fun H2 s2 => ?_⟩
        walk_at "z"
        refine ⟨_, rfl, told_S _, ?_⟩
        walk_at "z"
        refine ⟨_, _, rfl, .inr (.inl ⟨y, rfl, by omega, rfl⟩), ?_⟩
        walk_at "z"
        refine ⟨y, rfl, ny.1, by omega, fun H3 s3 => ?_⟩
        walk_at "z"
        rw [decide_eq_true (nm_eq y)]
        walk_at "z"
        refine ⟨_, _, _, rfl, .inl ⟨rfl, .inr (.inl ⟨y, rfl, by omega, rfl⟩)⟩, ?_⟩
        walk_at "z"
        refine ⟨_, _, rfl, .inr (.inl ⟨y, rfl, by omega, rfl⟩), ?_⟩
        walk_at "z"
        exact ⟨⟨_, rfl⟩, s9.trans (s1.trans (s2.trans s3))⟩
      · rintro σ H' ⟨⟨v6, rfl⟩, s9⟩
        have hq10 := s9 _ _ hq9
        walk_at "z"
        refine Z.ixL (i := 5) (SqL.of hq10) rfl ?_
        walk_at "z"
        refine ⟨by simp only [List.length_cons, List.length_nil]; decide, fun p7 hp7 => ?_⟩
        have s10 := Z.same_new (o := .lst [.int (10 ^ Int.toNat 9), .int (10 ^ Int.toNat 9 + 1), .int (0 - 10 ^ Int.toNat 9), .int (0 - 10 ^ Int.toNat 9 - 1), .int (d5 * 10 ^ Int.toNat 20)]) hp7
        refine ⟨p7, rfl, ⟨_, SqL.of upd_same⟩, ?_⟩
        have g10 : _ = some (HO.lst [.int (10 ^ Int.toNat 9), .int (10 ^ Int.toNat 9 + 1), .int (0 - 10 ^ Int.toNat 9), .int (0 - 10 ^ Int.toNat 9 - 1), .int (d5 * 10 ^ Int.toNat 20)]) := upd_same (a := p7) (H := H')
        generalize upd H' p7 (HO.lst [.int (10 ^ Int.toNat 9), .int (10 ^ Int.toNat 9 + 1), .int (0 - 10 ^ Int.toNat 9), .int (0 - 10 ^ Int.toNat 9 - 1), .int (d5 * 10 ^ Int.toNat 20)]) = Ha at s10 g10 ⊢
        refine for_list (xs := [.int (10 ^ Int.toNat 9), .int (10 ^ Int.toNat 9 + 1), .int (0 - 10 ^ Int.toNat 9), .int (0 - 10 ^ Int.toNat 9 - 1), .int (d5 * 10 ^ Int.toNat 20)]) (fun i σ H2 => (∃ v7, σ = [some (.ref a), some (.int c), some (.ref q), some (.str kd), some v, some (.str t), v6, v7, v8]) ∧ Same Ha H2) ⟨⟨_, rfl⟩, Same.refl _⟩ (fun i σ H' hi P => SqL.of (P.2 _ _ g10)) ?_ ?_
        · rintro i x σ H2 hx ⟨⟨v7, rfl⟩, s11⟩
          obtain ⟨n, rfl⟩ : ∃ n, x = .int n := by
            have m := List.mem_of_getElem? hx
            simp only [List.mem_cons, List.not_mem_nil, or_false] at m
            rcases m with m | m | m | m | m <;> exact ⟨_, m⟩
          walk_at "z"
          refine ⟨_, _, _, rfl, .inr ⟨rfl, .inl ⟨n, rfl, rfl⟩⟩, ?_⟩
          walk_at "z"
          refine ⟨n, rfl, ?_⟩
          walk_at "z"
          rw [decide_eq_true (num_eq n)]
          walk_at "z"
          refine ⟨.int n, true, false, rfl, .inl ⟨n, rfl, rfl⟩, .inl ⟨n, rfl, rfl⟩, fun H3 s3 => ?_⟩
          walk_at "z"
          exact ⟨⟨_, rfl⟩, s11.trans s3⟩
        rintro σ Hb ⟨⟨v7, rfl⟩, s11⟩
        walk_at "z"
        refine ⟨by simp only [List.length_cons, List.length_nil]; decide, fun p20 hp20 => ?_⟩
        have sa20 := Z.same_new (o := .tup [v]) hp20
        have ga20 : _ = some (HO.tup [v]) := upd_same (a := p20) (H := Hb)
        generalize upd Hb p20 (.tup [v]) = Ha20 at sa20 ga20 ⊢
        walk_at "z"
        refine ⟨by simp only [List.length_cons, List.length_nil]; decide, fun p21 hp21 => ?_⟩
        have sa21 := Z.same_new (o := .lst [v]) hp21
        have ga21 : _ = some (HO.lst [v]) := upd_same (a := p21) (H := Ha20)
        generalize upd Ha20 p21 (.lst [v]) = Ha21 at sa21 ga21 ⊢
        walk_at "z"
        refine fun p22 hp22 => ?_
        have sa22 := Z.same_new (o := .dK []) hp22
        have ga22 : _ = some (HO.dK []) := upd_same (a := p22) (H := Ha21)
        generalize upd Ha21 p22 (.dK []) = Ha22 at sa22 ga22 ⊢
        walk_at "z"
        refine ⟨by simp only [List.length_cons, List.length_nil]; decide, fun p23 hp23 => ?_⟩
        have sa23 := Z.same_new (o := .lst [.str t]) hp23
        have ga23 : _ = some (HO.lst [.str t]) := upd_same (a := p23) (H := Ha22)
        generalize upd Ha22 p23 (.lst [.str t]) = Ha23 at sa23 ga23 ⊢
        walk_at "z"
        refine ⟨by simp only [List.length_cons, List.length_nil]; decide, fun p24 hp24 => ?_⟩
        have sa24 := Z.same_new (o := .tup [.str "a", .str "b"]) hp24
        have ga24 : _ = some (HO.tup [.str "a", .str "b"]) := upd_same (a := p24) (H := Ha23)
        generalize upd Ha23 p24 (.tup [.str "a", .str "b"]) = Ha24 at sa24 ga24 ⊢
        walk_at "z"
        refine ⟨by simp only [List.length_cons, List.length_nil]; decide, fun p25 hp25 => ?_⟩
        refine ⟨p25, rfl, ⟨_, SqL.of upd_same⟩, ?_⟩
        have sa25 := Z.same_new (o := .lst [.bl true, .bl false, .non, .ref p20, .ref p21, .ref p22, .ref p23, .ref p24]) hp25
        have ga25 : _ = some (HO.lst [.bl true, .bl false, .non, .ref p20, .ref p21, .ref p22, .ref p23, .ref p24]) := upd_same (a := p25) (H := Ha24)
        generalize upd Ha24 p25 (.lst [.bl true, .bl false, .non, .ref p20, .ref p21, .ref p22, .ref p23, .ref p24]) = Hc at sa25 ga25 ⊢
        have odd : ∀ x ∈ [V.bl true, .bl false, .non, .ref p20, .ref p21, .ref p22, .ref p23, .ref p24], Odd Hc x := by
          intro x m
          simp only [List.mem_cons, List.not_mem_nil, or_false] at m
          rcases m with rfl | rfl | rfl | rfl | rfl | rfl | rfl | rfl
          · exact .inl ⟨_, rfl⟩
          · exact .inl ⟨_, rfl⟩
          · exact .inr (.inl rfl)
          · exact .inr (.inr (.inr (.inl ⟨_, _, rfl, sa25 _ _ (sa24 _ _ (sa23 _ _ (sa22 _ _ (sa21 _ _ ga20))))⟩)))
          · exact .inr (.inr (.inl ⟨_, _, rfl, sa25 _ _ (sa24 _ _ (sa23 _ _ (sa22 _ _ ga21)))⟩))
          · exact .inr (.inr (.inr (.inr ⟨_, _, rfl, sa25 _ _ (sa24 _ _ (sa23 _ _ ga22))⟩)))
          · exact .inr (.inr (.inl ⟨_, _, rfl, sa25 _ _ (sa24 _ _ ga23)⟩))
          · exact .inr (.inr (.inr (.inl ⟨_, _, rfl, sa25 _ _ ga24⟩)))
        have t10 : Same H4 Hc := t9.trans (s9.trans (s10.trans (s11.trans (sa20.trans (sa21.trans (sa22.trans (sa23.trans (sa24.trans sa25))))))))
        refine for_list (xs := [.bl true, .bl false, .non, .ref p20, .ref p21, .ref p22, .ref p23, .ref p24]) (fun i σ H2 => (∃ v8, σ = [some (.ref a), some (.int c), some (.ref q), some (.str kd), some v, some (.str t), v6, v7, v8]) ∧ Same Hc H2) ⟨⟨_, rfl⟩, Same.refl _⟩ (fun i σ H' hi P => SqL.of (P.2 _ _ ga25)) ?_ ?_
        · rintro i x σ H2 hx ⟨⟨v8, rfl⟩, s12⟩
          have ox := (odd x (List.mem_of_getElem? hx)).same s12
          walk_at "z"
          refine ⟨x, false, false, rfl, .inr (.inr ⟨ox, rfl⟩), .inr (.inr ⟨ox, rfl⟩), fun H3 s3 => ?_⟩
          have ox3 := ox.same s3
          walk_at "z"
          refine ⟨_, x, false, rfl, .inr ⟨rfl, .inr (.inr ⟨ox3, rfl⟩)⟩, ?_⟩
          walk_at "z"
          refine ⟨_, x, false, rfl, .inl ⟨rfl, .inr (.inr ⟨ox3, rfl⟩)⟩, ?_⟩
          walk_at "z"
          exact ⟨⟨_, rfl⟩, s12.trans s3⟩
        · rintro σ H2 ⟨⟨v8, rfl⟩, s12⟩
          walk_at "z"
          exact ⟨⟨_, _, _, _, _, _, _, _, rfl⟩, s12 _ _ (t10 _ _ hp)⟩
    · rintro σ H4 ⟨⟨v1, v2, v3, v4, v5, v6, v7, v8, rfl⟩, hp⟩
      walk_at "z"
      exact k _
theorem all_mk {l : PySem.W.OpenLaw} {w : World} {K : PySem.W.Frag} {h : Heap} {mg : Str → Option Value} {fa : Addr} (X : K.In h) (G : h.Ns mainGlobals mg) (hfa : mg "law" = some (.ref fa))
    {f_is_whole f_is_name f_is_value f_value_text f_figures_in f_value_in f_law_draws f_law_names f_law_value f_law_plain f_law_word f_law_near f_law_same f_law_truths f_law : Addr} {od_is_whole an_is_whole od_is_name an_is_name od_is_value an_is_value od_value_text an_value_text od_figures_in an_figures_in od_value_in an_value_in od_law_draws an_law_draws od_law_names an_law_names od_law_value an_law_value od_law_plain an_law_plain od_law_word an_law_word od_law_near an_law_near od_law_same an_law_same od_law_truths an_law_truths od_law an_law : Option Addr} {sl_is_whole sl_is_name sl_is_value sl_value_text sl_figures_in sl_value_in sl_law_draws sl_law_names sl_law_value sl_law_plain sl_law_word sl_law_near sl_law_same sl_law_truths sl_law : Array (Option Value)} {oc_is_whole kV_is_whole dc_is_whole pm_is_whole cd_is_whole ct_is_whole oc_is_name kV_is_name dc_is_name pm_is_name cd_is_name ct_is_name oc_is_value kV_is_value dc_is_value pm_is_value cd_is_value ct_is_value oc_value_text kV_value_text dc_value_text pm_value_text cd_value_text ct_value_text oc_figures_in kV_figures_in dc_figures_in pm_figures_in cd_figures_in ct_figures_in oc_value_in kV_value_in dc_value_in pm_value_in cd_value_in ct_value_in oc_law_draws kV_law_draws dc_law_draws pm_law_draws cd_law_draws ct_law_draws oc_law_names kV_law_names dc_law_names pm_law_names cd_law_names ct_law_names oc_law_value kV_law_value dc_law_value pm_law_value cd_law_value ct_law_value oc_law_plain kV_law_plain dc_law_plain pm_law_plain cd_law_plain ct_law_plain oc_law_word kV_law_word dc_law_word pm_law_word cd_law_word ct_law_word oc_law_near kV_law_near dc_law_near pm_law_near cd_law_near ct_law_near oc_law_same kV_law_same dc_law_same pm_law_same cd_law_same ct_law_same oc_law_truths kV_law_truths dc_law_truths pm_law_truths cd_law_truths ct_law_truths oc_law kV_law dc_law pm_law cd_law ct_law : Value} {t_FIGURES t_LETTERS t_MOST_NUMBER t_MOST_SIGNS : Tok}
    (a_is_whole : PySem.W.nsIn K mainGlobals "is_whole" = some (some (.ref f_is_whole)))
    (l_is_whole : K.lookup f_is_whole = some ⟨oc_is_whole, od_is_whole, .func (PySem.W.fnOf "is_whole" "is_whole" (defArgs s_is_whole) (defBody s_is_whole) (defScope s_is_whole) .none kV_is_whole dc_is_whole pm_is_whole an_is_whole cd_is_whole ct_is_whole), sl_is_whole⟩)
    (c_is_whole : PySem.W.codeIn K cd_is_whole "is_whole" = true)
    (k_is_whole : PySem.W.keepIn K (.ref f_is_whole) = true)
    (a_is_name : PySem.W.nsIn K mainGlobals "is_name" = some (some (.ref f_is_name)))
    (l_is_name : K.lookup f_is_name = some ⟨oc_is_name, od_is_name, .func (PySem.W.fnOf "is_name" "is_name" (defArgs s_is_name) (defBody s_is_name) (defScope s_is_name) .none kV_is_name dc_is_name pm_is_name an_is_name cd_is_name ct_is_name), sl_is_name⟩)
    (c_is_name : PySem.W.codeIn K cd_is_name "is_name" = true)
    (k_is_name : PySem.W.keepIn K (.ref f_is_name) = true)
    (a_is_value : PySem.W.nsIn K mainGlobals "is_value" = some (some (.ref f_is_value)))
    (l_is_value : K.lookup f_is_value = some ⟨oc_is_value, od_is_value, .func (PySem.W.fnOf "is_value" "is_value" (defArgs s_is_value) (defBody s_is_value) (defScope s_is_value) .none kV_is_value dc_is_value pm_is_value an_is_value cd_is_value ct_is_value), sl_is_value⟩)
    (c_is_value : PySem.W.codeIn K cd_is_value "is_value" = true)
    (k_is_value : PySem.W.keepIn K (.ref f_is_value) = true)
    (a_value_text : PySem.W.nsIn K mainGlobals "value_text" = some (some (.ref f_value_text)))
    (l_value_text : K.lookup f_value_text = some ⟨oc_value_text, od_value_text, .func (PySem.W.fnOf "value_text" "value_text" (defArgs s_value_text) (defBody s_value_text) (defScope s_value_text) .none kV_value_text dc_value_text pm_value_text an_value_text cd_value_text ct_value_text), sl_value_text⟩)
    (c_value_text : PySem.W.codeIn K cd_value_text "value_text" = true)
    (k_value_text : PySem.W.keepIn K (.ref f_value_text) = true)
    (a_figures_in : PySem.W.nsIn K mainGlobals "figures_in" = some (some (.ref f_figures_in)))
    (l_figures_in : K.lookup f_figures_in = some ⟨oc_figures_in, od_figures_in, .func (PySem.W.fnOf "figures_in" "figures_in" (defArgs s_figures_in) (defBody s_figures_in) (defScope s_figures_in) .none kV_figures_in dc_figures_in pm_figures_in an_figures_in cd_figures_in ct_figures_in), sl_figures_in⟩)
    (c_figures_in : PySem.W.codeIn K cd_figures_in "figures_in" = true)
    (k_figures_in : PySem.W.keepIn K (.ref f_figures_in) = true)
    (a_value_in : PySem.W.nsIn K mainGlobals "value_in" = some (some (.ref f_value_in)))
    (l_value_in : K.lookup f_value_in = some ⟨oc_value_in, od_value_in, .func (PySem.W.fnOf "value_in" "value_in" (defArgs s_value_in) (defBody s_value_in) (defScope s_value_in) .none kV_value_in dc_value_in pm_value_in an_value_in cd_value_in ct_value_in), sl_value_in⟩)
    (c_value_in : PySem.W.codeIn K cd_value_in "value_in" = true)
    (k_value_in : PySem.W.keepIn K (.ref f_value_in) = true)
    (a_law_draws : PySem.W.nsIn K mainGlobals "_law_draws" = some (some (.ref f_law_draws)))
    (l_law_draws : K.lookup f_law_draws = some ⟨oc_law_draws, od_law_draws, .func (PySem.W.fnOf "_law_draws" "_law_draws" (defArgs s_law_draws) (defBody s_law_draws) (defScope s_law_draws) .none kV_law_draws dc_law_draws pm_law_draws an_law_draws cd_law_draws ct_law_draws), sl_law_draws⟩)
    (c_law_draws : PySem.W.codeIn K cd_law_draws "_law_draws" = true)
    (k_law_draws : PySem.W.keepIn K (.ref f_law_draws) = true)
    (a_law_names : PySem.W.nsIn K mainGlobals "_law_names" = some (some (.ref f_law_names)))
    (l_law_names : K.lookup f_law_names = some ⟨oc_law_names, od_law_names, .func (PySem.W.fnOf "_law_names" "_law_names" (defArgs s_law_names) (defBody s_law_names) (defScope s_law_names) .none kV_law_names dc_law_names pm_law_names an_law_names cd_law_names ct_law_names), sl_law_names⟩)
    (c_law_names : PySem.W.codeIn K cd_law_names "_law_names" = true)
    (k_law_names : PySem.W.keepIn K (.ref f_law_names) = true)
    (a_law_value : PySem.W.nsIn K mainGlobals "_law_value" = some (some (.ref f_law_value)))
    (l_law_value : K.lookup f_law_value = some ⟨oc_law_value, od_law_value, .func (PySem.W.fnOf "_law_value" "_law_value" (defArgs s_law_value) (defBody s_law_value) (defScope s_law_value) .none kV_law_value dc_law_value pm_law_value an_law_value cd_law_value ct_law_value), sl_law_value⟩)
    (c_law_value : PySem.W.codeIn K cd_law_value "_law_value" = true)
    (k_law_value : PySem.W.keepIn K (.ref f_law_value) = true)
    (a_law_plain : PySem.W.nsIn K mainGlobals "_law_plain" = some (some (.ref f_law_plain)))
    (l_law_plain : K.lookup f_law_plain = some ⟨oc_law_plain, od_law_plain, .func (PySem.W.fnOf "_law_plain" "_law_plain" (defArgs s_law_plain) (defBody s_law_plain) (defScope s_law_plain) .none kV_law_plain dc_law_plain pm_law_plain an_law_plain cd_law_plain ct_law_plain), sl_law_plain⟩)
    (c_law_plain : PySem.W.codeIn K cd_law_plain "_law_plain" = true)
    (k_law_plain : PySem.W.keepIn K (.ref f_law_plain) = true)
    (a_law_word : PySem.W.nsIn K mainGlobals "_law_word" = some (some (.ref f_law_word)))
    (l_law_word : K.lookup f_law_word = some ⟨oc_law_word, od_law_word, .func (PySem.W.fnOf "_law_word" "_law_word" (defArgs s_law_word) (defBody s_law_word) (defScope s_law_word) .none kV_law_word dc_law_word pm_law_word an_law_word cd_law_word ct_law_word), sl_law_word⟩)
    (c_law_word : PySem.W.codeIn K cd_law_word "_law_word" = true)
    (k_law_word : PySem.W.keepIn K (.ref f_law_word) = true)
    (a_law_near : PySem.W.nsIn K mainGlobals "_law_near" = some (some (.ref f_law_near)))
    (l_law_near : K.lookup f_law_near = some ⟨oc_law_near, od_law_near, .func (PySem.W.fnOf "_law_near" "_law_near" (defArgs s_law_near) (defBody s_law_near) (defScope s_law_near) .none kV_law_near dc_law_near pm_law_near an_law_near cd_law_near ct_law_near), sl_law_near⟩)
    (c_law_near : PySem.W.codeIn K cd_law_near "_law_near" = true)
    (k_law_near : PySem.W.keepIn K (.ref f_law_near) = true)
    (a_law_same : PySem.W.nsIn K mainGlobals "_law_same" = some (some (.ref f_law_same)))
    (l_law_same : K.lookup f_law_same = some ⟨oc_law_same, od_law_same, .func (PySem.W.fnOf "_law_same" "_law_same" (defArgs s_law_same) (defBody s_law_same) (defScope s_law_same) .none kV_law_same dc_law_same pm_law_same an_law_same cd_law_same ct_law_same), sl_law_same⟩)
    (c_law_same : PySem.W.codeIn K cd_law_same "_law_same" = true)
    (k_law_same : PySem.W.keepIn K (.ref f_law_same) = true)
    (a_law_truths : PySem.W.nsIn K mainGlobals "_law_truths" = some (some (.ref f_law_truths)))
    (l_law_truths : K.lookup f_law_truths = some ⟨oc_law_truths, od_law_truths, .func (PySem.W.fnOf "_law_truths" "_law_truths" (defArgs s_law_truths) (defBody s_law_truths) (defScope s_law_truths) .none kV_law_truths dc_law_truths pm_law_truths an_law_truths cd_law_truths ct_law_truths), sl_law_truths⟩)
    (c_law_truths : PySem.W.codeIn K cd_law_truths "_law_truths" = true)
    (k_law_truths : PySem.W.keepIn K (.ref f_law_truths) = true)
    (a_law : PySem.W.nsIn K mainGlobals "law" = some (some (.ref f_law)))
    (l_law : K.lookup f_law = some ⟨oc_law, od_law, .func (PySem.W.fnOf "law" "law" (defArgs s_law) (defBody s_law) (defScope s_law) .none kV_law dc_law pm_law an_law cd_law ct_law), sl_law⟩)
    (c_law : PySem.W.codeIn K cd_law "law" = true)
    (k_law : PySem.W.keepIn K (.ref f_law) = true)
    (z_abs : PySem.W.nsIn K mainGlobals "abs" = some none)
    (z_bool : PySem.W.nsIn K mainGlobals "bool" = some none)
    (z_int : PySem.W.nsIn K mainGlobals "int" = some none)
    (z_isinstance : PySem.W.nsIn K mainGlobals "isinstance" = some none)
    (z_len : PySem.W.nsIn K mainGlobals "len" = some none)
    (z_range : PySem.W.nsIn K mainGlobals "range" = some none)
    (z_str : PySem.W.nsIn K mainGlobals "str" = some none)
    (u_FIGURES : PySem.W.nsIn K mainGlobals "FIGURES" = some (some (.str "0123456789" t_FIGURES)))
    (u_LETTERS : PySem.W.nsIn K mainGlobals "LETTERS" = some (some (.str "abcdefghijklmnopqrstuvwxyz" t_LETTERS)))
    (u_MOST_NUMBER : PySem.W.nsIn K mainGlobals "MOST_NUMBER" = some (some (.int (1000000000) t_MOST_NUMBER)))
    (u_MOST_SIGNS : PySem.W.nsIn K mainGlobals "MOST_SIGNS" = some (some (.int (8) t_MOST_SIGNS)))
    : ∃ fd : FuncData, (∀ (s : Shared) (v : Value), BindsTo s fd ⟨[v], []⟩ [("_law_script", v)]) ∧ ∀ base : Heap, K.In base → base.Ns mainGlobals mg → FnOk l.prog w K mg base CX0 4 fa fd ["_law_script"] (spLaw K) := by
  have e := hfa.symm.trans (PySem.W.mg_of X G a_law)
  cases e
  have T : Txt K mg { f_is_whole := f_is_whole, f_is_name := f_is_name, f_is_value := f_is_value, f_value_text := f_value_text, f_figures_in := f_figures_in, f_value_in := f_value_in, f_law_draws := f_law_draws, f_law_names := f_law_names, f_law_value := f_law_value, f_law_plain := f_law_plain, f_law_word := f_law_word, f_law_near := f_law_near, f_law_same := f_law_same, f_law_truths := f_law_truths, f_law := fa } := { d_is_whole := ⟨_, fun_mk (st := s_is_whole) l_is_whole c_is_whole k_is_whole, (fun_mk (st := s_is_whole) l_is_whole c_is_whole k_is_whole).binds (ps := ["thing"]) fun _ _ _ _ _ _ us hl => match us, hl with | [_], _ => rfl⟩, g_is_whole := PySem.W.mg_of X G a_is_whole, d_is_name := ⟨_, fun_mk (st := s_is_name) l_is_name c_is_name k_is_name, (fun_mk (st := s_is_name) l_is_name c_is_name k_is_name).binds (ps := ["thing"]) fun _ _ _ _ _ _ us hl => match us, hl with | [_], _ => rfl⟩, g_is_name := PySem.W.mg_of X G a_is_name, d_is_value := ⟨_, fun_mk (st := s_is_value) l_is_value c_is_value k_is_value, (fun_mk (st := s_is_value) l_is_value c_is_value k_is_value).binds (ps := ["kind", "thing"]) fun _ _ _ _ _ _ us hl => match us, hl with | [_, _], _ => rfl⟩, g_is_value := PySem.W.mg_of X G a_is_value, d_value_text := ⟨_, fun_mk (st := s_value_text) l_value_text c_value_text k_value_text, (fun_mk (st := s_value_text) l_value_text c_value_text k_value_text).binds (ps := ["value"]) fun _ _ _ _ _ _ us hl => match us, hl with | [_], _ => rfl⟩, g_value_text := PySem.W.mg_of X G a_value_text, d_figures_in := ⟨_, fun_mk (st := s_figures_in) l_figures_in c_figures_in k_figures_in, (fun_mk (st := s_figures_in) l_figures_in c_figures_in k_figures_in).binds (ps := ["text"]) fun _ _ _ _ _ _ us hl => match us, hl with | [_], _ => rfl⟩, g_figures_in := PySem.W.mg_of X G a_figures_in, d_value_in := ⟨_, fun_mk (st := s_value_in) l_value_in c_value_in k_value_in, (fun_mk (st := s_value_in) l_value_in c_value_in k_value_in).binds (ps := ["kind", "text"]) fun _ _ _ _ _ _ us hl => match us, hl with | [_, _], _ => rfl⟩, g_value_in := PySem.W.mg_of X G a_value_in, d_law_draws := ⟨_, fun_mk (st := s_law_draws) l_law_draws c_law_draws k_law_draws, (fun_mk (st := s_law_draws) l_law_draws c_law_draws k_law_draws).binds (ps := ["_law_cell_here", "_law_many"]) fun _ _ _ _ _ _ us hl => match us, hl with | [_, _], _ => rfl⟩, g_law_draws := PySem.W.mg_of X G a_law_draws, d_law_names := ⟨_, fun_mk (st := s_law_names) l_law_names c_law_names k_law_names, (fun_mk (st := s_law_names) l_law_names c_law_names k_law_names).binds (ps := ["_law_cell_here", "_law_many"]) fun _ _ _ _ _ _ us hl => match us, hl with | [_, _], _ => rfl⟩, g_law_names := PySem.W.mg_of X G a_law_names, d_law_value := ⟨_, fun_mk (st := s_law_value) l_law_value c_law_value k_law_value, (fun_mk (st := s_law_value) l_law_value c_law_value k_law_value).binds (ps := ["_law_kind", "_law_draw"]) fun _ _ _ _ _ _ us hl => match us, hl with | [_, _], _ => rfl⟩, g_law_value := PySem.W.mg_of X G a_law_value, d_law_plain := ⟨_, fun_mk (st := s_law_plain) l_law_plain c_law_plain k_law_plain, (fun_mk (st := s_law_plain) l_law_plain c_law_plain k_law_plain).binds (ps := ["_law_text"]) fun _ _ _ _ _ _ us hl => match us, hl with | [_], _ => rfl⟩, g_law_plain := PySem.W.mg_of X G a_law_plain, d_law_word := ⟨_, fun_mk (st := s_law_word) l_law_word c_law_word k_law_word, (fun_mk (st := s_law_word) l_law_word c_law_word k_law_word).binds (ps := ["_law_text"]) fun _ _ _ _ _ _ us hl => match us, hl with | [_], _ => rfl⟩, g_law_word := PySem.W.mg_of X G a_law_word, d_law_near := ⟨_, fun_mk (st := s_law_near) l_law_near c_law_near k_law_near, (fun_mk (st := s_law_near) l_law_near c_law_near k_law_near).binds (ps := ["_law_text", "_law_draws_here"]) fun _ _ _ _ _ _ us hl => match us, hl with | [_, _], _ => rfl⟩, g_law_near := PySem.W.mg_of X G a_law_near, d_law_same := ⟨_, fun_mk (st := s_law_same) l_law_same c_law_same k_law_same, (fun_mk (st := s_law_same) l_law_same c_law_same k_law_same).binds (ps := ["_law_found", "_law_due"]) fun _ _ _ _ _ _ us hl => match us, hl with | [_, _], _ => rfl⟩, g_law_same := PySem.W.mg_of X G a_law_same, d_law_truths := ⟨_, fun_mk (st := s_law_truths) l_law_truths c_law_truths k_law_truths, (fun_mk (st := s_law_truths) l_law_truths c_law_truths k_law_truths).binds (ps := ["_law_thing", "_law_whole", "_law_name"]) fun _ _ _ _ _ _ us hl => match us, hl with | [_, _, _], _ => rfl⟩, g_law_truths := PySem.W.mg_of X G a_law_truths, d_law := ⟨_, fun_mk (st := s_law) l_law c_law k_law, (fun_mk (st := s_law) l_law c_law k_law).binds (ps := ["_law_script"]) fun _ _ _ _ _ _ us hl => match us, hl with | [_], _ => rfl⟩, g_law := PySem.W.mg_of X G a_law, b_abs := PySem.W.mg_none_of X G z_abs, b_bool := PySem.W.mg_none_of X G z_bool, b_int := PySem.W.mg_none_of X G z_int, b_isinstance := PySem.W.mg_none_of X G z_isinstance, b_len := PySem.W.mg_none_of X G z_len, b_range := PySem.W.mg_none_of X G z_range, b_str := PySem.W.mg_none_of X G z_str, v_FIGURES := ⟨t_FIGURES, PySem.W.mg_of X G u_FIGURES⟩, v_LETTERS := ⟨t_LETTERS, PySem.W.mg_of X G u_LETTERS⟩, v_MOST_NUMBER := ⟨t_MOST_NUMBER, PySem.W.mg_of X G u_MOST_NUMBER⟩, v_MOST_SIGNS := ⟨t_MOST_SIGNS, PySem.W.mg_of X G u_MOST_SIGNS⟩ }
  exact ⟨_, fun s v => .of_eq rfl, fun base _ _ => ok_law (fun_mk (st := s_law) l_law c_law k_law) T⟩
theorem walk {l : PySem.W.OpenLaw} {q : Program} {loose : List Str} {XP : (Str → Option Value) → Heap → Prop} {YP : World → Heap → Prop} {d : DefRec} {K : Params → PySem.W.Frag} (hn : l.most = some 63) (hdf : d.params.defaults = [])
    (hY : ∀ (w : World) (h : Heap), YP w h → (K w.params).In h)
    (F : ∀ (w : World) (mg : Str → Option Value) (fa : Addr) (h : Heap), (K w.params).In h → h.Ns mainGlobals mg → mg d.name = some (.ref fa) →
      ∃ fd : FuncData, (∀ (s : Shared) (u : Value), BindsTo s fd ⟨[u], []⟩ [("_law_script", u)]) ∧ ∀ base : Heap, (K w.params).In base → base.Ns mainGlobals mg → FnOk l.prog w (K w.params) mg base CX0 4 fa fd ["_law_script"] (spLaw (K w.params))) :
    PySem.W.WalkO q loose XP YP l.row.toRowW d [] (fun f vs => PySem.call f vs) :=
  L2.walk_of (n := 63) (k := 4) (x := "_law_script") (CX := fun _ => CX0) (sp := fun w => spLaw (K w.params)) hn (by decide) hdf ⟨rfl, by decide, by decide⟩ hY F (fun _ _ a ns hl _ hS => ⟨a, ns, rfl, hS, hl, fun _ => rfl⟩) fun _ _ _ _ _ z => z
end
end Toy
open PySem PySem.W PyProof.Rows in
set_option maxRecDepth 100000 in
set_option maxHeartbeats 0 in
theorem PySem.Challenge.cw_planstore_k01_values_told_holds : PySem.Challenge.rw_planstore_k01_values_told.Holds := by
  w_on; o_law; k_head; (case hw => w_witness2)
  k_fill
  refine Toy.walk (l := PySem.Challenge.rw_planstore_k01_values_told) rfl rfl (fun w h Y => PySem.W.kIn_of Y) ?F
  case F =>
    intro w mg fa h KX G hmg
    refine' Toy.all_mk KX G hmg ?a_is_whole ?l_is_whole ?c_is_whole ?k_is_whole ?a_is_name ?l_is_name ?c_is_name ?k_is_name ?a_is_value ?l_is_value ?c_is_value ?k_is_value ?a_value_text ?l_value_text ?c_value_text ?k_value_text ?a_figures_in ?l_figures_in ?c_figures_in ?k_figures_in ?a_value_in ?l_value_in ?c_value_in ?k_value_in ?a_law_draws ?l_law_draws ?c_law_draws ?k_law_draws ?a_law_names ?l_law_names ?c_law_names ?k_law_names ?a_law_value ?l_law_value ?c_law_value ?k_law_value ?a_law_plain ?l_law_plain ?c_law_plain ?k_law_plain ?a_law_word ?l_law_word ?c_law_word ?k_law_word ?a_law_near ?l_law_near ?c_law_near ?k_law_near ?a_law_same ?l_law_same ?c_law_same ?k_law_same ?a_law_truths ?l_law_truths ?c_law_truths ?k_law_truths ?a_law ?l_law ?c_law ?k_law ?z_abs ?z_bool ?z_int ?z_isinstance ?z_len ?z_range ?z_str ?u_FIGURES ?u_LETTERS ?u_MOST_NUMBER ?u_MOST_SIGNS
    (case a_is_whole => k_is)
    (case l_is_whole => k_is)
    (case c_is_whole => k_is)
    (case k_is_whole => k_is)
    (case a_is_name => k_is)
    (case l_is_name => k_is)
    (case c_is_name => k_is)
    (case k_is_name => k_is)
    (case a_is_value => k_is)
    (case l_is_value => k_is)
    (case c_is_value => k_is)
    (case k_is_value => k_is)
    (case a_value_text => k_is)
    (case l_value_text => k_is)
    (case c_value_text => k_is)
    (case k_value_text => k_is)
    (case a_figures_in => k_is)
    (case l_figures_in => k_is)
    (case c_figures_in => k_is)
    (case k_figures_in => k_is)
    (case a_value_in => k_is)
    (case l_value_in => k_is)
    (case c_value_in => k_is)
    (case k_value_in => k_is)
    (case a_law_draws => k_is)
    (case l_law_draws => k_is)
    (case c_law_draws => k_is)
    (case k_law_draws => k_is)
    (case a_law_names => k_is)
    (case l_law_names => k_is)
    (case c_law_names => k_is)
    (case k_law_names => k_is)
    (case a_law_value => k_is)
    (case l_law_value => k_is)
    (case c_law_value => k_is)
    (case k_law_value => k_is)
    (case a_law_plain => k_is)
    (case l_law_plain => k_is)
    (case c_law_plain => k_is)
    (case k_law_plain => k_is)
    (case a_law_word => k_is)
    (case l_law_word => k_is)
    (case c_law_word => k_is)
    (case k_law_word => k_is)
    (case a_law_near => k_is)
    (case l_law_near => k_is)
    (case c_law_near => k_is)
    (case k_law_near => k_is)
    (case a_law_same => k_is)
    (case l_law_same => k_is)
    (case c_law_same => k_is)
    (case k_law_same => k_is)
    (case a_law_truths => k_is)
    (case l_law_truths => k_is)
    (case c_law_truths => k_is)
    (case k_law_truths => k_is)
    (case a_law => k_is)
    (case l_law => k_is)
    (case c_law => k_is)
    (case k_law => k_is)
    (case z_abs => k_is)
    (case z_bool => k_is)
    (case z_int => k_is)
    (case z_isinstance => k_is)
    (case z_len => k_is)
    (case z_range => k_is)
    (case z_str => k_is)
    (case u_FIGURES => k_is)
    (case u_LETTERS => k_is)
    (case u_MOST_NUMBER => k_is)
    (case u_MOST_SIGNS => k_is)
