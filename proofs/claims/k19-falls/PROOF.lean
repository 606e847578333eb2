import PyProof.Rows.All
import Wide.All
import OpenK.AllK
import Wide.FinOn
import HandS.ForMost
import HandS.WideBits
import HandS.RaiseMore
import HandS.IsInst
import HandS.TryOnly
import HandS.Exc
import HandS.ExcOwn
import HandS.ExcIs
import HandS.WordsExc
import HandS.Evl
import PySem.Challenge.RW_planstore_k19_falls
set_option Elab.async false
set_option linter.all false
set_option maxRecDepth 100000
set_option maxHeartbeats 40000000
/-! ### the state of a def: blocks of objects that are ours, over a frame that stands still -/
namespace Z
open PySem L2
structure Hs (L : List (Addr × HO)) (F H : Hp) : Prop where
  nd : (L.map (·.1)).Nodup
  own : ∀ p o, (p, o) ∈ L → H p = some o ∧ F p = none
  fr : ∀ b o, F b = some o → H b = some o
/-- every cell of the block stands -/
def Sees (b : List (Addr × HO)) (H : Hp) : Prop := ∀ p o, (p, o) ∈ b → H p = some o
theorem Sees.same {b : List (Addr × HO)} {H H' : Hp} (s : Sees b H) (e : Same H H') : Sees b H' := fun p o m => e p o (s p o m)
theorem Sees.at {b : List (Addr × HO)} {H : Hp} (s : Sees b H) (i : Nat) {p : Addr} {o : HO} (h : b[i]? = some (p, o)) : H p = some o := s p o (List.mem_of_getElem? h)
section
variable {L L1 L2 : List (Addr × HO)} {F H H' : Hp} {p : Addr} {o o' : HO}
theorem Hs.same (S : Hs L F H) : Same F H := S.fr
theorem Hs.sees (S : Hs L F H) : Sees L H := fun p o m => (S.own p o m).1
theorem Hs.at (S : Hs L F H) (i : Nat) (h : L[i]? = some (p, o)) : H p = some o := S.sees.at i h
theorem Hs.nil : Hs [] H H := ⟨List.nodup_nil, fun _ _ m => (nomatch m), fun _ _ e => e⟩
theorem Hs.ext (S : Hs L F H) (e : Same H H') : Hs L F H' := ⟨S.nd, fun p o m => ⟨e p o (S.own p o m).1, (S.own p o m).2⟩, fun b o q => e b o (S.fr b o q)⟩
theorem Hs.fresh (S : Hs L F H) (hp : H p = none) : p ∉ L.map (·.1) ∧ F p = none := by
  refine ⟨fun m => ?_, ?_⟩
  · obtain ⟨⟨q, u⟩, m, e⟩ := List.mem_map.mp m
    have h := (S.own q u m).1
    have e' : q = p := e
    rw [e', hp] at h
    cases h
  · cases h : F p with
    | none => rfl
    | some u => rw [S.fr p u h] at hp; cases hp
theorem same_new (hp : H p = none) : Same H (upd H p o) := fun b u e => by rw [upd_ne (ne_of_none e hp)]; exact e
theorem Hs.add (S : Hs L F H) (e : Same H H') (hp : H p = none) (h : H' p = some o) : Hs ((p, o) :: L) F H' := by
  obtain ⟨h1, h2⟩ := S.fresh hp
  refine ⟨List.nodup_cons.mpr ⟨h1, S.nd⟩, fun q u m => ?_, fun b u q => e b u (S.fr b u q)⟩
  rcases List.mem_cons.mp m with m | m
  · cases m
    exact ⟨h, h2⟩
  · exact ⟨e q u (S.own q u m).1, (S.own q u m).2⟩
theorem Hs.new (S : Hs L F H) (hp : H p = none) : Hs ((p, o) :: L) F (upd H p o) := S.add (same_new hp) hp upd_same
theorem Hs.head (S : Hs ((p, o) :: L) F H) (o' : HO) : Hs ((p, o') :: L) F (upd H p o') := by
  have nd := S.nd
  rw [List.map_cons, List.nodup_cons] at nd
  refine ⟨by rw [List.map_cons, List.nodup_cons]; exact nd, fun q u m => ?_, fun b u q => ?_⟩
  · rcases List.mem_cons.mp m with m | m
    · cases m
      exact ⟨upd_same, (S.own p o List.mem_cons_self).2⟩
    · have hne : q ≠ p := fun e => nd.1 (List.mem_map.mpr ⟨(q, u), m, e⟩)
      have h := S.own q u (List.mem_cons_of_mem _ m)
      exact ⟨by rw [upd_ne hne]; exact h.1, h.2⟩
  · have hne : b ≠ p := fun e => by
      have := (S.own p o List.mem_cons_self).2
      rw [e, this] at q
      cases q
    rw [upd_ne hne]
    exact S.fr b u q
theorem Hs.perm (S : Hs L F H) (e : L.Perm L1) : Hs L1 F H := ⟨(e.map _).nodup_iff.mp S.nd, fun p o m => S.own p o (e.mem_iff.mpr m), S.fr⟩
theorem set_perm : ∀ {L : List (Addr × HO)} {i : Nat} {x : Addr × HO}, L[i]? = some x → ∀ y, (L.set i y).Perm (y :: L.eraseIdx i)
  | [], i, x, h, y => by simp at h
  | a :: r, 0, x, h, y => List.Perm.refl _
  | a :: r, i + 1, x, h, y => by
    have ih := set_perm (L := r) (i := i) (x := x) (by simpa using h) y
    exact (List.Perm.cons a ih).trans (List.Perm.swap _ _ _)
theorem self_perm {L : List (Addr × HO)} {i : Nat} {x : Addr × HO} (h : L[i]? = some x) : L.Perm (x :: L.eraseIdx i) := by
  have e := set_perm h x
  have : L.set i x = L := by
    obtain ⟨h1, h2⟩ := List.getElem?_eq_some_iff.mp h
    rw [← h2]
    exact List.set_getElem_self h1
  rw [this] at e
  exact e
theorem Hs.set (S : Hs L F H) (i : Nat) (h : L[i]? = some (p, o)) (o' : HO) : Hs (L.set i (p, o')) F (upd H p o') :=
  ((S.perm (self_perm h)).head o').perm (set_perm h (p, o')).symm
theorem Hs.sub (S : Hs L F H) (e : L1.Sublist L) : Hs L1 F H := ⟨(e.map _).nodup S.nd, fun p o m => S.own p o (e.subset m), S.fr⟩
/-- some cells, by their places, in any order -/
theorem Hs.pick (S : Hs L F H) : ∀ (is : List Nat) {L' : List (Addr × HO)}, is.Nodup → is.map (fun i => L[i]?) = L'.map some → Hs L' F H
  | is, L', hn, h => by
    have mem : ∀ x ∈ L', ∃ i ∈ is, L[i]? = some x := fun x hx => by
      have : some x ∈ is.map (fun i => L[i]?) := by rw [h]; exact List.mem_map.mpr ⟨x, hx, rfl⟩
      obtain ⟨i, hi, e⟩ := List.mem_map.mp this
      exact ⟨i, hi, e⟩
    refine ⟨?_, fun p o m => ?_, S.fr⟩
    · clear mem
      induction is generalizing L' with
      | nil =>
        cases L' with
        | nil => exact List.nodup_nil
        | cons a r => cases h
      | cons i is ih =>
        cases L' with
        | nil => cases h
        | cons a r =>
          rw [List.map_cons, List.map_cons, List.cons.injEq] at h
          obtain ⟨h1, h2⟩ := h
          rw [List.nodup_cons] at hn
          rw [List.map_cons, List.nodup_cons]
          refine ⟨fun m => ?_, ih r hn.2 h2⟩
          obtain ⟨b, hb, e⟩ := List.mem_map.mp m
          have : some b ∈ is.map (fun i => L[i]?) := by rw [h2]; exact List.mem_map.mpr ⟨b, hb, rfl⟩
          obtain ⟨j, hj, e2⟩ := List.mem_map.mp this
          have f1 : (L.map (·.1))[i]? = some a.1 := by rw [List.getElem?_map, h1]; rfl
          have f2 : (L.map (·.1))[j]? = some b.1 := by rw [List.getElem?_map]; show Option.map _ (L[j]?) = _; rw [e2]; rfl
          rw [e] at f2
          have : i = j := nd_ix S.nd f1 f2
          rw [this] at hn
          exact hn.1 hj
    · obtain ⟨i, _, e⟩ := mem _ m
      exact S.own p o (List.mem_of_getElem? e)
/-- what stands beside L1 goes into the frame, and comes back behind -/
theorem Hs.split (S : Hs (L1 ++ L2) F H) : ∃ F', Hs L1 F' H ∧ (Same F F' ∧ Sees L2 F') ∧ ∀ L' H', Hs L' F' H' → Hs (L' ++ L2) F H' := by
  have nd := S.nd
  rw [List.map_append, List.nodup_append] at nd
  obtain ⟨n1, n2, n3⟩ := nd
  have key : ∀ p o, (p, o) ∈ L2 → List.lookup p L2 = some o := by
    clear S n3
    induction L2 with
    | nil => intro p o m; cases m
    | cons a r ih =>
      intro p o m
      rw [List.map_cons, List.nodup_cons] at n2
      obtain ⟨q, u⟩ := a
      rcases List.mem_cons.mp m with m | m
      · cases m
        simp [List.lookup]
      · have hne : p ≠ q := fun e => n2.1 (List.mem_map.mpr ⟨(p, o), m, e⟩)
        have hb : (p == q) = false := by simpa using hne
        simp only [List.lookup, hb]
        exact ih n2.2 p o m
  have back : ∀ p o, List.lookup p L2 = some o → (p, o) ∈ L2 := by
    clear S n3 n2 key
    induction L2 with
    | nil => intro p o m; cases m
    | cons a r ih =>
      intro p o m
      obtain ⟨q, u⟩ := a
      by_cases e : p = q
      · subst e
        simp [List.lookup] at m
        subst m
        exact List.mem_cons_self
      · have hb : (p == q) = false := by simpa using e
        simp only [List.lookup, hb] at m
        exact List.mem_cons_of_mem _ (ih p o m)
  refine ⟨fun b => (List.lookup b L2).or (F b), ⟨n1, fun p o m => ⟨(S.own p o (List.mem_append_left _ m)).1, ?_⟩, fun b o q => ?_⟩, ⟨fun b o q => ?_, fun p o m => by simp [key p o m]⟩, fun L' H' S' => ⟨?_, fun p o m => ?_, fun b o q => ?_⟩⟩
  · cases h : List.lookup p L2 with
    | none => exact (S.own p o (List.mem_append_left _ m)).2
    | some u => exact absurd rfl (n3 p (List.mem_map.mpr ⟨_, m, rfl⟩) p (List.mem_map.mpr ⟨_, back p u h, rfl⟩))
  · cases h : List.lookup b L2 with
    | none =>
      have q' : F b = some o := by simpa [h] using q
      exact S.fr b o q'
    | some u =>
      have q' : u = o := by simpa [h] using q
      subst q'
      exact (S.own b u (List.mem_append_right _ (back b u h))).1
  · show (List.lookup b L2).or (F b) = some o
    cases h : List.lookup b L2 with
    | none => exact q
    | some u => rw [(S.own b u (List.mem_append_right _ (back b u h))).2] at q; cases q
  · rw [List.map_append, List.nodup_append]
    refine ⟨S'.nd, n2, fun a ha b hb e => ?_⟩
    subst e
    obtain ⟨⟨q, u⟩, m, rfl⟩ := List.mem_map.mp ha
    obtain ⟨⟨q', u'⟩, m', e⟩ := List.mem_map.mp hb
    have e' : q' = q := e
    subst e'
    have h := (S'.own _ u m).2
    simp [key _ u' m'] at h
  · rcases List.mem_append.mp m with m | m
    · obtain ⟨h1, h2⟩ := S'.own p o m
      refine ⟨h1, ?_⟩
      cases h : List.lookup p L2 with
      | none => simpa [h] using h2
      | some u => simp [h] at h2
    · exact ⟨S'.fr p o (by simp [key p o m]), (S.own p o (List.mem_append_right _ m)).2⟩
  · refine S'.fr b o ?_
    show (List.lookup b L2).or (F b) = some o
    cases h : List.lookup b L2 with
    | none => exact q
    | some u => rw [(S.own b u (List.mem_append_right _ (back b u h))).2] at q; cases q
theorem flat_perm : ∀ {Ls : List (List (Addr × HO))} {i : Nat} {b : List (Addr × HO)}, Ls[i]? = some b → ∀ c, (Ls.set i c).flatten.Perm (c ++ (Ls.eraseIdx i).flatten)
  | [], i, b, h, c => by simp at h
  | a :: r, 0, b, h, c => List.Perm.refl _
  | a :: r, i + 1, b, h, c => by
    have ih := flat_perm (Ls := r) (i := i) (b := b) (by simpa using h) c
    show (a ++ (r.set i c).flatten).Perm (c ++ (a ++ (r.eraseIdx i).flatten))
    refine (List.Perm.append_left a ih).trans ?_
    rw [← List.append_assoc, ← List.append_assoc]
    exact List.Perm.append_right _ List.perm_append_comm
theorem set_self {α : Type} {Ls : List α} {i : Nat} {b : α} (h : Ls[i]? = some b) : Ls.set i b = Ls := by
  obtain ⟨h1, h2⟩ := List.getElem?_eq_some_iff.mp h
  rw [← h2]
  exact List.set_getElem_self h1
/-- the i-th block taken out, changed, put back -/
theorem Hs.block {Ls : List (List (Addr × HO))} (S : Hs Ls.flatten F H) (i : Nat) {b : List (Addr × HO)} (h : Ls[i]? = some b) :
    ∃ F', Hs b F' H ∧ (Same F F' ∧ Sees (Ls.eraseIdx i).flatten F') ∧ ∀ c H', Hs c F' H' → Hs (Ls.set i c).flatten F H' := by
  have p := flat_perm h b
  rw [set_self h] at p
  obtain ⟨F', S', sm, k⟩ := (S.perm p).split
  exact ⟨F', S', sm, fun c H' q => (k c H' q).perm (flat_perm h c).symm⟩
/-- another block in the stead of the i-th -/
theorem Hs.swap {Ls : List (List (Addr × HO))} {c : List (Addr × HO)} (S : Hs (c ++ Ls.flatten) F H) (i : Nat) {b : List (Addr × HO)} (h : Ls[i]? = some b) : Hs (Ls.set i c).flatten F H := by
  have p := flat_perm h b
  rw [set_self h] at p
  have S1 : Hs (c ++ (b ++ (Ls.eraseIdx i).flatten)) F H := S.perm (List.Perm.append_left c p)
  exact (S1.sub (List.Sublist.append_left (List.sublist_append_right _ _) c)).perm (flat_perm h c).symm
theorem Hs.join {new : List (Addr × HO)} (N : Hs new H H') (S : Hs L F H) : Hs (new ++ L) F H' := by
  refine ⟨?_, fun p o m => ?_, fun b o q => N.fr b o (S.fr b o q)⟩
  · rw [List.map_append, List.nodup_append]
    refine ⟨N.nd, S.nd, fun a ha b hb e => ?_⟩
    subst e
    obtain ⟨⟨q, u⟩, m, rfl⟩ := List.mem_map.mp ha
    obtain ⟨⟨q', u'⟩, m', e⟩ := List.mem_map.mp hb
    have e' : q' = q := e
    subst e'
    have h1 := (N.own _ u m).2
    rw [(S.own _ u' m').1] at h1
    cases h1
  · rcases List.mem_append.mp m with m | m
    · obtain ⟨h1, h2⟩ := N.own p o m
      refine ⟨h1, ?_⟩
      cases h : F p with
      | none => rfl
      | some u => rw [S.fr p u h] at h2; cases h2
    · obtain ⟨h1, h2⟩ := S.own p o m
      exact ⟨N.fr p o h1, h2⟩
theorem Hs.base {F0 : Hp} (S : Hs L F H) (e : Same F0 F) : Hs L F0 H := ⟨S.nd, fun p o m => ⟨(S.own p o m).1, e.free (S.own p o m).2⟩, fun b o q => S.fr b o (e b o q)⟩
/-- all else into the frame -/
theorem Hs.all (S : Hs L F H) : ∃ F', Hs L F' H ∧ (∀ b o, b ∉ L.map (·.1) → H b = some o → F' b = some o) ∧ Same F F' := by
  refine ⟨fun b => if b ∈ L.map (·.1) then none else H b, ⟨S.nd, fun p o m => ⟨(S.own p o m).1, if_pos (List.mem_map.mpr ⟨_, m, rfl⟩)⟩, fun b o q => ?_⟩, fun b o h q => (if_neg h).trans q, fun b o q => ?_⟩
  · by_cases h : b ∈ L.map (·.1)
    · rw [if_pos h] at q; cases q
    · rwa [if_neg h] at q
  · have h : b ∉ L.map (·.1) := fun h => by
      obtain ⟨⟨p, u⟩, m, e⟩ := List.mem_map.mp h
      have e' : p = b := e
      rw [← e', (S.own p u m).2] at q
      cases q
    exact (if_neg h).trans (S.fr b o q)
theorem Hs.blk {Ls : List (List (Addr × HO))} (S : Hs Ls.flatten F H) (i : Nat) {b : List (Addr × HO)} (h : Ls[i]? = some b) : Sees b H := fun p o m =>
  (S.own p o (List.mem_flatten.mpr ⟨b, List.mem_of_getElem? h, m⟩)).1
end
end Z
/-! ### readings, one word a construct -/
namespace Z
open PySem L2
/-- one of several readings, chosen where it is asked -/
def tEx {ι : Type} (p : ι → Prop) (t : ι → TE) : TE := fun σ H Q => ∃ i, p i ∧ t i σ H Q
/-- C(), no __init__ but object's -/
def tMakeO (C : Addr) : TE := fun _ H Q => ∀ a dx, H a = none → H dx = none → dx ≠ a → Q (.ref a) (upd (upd H dx (.own a)) a (.ins C dx []))
/-- a slice's part that may be None -/
def tPartN (t : TE) : TO := fun σ H Q => t σ H fun x H1 => (x = .non ∧ Q none H1) ∨ ∃ i, x = .int i ∧ Q (some i) H1
section
variable {σ : L2.St} {H : Hp} {Q : VK} {QB : Bool → Hp → Prop} {D : Ends} {t1 t2 ts tu : TS} {te ta tb tv tx : TE} {tt t u : TT} {v x y : V} {i : Nat} {K : PySem.W.Frag} {R : List V → Hp → Prop} {tA tr : TA}
theorem seq (h : t1 { D with nx := t2 D } σ H) : tSeq t1 t2 D σ H := h
theorem next (h : D.nx σ H) : tNext D σ H := h
theorem var (h : σ[i]? = some (some v)) (k : Q v H) : tVar i σ H Q := ⟨v, h, k⟩
theorem con (k : Q v H) : tC v σ H Q := k
theorem asg (h : te σ H fun x H1 => D.nx (σ.set i (some x)) H1) : tAsg te (gName i) D σ H := h
theorem drop (h : te σ H fun _ H1 => D.nx σ H1) : tDrop te D σ H := h
theorem ret (h : te σ H D.rt) : tRet te D σ H := h
theorem retN (h : D.rt .non H) : tRetN D σ H := h
theorem ifS (h : tt σ H fun b H1 => if b = true then t1 D σ H1 else t2 D σ H1) : tIfS tt t1 t2 D σ H := h
theorem op {r : R2} (h : ta σ H fun x H1 => tb σ H1 fun y H2 => r x y H2 Q) : tOp r ta tb σ H Q := h
theorem un {r : V → Hp → VK → Prop} (h : ta σ H fun x H1 => r x H1 Q) : tUn r ta σ H Q := h
theorem i0 {g : Int → Int → V} {a b : Int} (k : Q (g a b) H) : rI0 g (.int a) (.int b) H Q := ⟨a, b, rfl, rfl, k⟩
theorem ic {C : Int → Int → Prop} {g : Int → Int → V} {a b : Int} (c : C a b) (k : Q (g a b) H) : rI C g (.int a) (.int b) H Q := ⟨a, b, rfl, rfl, c, k⟩
theorem eqS (h : scal x y = true) (k : Q (.bl (decide (x = y))) H) : rEq x y H Q := ⟨h, k⟩
theorem neS (h : scal x y = true) (k : Q (.bl (!decide (x = y))) H) : rNe x y H Q := ⟨h, k⟩
theorem test {b : Bool} (h : te σ H fun x H' => ∃ k, x = .bl k ∧ QB k H') : tTest te σ H QB := h
theorem tstB {b : Bool} (k : QB b H) : ∃ k, (V.bl b) = .bl k ∧ QB k H := ⟨b, rfl, k⟩
theorem bB (h : te σ H fun x H1 => ∃ c, x = .bl c ∧ QB c H1) : tB te σ H QB := h
theorem andT (h : t σ H fun c H1 => if c = true then u σ H1 QB else QB false H1) : tAnd t u σ H QB := h
theorem orT (h : t σ H fun c H1 => if c = true then QB true H1 else u σ H1 QB) : tOr t u σ H QB := h
theorem notT (h : t σ H fun c H1 => QB (!c) H1) : tNot t σ H QB := h
theorem andV (h : ta σ H fun x H1 => ∃ c, x = .bl c ∧ if c = true then tb σ H1 Q else Q (.bl false) H1) : tAndV ta tb σ H Q := h
theorem orV (h : ta σ H fun x H1 => ∃ c, x = .bl c ∧ if c = true then Q (.bl true) H1 else tb σ H1 Q) : tOrV ta tb σ H Q := h
theorem notV (h : ta σ H fun x H1 => ∃ c, x = .bl c ∧ Q (.bl (!c)) H1) : tNotV ta σ H Q := h
theorem ifE (h : tt σ H fun c H1 => if c = true then ta σ H1 Q else tb σ H1 Q) : tIf tt ta tb σ H Q := h
theorem blE {b : Bool} {P : Bool → Prop} (k : P b) : ∃ c, (V.bl b) = .bl c ∧ P c := ⟨b, rfl, k⟩
theorem nil (k : R [] H) : tNil σ H R := k
theorem cons (h : ta σ H fun x H1 => tr σ H1 fun xs H2 => R (x :: xs) H2) : tCons ta tr σ H R := h
theorem fld {f : Str} (h : ta σ H fun x H1 => ∃ a C dx fs v, x = .ref a ∧ H1 a = some (.ins C dx fs) ∧ Cls K C ∧ NoAttr K C f ∧ fs.lookup f = some v ∧ Q v H1) : tFld K ta f σ H Q := h
theorem fldE {a C dx : Addr} {fs : List (Str × V)} {f : Str} {R : V → Prop} (ho : H a = some (.ins C dx fs)) (c : Cls K C) (n : NoAttr K C f) (l : fs.lookup f = some v) (k : R v) :
    ∃ a' C dx fs v, (V.ref a) = .ref a' ∧ H a' = some (.ins C dx fs) ∧ Cls K C ∧ NoAttr K C f ∧ fs.lookup f = some v ∧ R v := ⟨a, C, dx, fs, v, rfl, ho, c, n, l, k⟩
theorem sfld {f : Str} (h : tv σ H fun y H1 => ta σ H1 fun x H2 => ∃ a C dx fs, x = .ref a ∧ H2 a = some (.ins C dx fs) ∧ Cls K C ∧ NoAttr K C f ∧ fs.length < 1000 ∧ D.nx σ (upd H2 a (.ins C dx (putF f y fs)))) : sFld K ta tv f D σ H := h
theorem sfldE {a C dx : Addr} {fs : List (Str × V)} {f : Str} {R : Addr → Addr → Addr → List (Str × V) → Prop} (ho : H a = some (.ins C dx fs)) (c : Cls K C) (n : NoAttr K C f) (l : fs.length < 1000) (k : R a C dx fs) :
    ∃ a' C dx fs, (V.ref a) = .ref a' ∧ H a' = some (.ins C dx fs) ∧ Cls K C ∧ NoAttr K C f ∧ fs.length < 1000 ∧ R a' C dx fs := ⟨a, C, dx, fs, rfl, ho, c, n, l, k⟩
theorem aug {f : Str} {rd : V → V → Hp → VK → Prop} (h : ta σ H fun x H1 => ∃ a C dx fs v, x = .ref a ∧ H1 a = some (.ins C dx fs) ∧ Cls K C ∧ NoAttr K C f ∧ fs.lookup f = some v ∧
    tv σ H1 fun y H2 => rd v y H2 fun z H3 => ∃ dx' fs', H3 a = some (.ins C dx' fs') ∧ fs'.length < 1000 ∧ D.nx σ (upd H3 a (.ins C dx' (putF f z fs')))) : sFldAug K ta tv rd f D σ H := h
theorem augE {a C dx : Addr} {fs : List (Str × V)} {R : Addr → List (Str × V) → Prop} (ho : H a = some (.ins C dx fs)) (l : fs.length < 1000) (k : R dx fs) :
    ∃ dx fs, H a = some (.ins C dx fs) ∧ fs.length < 1000 ∧ R dx fs := ⟨dx, fs, ho, l, k⟩
theorem augV {a C dx : Addr} {fs : List (Str × V)} {f : Str} {R : Addr → Addr → V → Prop} (ho : H a = some (.ins C dx fs)) (c : Cls K C) (n : NoAttr K C f) (l : fs.lookup f = some v) (k : R a C v) :
    ∃ a' C dx fs v, (V.ref a) = .ref a' ∧ H a' = some (.ins C dx fs) ∧ Cls K C ∧ NoAttr K C f ∧ fs.lookup f = some v ∧ R a' C v := ⟨a, C, dx, fs, v, rfl, ho, c, n, l, k⟩
theorem rAddE {a b : Int} {R : V → Hp → Prop} (k : R (.int (a + b)) H) : rAdd (.int a) (.int b) H R := ⟨a, b, rfl, rfl, k⟩
theorem isN {P : Prop} (k : P) : (V.non = .non) ∧ P := ⟨rfl, k⟩
theorem lstE {vs : List V} (hz : vs.length ≤ 1000) (k : ∀ p, H p = none → Q (.ref p) (upd H p (.lst vs))) : vs.length ≤ sizeLine ∧ ∀ p, H p = none → Q (.ref p) (upd H p (.lst vs)) := ⟨Nat.le_trans hz (by decide), k⟩
theorem lst (h : tA σ H fun xs H1 => xs.length ≤ sizeLine ∧ ∀ p, H1 p = none → Q (.ref p) (upd H1 p (.lst xs))) : tLst tA σ H Q := h
theorem tup (h : tA σ H fun xs H1 => xs.length ≤ sizeLine ∧ ∀ p, H1 p = none → Q (.ref p) (upd H1 p (.tup xs))) : tTup tA σ H Q := h
theorem call {sp : Sp} {E : XK} (h : tA σ H fun vs H1 => sp (vs ++ []) H1 Q E) : tCall sp [] E tA σ H Q := h
theorem iteD {p A B : Prop} [Decidable p] (h1 : p → A) (h2 : ¬ p → B) : if decide p = true then A else B := by
  by_cases h : p
  · rw [if_pos (decide_eq_true h)]; exact h1 h
  · rw [if_neg (by rw [decide_eq_false h]; exact Bool.false_ne_true)]; exact h2 h
theorem iteN {p A B : Prop} [Decidable p] (h1 : ¬ p → A) (h2 : p → B) : if (!decide p) = true then A else B := by
  by_cases h : p
  · rw [if_neg (by rw [decide_eq_true h]; exact Bool.false_ne_true)]; exact h2 h
  · rw [if_pos (by rw [decide_eq_false h]; rfl)]; exact h1 h
theorem setLE {p : Addr} {xs : List V} {i : Nat} {v : V} {R : Hp → Prop} (ho : H p = some (.lst xs)) (hi : i < xs.length) (k : R (upd H p (.lst (xs.set i v)))) : rSetL (.ref p) (.int i) v H R :=
  ⟨p, xs, i, i, rfl, rfl, ho, by unfold ixN; rw [if_pos (by omega), if_pos (by omega)]; simp, k⟩
theorem m0 {r : V → List V → Hp → VK → Prop} (h : ta σ H fun x H1 => (∃ a, x = .str a) ∧ r x [] H1 Q) : tM0 r ta σ H Q := h
theorem m1 {r : V → List V → Hp → VK → Prop} (h : ta σ H fun x H1 => (∃ a, x = .str a) ∧ te σ H1 fun y H2 => r x [y] H2 Q) : tM1 r ta te σ H Q := h
theorem lenSeq {p : Addr} {xs : List V} {R : List V → Prop} (h : SqL K H p xs) (k : R xs) : ∃ q ys, [V.ref p] = [.ref q] ∧ (SqL K H q ys ∨ SqT K H q ys) ∧ R ys := ⟨p, xs, rfl, .inl h, k⟩
theorem ixAll {p : Addr} {xs : List V} {z : Int} {G : V → Prop} (h : SqL K H p xs) (h0 : 0 ≤ z) (h1 : z < xs.length) (hp : ∀ x ∈ xs, G x) (k : ∀ v, G v → xs[z.toNat]? = some v → Q v H) : rIxL K (.ref p) (.int z) H Q := by
  have hz : z.toNat < xs.length := by omega
  have e : xs[z.toNat]? = some xs[z.toNat] := List.getElem?_eq_getElem hz
  refine ⟨p, xs, z, xs[z.toNat], rfl, rfl, h, ?_, k _ (hp _ (List.getElem_mem hz)) e⟩
  have e2 := atI_nat e
  have e3 : ((z.toNat : Nat) : Int) = z := by omega
  rwa [e3] at e2
theorem ixL {p : Addr} {xs : List V} {i : Nat} {v : V} (h : SqL K H p xs) (e : xs[i]? = some v) (k : Q v H) : rIxL K (.ref p) (.int i) H Q := ⟨p, xs, i, v, rfl, rfl, h, atI_nat e, k⟩
theorem iteTd {b : Bool} {A B : Prop} (h : b = true) (k : A) : if b = true then A else B := by rw [if_pos h]; exact k
theorem iteFd {b : Bool} {A B : Prop} (h : b = false) (k : B) : if b = true then A else B := by rw [if_neg (by rw [h]; exact Bool.false_ne_true)]; exact k
theorem gcons {t : TG} {u : TGs} {v : V} {r : List V} {R : L2.St → Hp → Prop} (h : t v σ H fun σ' H' => u r σ' H' R) : gCons t u (v :: r) σ H R := ⟨v, r, rfl, h⟩
theorem gnil {R : L2.St → Hp → Prop} (k : R σ H) : gNil [] σ H R := ⟨rfl, k⟩
theorem gname {v : V} {R : L2.St → Hp → Prop} (k : R (σ.set i (some v)) H) : gName i v σ H R := k
theorem partN {R : Option Int → Hp → Prop} (h : te σ H fun x H1 => (x = .non ∧ R none H1) ∨ ∃ i, x = .int i ∧ R (some i) H1) : tPartN te σ H R := h
theorem forR1 {g : TG} (h : tA σ H fun vs H1 => ∃ j : Int, vs = [.int j] ∧ -(2 ^ 62) ≤ j ∧ j < 2 ^ 62 ∧ ∃ W : Nat → Nat → L2.St → Hp → Prop, (∃ m, W 0 m σ H1) ∧ ∀ i m σ H, W i m σ H →
      ((Itr 0 j.toNat).stop i H ∧ D.nx σ H) ∨ ((Itr 0 j.toNat).go i H ∧ ∃ N : L2.St → Hp → Prop, (∀ σ' H', N σ' H' → ∃ m', m' < m ∧ W (i + 1) m' σ' H') ∧ ∀ x H', (Itr 0 j.toNat).yld i H x H' → g x σ H' fun σ2 H2 => ts { D with nx := N, ct := N, bk := D.nx } σ2 H2)) :
    tFor (iRng1 tA) g ts D σ H := h
theorem forL {tl : TE} {g : TG} (h : tl σ H fun x H1 => ∃ a, x = .ref a ∧ (∃ xs, SqL K H1 a xs) ∧ ∃ W : Nat → Nat → L2.St → Hp → Prop, (∃ m, W 0 m σ H1) ∧ ∀ i m σ H, W i m σ H →
      ((Itl K a).stop i H ∧ D.nx σ H) ∨ ((Itl K a).go i H ∧ ∃ N : L2.St → Hp → Prop, (∀ σ' H', N σ' H' → ∃ m', m' < m ∧ W (i + 1) m' σ' H') ∧ ∀ x H', (Itl K a).yld i H x H' → g x σ H' fun σ2 H2 => ts { D with nx := N, ct := N, bk := D.nx } σ2 H2)) :
    tFor (iList K tl) g ts D σ H := h
theorem rng {n : Nat} {P : Nat → Prop} (hn : n ≤ 100000) (k : P n) : ∃ j : Int, [V.int (n : Int)] = [.int j] ∧ -(2 ^ 62) ≤ j ∧ j < 2 ^ 62 ∧ P j.toNat := ⟨n, rfl, by omega, by omega, by rw [Int.toNat_natCast]; exact k⟩
theorem cut {M : L2.St → Hp → Prop} (h : tu { D with nx := M } σ H) (k : ∀ σ' H', M σ' H' → ts D σ' H') : Evl.tCut tu ts D σ H := ⟨M, h, k⟩
theorem meth {C : Addr} {m : Str} {sp : Sp} {dvs : List V} {E : XK} (h : ta σ H fun x H1 => ∃ a dx fs, x = .ref a ∧ H1 a = some (.ins C dx fs) ∧ fs.lookup m = none ∧ tA σ H1 fun vs H2 => sp (x :: (vs ++ dvs)) H2 Q E) : tMeth C m sp dvs E ta tA σ H Q := h
theorem methE {C a dx : Addr} {fs : List (Str × V)} {m : Str} {P : Prop} (ho : H a = some (.ins C dx fs)) (l : fs.lookup m = none) (k : P) :
    ∃ a' dx fs, (V.ref a) = .ref a' ∧ H a' = some (.ins C dx fs) ∧ fs.lookup m = none ∧ P := ⟨a, dx, fs, rfl, ho, l, k⟩
theorem make {C : Addr} {sp : Sp} {dvs : List V} {E : XK} (h : tA σ H fun vs H1 => ∀ x dx, H1 x = none → H1 dx = none → dx ≠ x →
    sp (.ref x :: (vs ++ dvs)) (upd (upd H1 dx (.own x)) x (.ins C dx [])) (fun v H2 => v = .non ∧ Q (.ref x) H2) E) : tMake C sp dvs E tA σ H Q := h
theorem makeO {C : Addr} (h : ∀ a dx, H a = none → H dx = none → dx ≠ a → Q (.ref a) (upd (upd H dx (.own a)) a (.ins C dx []))) : tMakeO C σ H Q := h
theorem mkO {L : List (Addr × HO)} {F : Hp} {a dx C : Addr} (S : Hs L F H) (h1 : H a = none) (h2 : H dx = none) (h3 : dx ≠ a) : Hs ((a, .ins C dx []) :: L) F (upd (upd H dx (.own a)) a (.ins C dx [])) :=
  (S.ext (same_new h2)).new (by rw [upd_ne (Ne.symm h3)]; exact h1)
theorem sl {r : V → Option Int → Option Int → Hp → VK → Prop} {tl th : TO} (h : te σ H fun x H1 => tl σ H1 fun l H2 => th σ H2 fun u H3 => r x l u H3 Q) : tSl r te tl th σ H Q := h
theorem noPart {R : Option Int → Hp → Prop} (k : R none H) : tNoPart σ H R := k
theorem part {R : Option Int → Hp → Prop} (h : te σ H fun x H1 => ∃ i, x = .int i ∧ R (some i) H1) : tPart te σ H R := h
theorem partE {i : Int} {P : Int → Prop} (k : P i) : ∃ j, (V.int i) = .int j ∧ P j := ⟨i, rfl, k⟩
theorem slS {z : Str} {lo hi : Option Int} (hz : z.length ≤ 10000) (k : Q (.str (cutS z lo hi)) H) : rSlS (.str z) lo hi H Q := ⟨z, rfl, Nat.le_trans hz (by decide), k⟩
theorem bm {T : String} {r : V → List V → Hp → VK → Prop} (h : ta σ H fun x H1 => tyV K T x H1 ∧ tA σ H1 fun xs H2 => r x xs H2 Q) : tBM K T r ta tA σ H Q := h
theorem bm0 {T : String} {r : V → List V → Hp → VK → Prop} (h : ta σ H fun x H1 => tyV K T x H1 ∧ r x [] H1 Q) : tBM0 K T r ta σ H Q := h
theorem asgG {g : TG} (h : te σ H fun x H1 => g x σ H1 D.nx) : tAsg te g D σ H := h
theorem gsub {to ti : TE} {t : TSet} {v : V} {R : L2.St → Hp → Prop} (h : to σ H fun o H1 => ti σ H1 fun i H2 => t o i v H2 fun H3 => R σ H3) : gSub to ti t v σ H R := h
theorem dget {td ty : TE} (h : td σ H fun x H1 => ty σ H1 fun y H2 => ∃ a v, x = .ref a ∧ DGet H2 a y (some v) ∧ Q v H2) : tDGet td ty σ H Q := h
theorem dgetE {a : Addr} {kvs : List (Key × V)} {k : Key} {v : V} {R : V → Prop} (ho : H a = some (.dK kvs)) (e : valV kvs k = some v) (q : R v) : ∃ a' v, (V.ref a) = .ref a' ∧ DGet H a' (kV k) (some v) ∧ R v := ⟨a, v, rfl, e ▸ DGet.k ho, q⟩
theorem dgetS {a : Addr} {kvs : List (Key × V)} {k : Str} {v : V} {R : V → Prop} (ho : H a = some (.dK kvs)) (e : valV kvs (Sum.inr k) = some v) (q : R v) : ∃ a' v, (V.ref a) = .ref a' ∧ DGet H a' (.str k) (some v) ∧ R v := ⟨a, v, rfl, e ▸ DGet.k (k := Sum.inr k) ho, q⟩
theorem dput {td ty : TE} (h : tv σ H fun v H1 => td σ H1 fun x H2 => ty σ H2 fun y H3 => ∃ a H4, x = .ref a ∧ DPut H3 a y v H4 ∧ D.nx σ H4) : sDPut td ty tv D σ H := h
theorem dputS {a : Addr} {kvs kvs' : List (Key × V)} {k : Str} {v : V} {R : Hp → Prop} (ho : H a = some (.dK kvs)) (l : kvs.length < 1000) (e : putK kvs (Sum.inr k) v = kvs') (q : R (upd H a (.dK kvs'))) :
    ∃ a' H4, (V.ref a) = .ref a' ∧ DPut H a' (.str k) v H4 ∧ R H4 := ⟨a, _, rfl, DPut.k (k := Sum.inr k) ho (Nat.lt_of_lt_of_le l (by decide)), by rw [e]; exact q⟩
theorem pairsN {R : List (V × V) → Hp → Prop} (k : R [] H) : tPairs [] σ H R := k
theorem pairsC {tk : TE} {r : List (TE × TE)} {R : List (V × V) → Hp → Prop} (h : tk σ H fun x H1 => tv σ H1 fun y H2 => tPairs r σ H2 fun ps H3 => R ((x, y) :: ps) H3) : tPairs ((tk, tv) :: r) σ H R := h
theorem yes {R : Bool → Hp → Prop} (k : R true H) : tYes σ H R := k
theorem addS {a b : Str} {R : Str → Str → Prop} (hz : a.length + b.length ≤ 100000) (k : R a b) : ∃ i j, (V.str a) = .str i ∧ (V.str b) = .str j ∧ i.length + j.length ≤ sizeLine ∧ R i j := ⟨a, b, rfl, rfl, Nat.le_trans hz (by decide), k⟩
theorem cb {r : List V → Hp → VK → Prop} (h : tA σ H fun vs H1 => r vs H1 Q) : tCB r tA σ H Q := h
end
theorem look_ne {f g : Str} {v : V} {r : List (Str × V)} (h : decide (f = g) = false) : List.lookup f ((g, v) :: r) = List.lookup f r := by
  have hb : (f == g) = false := by simpa using h
  simp only [List.lookup, hb]
theorem look_eq {f : Str} {v : V} {r : List (Str × V)} : List.lookup f ((f, v) :: r) = some v := by simp [List.lookup]
theorem put_ne {f g : Str} {v w : V} {r : List (Str × V)} (h : decide (g = f) = false) : putF f v ((g, w) :: r) = (g, w) :: putF f v r := by
  have hb : ¬ g = f := by simpa using h
  rw [putF, if_neg hb]
theorem put_eq {f : Str} {v w : V} {r : List (Str × V)} : putF f v ((f, w) :: r) = (f, v) :: r := by rw [putF, if_pos rfl]
theorem put_nil {f : Str} {v : V} : putF f v [] = [(f, v)] := rfl
section
open PyProof.Rows
variable {X : Cx} {x : Str} {i : Int} {z : Str} {t : Tok} {pos : Pos}
theorem pe_gint (hg : Gl X x) (hm : ∃ t, X.mg x = some (.int i t)) (hd : (x == ("__debug__" : Str)) = false := by decide) : PE X (.Name x pos) (tC (.int i)) := let ⟨_, h⟩ := hm; pe_glob hg h ⟨_, rfl⟩ hd
theorem kit_self {K : PySem.W.Frag} {C : Addr} : PySem.W.kitOne K (.ref C) (.ref C) = some true := by
  unfold PySem.W.kitOne
  rw [if_pos (by simp)]
theorem kit_yes {K : PySem.W.Frag} {C R : Addr} (h1 : PySem.W.isClsIn K R = true) (h2 : PySem.W.typeIn K (.ref R) = some (.type "type")) (h3 : PySem.W.subIn K (.ref C) (.ref R) = some true) : PySem.W.kitOne K (.ref C) (.ref R) = some true := by
  unfold PySem.W.kitOne
  by_cases e : (Value.ref C == Value.ref R) = true
  · rw [if_pos e]
  · rw [if_neg e]
    unfold PySem.W.kitCls
    have h1' : (PySem.W.clsIn K R).isSome = true := h1
    have e2 : ((PySem.W.clsIn K R).isSome && PySem.W.typeIn K (.ref R) == some (.type "type")) = true := by rw [h1', h2] <;> rfl
    show (if ((PySem.W.clsIn K R).isSome && PySem.W.typeIn K (.ref R) == some (.type "type")) = true then PySem.W.subIn K (.ref C) (.ref R) else none) = some true
    rw [if_pos e2]
    exact h3
theorem kit_no {K : PySem.W.Frag} {C R : Addr} (h1 : PySem.W.isClsIn K R = true) (h2 : PySem.W.typeIn K (.ref R) = some (.type "type")) (h3 : PySem.W.subIn K (.ref C) (.ref R) = some false) (hne : C ≠ R) : PySem.W.kitOne K (.ref C) (.ref R) = some false := by
  unfold PySem.W.kitOne
  rw [if_neg (by simpa using hne)]
  unfold PySem.W.kitCls
  have h1' : (PySem.W.clsIn K R).isSome = true := h1
  have e2 : ((PySem.W.clsIn K R).isSome && PySem.W.typeIn K (.ref R) == some (.type "type")) = true := by rw [h1', h2] <;> rfl
  show (if ((PySem.W.clsIn K R).isSome && PySem.W.typeIn K (.ref R) == some (.type "type")) = true then PySem.W.subIn K (.ref C) (.ref R) else none) = some false
  rw [if_pos e2]
  exact h3
theorem pe_ex {X : Cx} {e : Expr} {ι : Type} {p : ι → Prop} {t : ι → TE} (h : ∀ i, p i → PE X e (t i)) : PE X e (tEx p t) := ⟨fun pins s σ H Q I ⟨i, hp, hq⟩ => (h i hp).run pins s σ H Q I hq⟩
theorem pe_makeO {X : Cx} {C : Addr} {x : Str} {p pos : Pos} (hmk : PySem.W.makesIn X.K C = true) (hi : PySem.W.findIn X.K (.ref C) "__init__" = some (some (.builtin "object.__init__"))) (kp : PySem.W.keepIn X.K (.ref C) = true) (hg : Gl X x) (hm : X.mg x = some (.ref C))
    (hdb : (x == ("__debug__" : Str)) = false := by decide) : PE X (.Call (.Name x p) [] [] pos) (tMakeO C) := by
  refine ⟨fun pins s σ H Q I h => ?_⟩
  refine wpAny_Call_Name_kw (ld_glob I hg hm ?_ hdb)
  refine PySem.W.callWith_K0 I.kIn kp ?_
  show wpAny _ _ (PySem.call (Value.ref C) []) _ _ _
  refine wpAny_call ?_
  have hq := h (s.heap.objs.size + 1) s.heap.objs.size (I.hok.fresh (Nat.le_succ _)) (I.hok.fresh (Nat.le_refl _)) (Nat.ne_of_lt (Nat.lt_succ_self _))
  have I2 := Inv.made (C := C) I
  have Y := PySem.W.makes_of (M := model X.prog X.w) I.kIn hmk
  have L0 := PySem.W.looks_findIn (M := model X.prog X.w) I.kIn hi
  obtain ⟨hh, g, d, t, os⟩ := s
  refine PySem.W.make_core Y L0 (fun self => PySem.W.Looks.of_pure (PySem.W.oi_bind self)) (.inr ⟨rfl, rfl⟩) ?_
  have e2 : ((hh.push PySem.W.emptyDict).push (PySem.W.instObj C hh.objs.size)).get? (hh.objs.size + 1) = some (PySem.W.instObj C hh.objs.size) := by
    have := Heap.get?_push_size (hh.push PySem.W.emptyDict) (o := PySem.W.instObj C hh.objs.size) rfl
    rwa [Heap.size_push] at this
  have t1 : PySem.W.Looks (model X.prog X.w) ((hh.push PySem.W.emptyDict).push (PySem.W.instObj C hh.objs.size)) (typeOf (.ref (hh.objs.size + 1))) (.ref C) := (PySem.W.Looks.ld e2).andThen .now
  have t2 : PySem.W.Looks (model X.prog X.w) ((hh.push PySem.W.emptyDict).push (PySem.W.instObj C hh.objs.size)) (isInstance (.ref (hh.objs.size + 1)) (.type "object")) true := t1.andThen (Y.top.keeps fun b o e => Heap.get?_push_of_some _ (Heap.get?_push_of_some _ e))
  refine codeAny_call_builtin PySem.W.oi_plain PySem.W.entry_oi (@PySem.W.check_slot (model X.prog X.w) _ _ _ "object.__init__" "object" "__init__" (.ref (hh.objs.size + 1)) [] [] _ PySem.W.oi_kind PySem.W.oi_split t2 (PySem.W.oi_args (.ref (hh.objs.size + 1))) ?_)
  rw [PySem.W.oi_run]
  exact wpAny_pure (And.intro rfl ⟨V.ref _, _, I2, rfl, hq⟩)
theorem pe_gstr (hg : Gl X x) (hm : ∃ t, X.mg x = some (.str z t)) (hd : (x == ("__debug__" : Str)) = false := by decide) : PE X (.Name x pos) (tC (.str z)) := let ⟨_, h⟩ := hm; pe_glob hg h ⟨_, rfl⟩ hd
end
end Z
/-! ### further rules -/
namespace Z
open PySem L2 PyProof.Rows
/-- a text times an int -/
def rRepS : R2 := fun x y H Q => ∃ (z : Str) (n : Int), x = .str z ∧ y = .int n ∧ z.length ≤ 1000 ∧ 0 ≤ n ∧ n ≤ 1000 ∧ ∀ r : Str, r = Txt.mul z n → r.length ≤ z.length * n.toNat → Q (.str r) H
theorem mul_len (z : Str) (n : Int) : (Txt.mul z n).length ≤ z.length * n.toNat := by
  unfold Txt.mul
  by_cases h : n < 1
  · rw [if_pos h]
    exact Nat.zero_le _
  · rw [if_neg h]
    by_cases h2 : (n == 1 || z.length == 0) = true
    · rw [if_pos h2]
      have : 1 ≤ n.toNat := by omega
      exact Nat.le_mul_of_pos_right _ this
    · rw [if_neg h2]
      have gen : ∀ (k : Nat) (a : Array Nat), ((List.replicate k z.cps).foldl (· ++ ·) a).size = a.size + k * z.cps.size := by
        intro k
        induction k with
        | zero => intro a; simp
        | succ k ih =>
          intro a
          rw [List.replicate_succ, List.foldl_cons, ih, Array.size_append, Nat.succ_mul]
          omega
      show ((List.replicate n.toNat z.cps).foldl (· ++ ·) #[]).size ≤ z.cps.size * n.toNat
      rw [gen, Nat.mul_comm]
      simp
theorem op_repS {X : Cx} : OpR X (binaryOp .Mult) rRepS := by
  intro pins s σ H x y v u Q I rx ry h
  obtain ⟨z, n, rfl, rfl, hz, h0, h1, q⟩ := h
  obtain ⟨t, rfl⟩ := rx
  obtain ⟨t', rfl⟩ := ry
  refine SB.mul ⟨?_, fun _ _ => ?_, fun _ _ => ?_⟩ fun t2 k => ⟨.str (Txt.mul z n), H, I.tok _, ⟨_, rfl⟩, q _ rfl (mul_len z n)⟩
  · rw [Bool.or_eq_false_iff]
    exact ⟨decide_eq_false (by omega), decide_eq_false (by omega)⟩
  · have hn : 1 ≤ n := by omega
    have : (z.length : Int) ≤ (2 ^ 63 - 1) / n := by
      refine Int.le_ediv_of_mul_le (by omega) ?_
      have h2 : (z.length : Int) * n ≤ 1000 * 1000 := Int.mul_le_mul (by omega) h1 (by omega) (by omega)
      omega
    omega
  · show decide (z.length * n.toNat > sizeLine) = false
    refine decide_eq_false ?_
    have h2 : z.length * n.toNat ≤ 1000 * 1000 := Nat.mul_le_mul hz (by omega)
    rw [sizeLine_eq]
    omega
theorem po_val {X : Cx} {e : Expr} {te : TE} (h : PE X e te) : PO X (some e) (tPartN te) := by
  refine ⟨fun pins s σ H Q I hw => ?_⟩
  rw [evalPart_some]
  refine thn (h.run pins s σ H _ I hw) fun u s1 ⟨x, H1, I1, r1, q1⟩ => ?_
  rcases q1 with ⟨rfl, q⟩ | ⟨i, rfl, q⟩
  · cases r1
    exact ⟨none, H1, I1, .none, q⟩
  · obtain ⟨t, rfl⟩ := r1
    exact ⟨some i, H1, I1, .int i t, q⟩
def cutT (xs : List Str) (lo hi : Option Int) : List Str := (xs.drop (HT.sIx xs.length 0 lo)).take (HT.sIx xs.length xs.length hi - HT.sIx xs.length 0 lo)
theorem cutV_str (xs : List Str) (lo hi : Option Int) : cutV (xs.map V.str) lo hi = (cutT xs lo hi).map V.str := by
  unfold cutV cutT
  rw [List.length_map, List.map_take, List.map_drop]
theorem cutT_len (xs : List Str) (lo hi : Option Int) : (cutT xs lo hi).length ≤ xs.length := by
  unfold cutT
  rw [List.length_take, List.length_drop]
  omega
theorem dp_strs {K : PySem.W.Frag} {H : Hp} : ∀ xs : List Str, DpAll K H (xs.map V.str) (xs.map PyData.str)
  | [] => .nil
  | x :: r => .cons (.str x) (dp_strs r)
theorem lay_strs : ∀ xs : List Str, (∀ x ∈ xs, PyData.strOk x = true) → PyData.canLayAll0 (xs.map PyData.str) = true
  | [], _ => by simp [PyData.canLayAll0]
  | x :: r, h => by
    rw [List.map_cons, PyData.canLayAll0, lay_strs r fun y hy => h y (List.mem_cons_of_mem _ hy), Bool.and_true, PyData.canLay0]
    exact h x List.mem_cons_self
theorem depth_strs : ∀ xs : List Str, PyData.depthAll (xs.map PyData.str) = 0
  | [] => by simp [PyData.depthAll]
  | x :: r => by rw [List.map_cons, PyData.depthAll, depth_strs r]; simp [PyData.depth]
theorem shaped_strs {xs : List Str} (h : ∀ x ∈ xs, PyData.strOk x = true) : SeqAt.shaped (.list (xs.map PyData.str)) = true := by
  unfold SeqAt.shaped
  rw [Bool.and_eq_true]
  refine ⟨by rw [PyData.canLay0]; exact lay_strs xs h, decide_eq_true ?_⟩
  rw [PyData.depth, depth_strs]
  decide
theorem eqv_strs : ∀ xs : List Str, PyData.eqvAll (xs.map PyData.str) (xs.map PyData.str) = true
  | [] => by simp [PyData.eqvAll]
  | x :: r => by rw [List.map_cons, PyData.eqvAll, eqv_strs r]; simp [PyData.eqv]
theorem ok_app {x y : Str} (h1 : PyData.strOk x = true) (h2 : PyData.strOk y = true) : PyData.strOk (x ++ y) = true := by
  unfold PyData.strOk at *
  show (x.cps ++ y.cps).all _ = true
  rw [Array.all_append, h1, h2]
  rfl
theorem ok_cut {z : Str} {lo hi : Option Int} (h : PyData.strOk z = true) : PyData.strOk (cutS z lo hi) = true := by
  unfold PyData.strOk cutS at *
  rw [List.all_toArray, List.all_eq_true]
  intro x hx
  rw [Array.all_eq_true_iff_forall_mem] at h
  exact h x (by simpa using List.mem_of_mem_drop (List.mem_of_mem_take hx))
theorem ixS {z : Str} {i : Int} {Q : VK} {H : Hp} (hz : z.length ≤ 100000) (h0 : 0 ≤ i) (h1 : i < z.length) (k : ∀ c, z.cps.toList[i.toNat]? = some c → Q (.str ⟨#[c]⟩) H) : rIxS (.str z) (.int i) H Q := by
  have hl : i.toNat < z.cps.toList.length := by
    rw [Array.length_toList]
    have : z.length = z.cps.size := rfl
    omega
  have e := List.getElem?_eq_getElem hl
  refine ⟨z, i, _, rfl, rfl, Nat.le_trans hz (by decide), ?_, k _ e⟩
  have e2 := atI_nat e
  have e3 : ((i.toNat : Nat) : Int) = i := by omega
  rwa [e3] at e2
section
variable {K : PySem.W.Frag} {H : Hp} {Q : VK} {a b : Addr} {xs : List Str}
/-- two lists of the same texts -/
theorem eqStrs (ha : SqL K H a (xs.map V.str)) (hb : SqL K H b (xs.map V.str)) (h : ∀ x ∈ xs, PyData.strOk x = true) (k : Q (.bl true) H) : rEqD K (.ref a) (.ref b) H Q :=
  ⟨_, _, .lst ha (dp_strs xs), .lst hb (dp_strs xs), shaped_strs h, shaped_strs h, by rw [PyData.eqv, eqv_strs]; exact k⟩
theorem neStrs (ha : SqL K H a (xs.map V.str)) (hb : SqL K H b (xs.map V.str)) (h : ∀ x ∈ xs, PyData.strOk x = true) (k : Q (.bl false) H) : rNeD K (.ref a) (.ref b) H Q :=
  ⟨_, _, .lst ha (dp_strs xs), .lst hb (dp_strs xs), shaped_strs h, shaped_strs h, by rw [PyData.eqv, eqv_strs]; exact k⟩
end
end Z
local macro_rules | `(tactic| walk_at "z ne") => `(tactic| first | assumption | (refine Ne.symm ?_; assumption))
local macro_rules | `(tactic| walk_at "z hp") => `(tactic| first | assumption | (with_reducible exact L2.upd_same) | (refine (L2.upd_ne ?_).trans ?_; (walk_at "z ne"); walk_at "z hp"))
local macro_rules | `(tactic| walk_at "z ic") => `(tactic| first | decide | (show (0 : Int) < _; first | decide | omega) | (show (0 : Int) ≤ _; first | decide | omega) | exact ⟨by decide, by decide⟩ | exact ⟨by decide, by decide, by decide⟩ | exact .inl ⟨by omega, by omega⟩ | exact .inr ⟨by omega, by omega⟩ | exact ⟨by omega, by omega⟩)
local macro_rules | `(tactic| walk_at "z small") => `(tactic| (first | decide | (simp only [List.length_cons, List.length_nil]; decide) | omega))
local macro_rules | `(tactic| walk_at "z no") => `(tactic| rfl)
/-- a slot, an expression, a statement: as far as nothing is asked -/
local macro_rules | `(tactic| walk_at "z1") => `(tactic| first
  | (with_reducible refine Z.seq ?_) | (with_reducible refine Z.asg ?_) | (with_reducible refine Z.ret ?_) | (with_reducible refine Z.retN ?_) | (with_reducible refine Z.drop ?_) | (with_reducible refine Z.next ?_)
  | (with_reducible refine Z.ifS ?_) | (with_reducible refine Z.op ?_) | (with_reducible refine Z.un ?_) | (with_reducible refine Z.con ?_) | ((with_reducible refine' Z.var ?hv ?_); (case hv => exact rfl))
  | (with_reducible refine Z.i0 ?_) | ((with_reducible refine Z.eqS ?hs ?_); (case hs => exact rfl)) | ((with_reducible refine Z.neS ?hs ?_); (case hs => exact rfl))
  | (with_reducible refine Z.test (b := true) ?_) | (with_reducible refine Z.tstB ?_) | (with_reducible refine Z.bB ?_) | (with_reducible refine Z.andT ?_) | (with_reducible refine Z.orT ?_) | (with_reducible refine Z.notT ?_)
  | (with_reducible refine Z.andV ?_) | (with_reducible refine Z.orV ?_) | (with_reducible refine Z.notV ?_) | (with_reducible refine Z.ifE ?_) | (with_reducible refine Z.blE ?_)
  | (with_reducible refine Z.nil ?_) | (with_reducible refine Z.cons ?_) | (with_reducible refine Z.fld ?_) | (with_reducible refine Z.sfld ?_) | (with_reducible refine Z.aug ?_) | (with_reducible refine Z.rAddE ?_)
  | ((with_reducible refine' Z.fldE ?ho ?hc ?hn ?hl ?_); (case ho => walk_at "z hp"); (case hc => walk_at "z cls"); (case hn => walk_at "z attr"); (case hl => walk_at "z look"))
  | ((with_reducible refine' Z.augV ?ho ?hc ?hn ?hl ?_); (case ho => walk_at "z hp"); (case hc => walk_at "z cls"); (case hn => walk_at "z attr"); (case hl => walk_at "z look"))
  | ((with_reducible refine' Z.sfldE ?ho ?hc ?hn ?hl ?_); (case ho => walk_at "z hp"); (case hc => walk_at "z cls"); (case hn => walk_at "z attr"); (case hl => walk_at "z small"); walk_at "z put")
  | ((with_reducible refine' Z.augE ?ho ?hl ?_); (case ho => walk_at "z hp"); (case hl => walk_at "z small"); walk_at "z put")
  | (with_reducible refine Z.meth ?_) | ((with_reducible refine' Z.methE ?ho ?hl ?_); (case ho => walk_at "z hp"); (case hl => walk_at "z no"))
  | (with_reducible refine Z.make ?_) | (with_reducible refine Z.makeO ?_) | (with_reducible refine Z.m0 ?_) | (with_reducible refine Z.m1 ?_) | (with_reducible refine Z.sl ?_) | (with_reducible refine Z.noPart ?_) | (with_reducible refine Z.part ?_) | (with_reducible refine Z.partE ?_) | (with_reducible refine Z.bm ?_) | (with_reducible refine Z.bm0 ?_)
  | (with_reducible refine Z.pairsC ?_) | (with_reducible refine Z.pairsN ?_) | (with_reducible refine Z.yes ?_)
  | (with_reducible refine Z.gcons ?_) | (with_reducible refine Z.gnil ?_) | (with_reducible refine Z.gname ?_) | (with_reducible refine Z.partN ?_) | (with_reducible refine Z.forR1 ?_) | (with_reducible refine Z.forL ?_)
  | (with_reducible refine Z.asgG ?_) | (with_reducible refine Z.gsub ?_) | (with_reducible refine Z.dget ?_) | (with_reducible refine Z.dput ?_)
  | ((with_reducible refine' Z.dgetS ?ho ?he ?_); (case ho => walk_at "z hp"); (case he => walk_at "z val"))
  | ((with_reducible refine' Z.dputS ?ho ?hl ?he ?_); (case ho => walk_at "z hp"); (case hl => walk_at "z small"); (case he => walk_at "z putK"))
  | (with_reducible refine Z.lst ?_) | (with_reducible refine Z.tup ?_) | (with_reducible refine Z.call ?_) | (with_reducible refine Z.cb ?_) | ((with_reducible refine Z.ic ?hc ?_); (case hc => walk_at "z ic")))
local macro_rules | `(tactic| walk_at "z dec") => `(tactic| first | (refine Z.iteTd (by decide +kernel) ?_) | (refine Z.iteFd (by decide +kernel) ?_) | skip)
/-- .. and the tests whose answer stands there -/
local macro_rules | `(tactic| walk_at "z") => `(tactic| repeat (first | walk_at "z1" | (refine L2.iteT ?_) | (refine L2.iteF ?_) | (with_reducible refine Z.isN ?_)))

/-! ### raising, catching -/
namespace Z
open PySem PySem.Spec L2 PyProof.Rows
section
variable {X : Cx} {C : Addr} {bmB : List Value} {B newId initId : String}
/-- X(), X an own exception class without own __init__ -/
theorem pmk_own0 {x : Str} {p pos : Pos} (F : ExcBaseFacts B newId initId bmB) (q : PySem.W.excIn X.K C bmB newId = true) (gC : X.mg x = some (.ref C)) (kC : PySem.W.keepIn X.K (.ref C) = true) (r : Raises X (.ref C)) (hg : Gl X x := by rfl)
    (hdb : (x == ("__debug__" : Str)) = false := by decide) : PMk X (.Call (.Name x p) [] [] pos) (fun _ H Q => Q (.ref C) none H) := by
  intro pins s σ H Q I h
  refine wpAny_Call_Name_kw (ld_glob I hg gC ?_ hdb)
  refine PySem.W.callWith_K0 I.kIn kC ?_
  show wpAny _ _ (PySem.call (Value.ref C) []) _ _ _
  obtain ⟨bm, N, nm, qn, bs, hdct, sn, sub, ab, col, dd, k0, k1, k2, k3, k5, mN, hC, hN, hni, T⟩ := exc_obj I.kIn q
  refine wpAny_call_exc_subT F T hC hN hni (fun h' e hm => ?_) (Nat.zero_le _)
  exact mk_of I hm r h (I.hok.gone hm.new)
/-- isinstance(e, c), e what the suite holds, of the class cls -/
def rIsG (K : PySem.W.Frag) (cls : Value) (d : Option Addr) (a : Addr) : List V → Hp → VK → Prop := fun xs H Q => ∃ (D : Addr) (c : V) (cv : Value) (b : Bool), cls = .ref D ∧ d = none ∧ ExcC K D ∧ xs = [.ref a, c] ∧ ClsV c cv ∧ PySem.W.kitOne K (.ref D) cv = some b ∧ Q (.bl b) H
theorem call_isG {a : Addr} {cls : Value} {d : Option Addr} {oe : Obj} {pn : List (Addr × Obj)} (hz : Zc cls d oe) (hf : ∃ vs, oe.data = .fields vs) : CallR (X.suite a ((a, oe) :: pn)) (.builtin "isinstance") (rIsG X.K cls d a) := by
  intro pins s σ H xs us Q I r h
  obtain ⟨D, c, cv, b, rfl, rfl, C, rfl, hc, e, q⟩ := h
  exact call_isE C hz hf pins s σ H _ us Q I r ⟨c, cv, b, rfl, fun u ru => hc.eq ru, e, q⟩
def rIsGT (K : PySem.W.Frag) (cls : Value) (d : Option Addr) (a : Addr) : List V → Hp → VK → Prop := fun xs H Q => ∃ (D tp : Addr) (cs : List V) (ws : List Value) (b : Bool), cls = .ref D ∧ d = none ∧ ExcC K D ∧ xs = [.ref a, .ref tp] ∧ H tp = some (.tup cs) ∧ Paired ClsV cs ws ∧
  PySem.W.kitAny K (.ref D) ws = some b ∧ Q (.bl b) H
theorem call_isGT {a : Addr} {cls : Value} {d : Option Addr} {oe : Obj} {pn : List (Addr × Obj)} (hz : Zc cls d oe) (hf : ∃ vs, oe.data = .fields vs) : CallR (X.suite a ((a, oe) :: pn)) (.builtin "isinstance") (rIsGT X.K cls d a) := by
  intro pins s σ H xs us Q I r h
  obtain ⟨D, tp, cs, ws, b, rfl, rfl, C, rfl, hT, k, e, q⟩ := h
  obtain ⟨u1, u2, rfl, r1, r2⟩ := vals2 r
  cases (show u1 = Value.ref a from r1)
  cases (show u2 = Value.ref tp from r2)
  obtain ⟨hget, _⟩ := I.pin (a, oe) (List.mem_append.mpr (.inl List.mem_cons_self))
  obtain ⟨vs, hv⟩ := hf
  have J : PySem.W.InstAt s.heap a oe D none := by
    obtain ⟨oc, od, oda, osl⟩ := oe
    obtain ⟨h1, h2⟩ := hz
    dsimp only at h1 h2 hv
    subst h1 h2 hv
    exact ⟨hget, rfl, rfl, trivial⟩
  obtain ⟨_, its, rv, o, h1, h2, n, h3⟩ := (show ObjOk _ _ H s.heap tp (.tup cs) from I.hok tp _ hT)
  have e3 := ClsV.all k rv
  subst e3
  obtain ⟨oc, od, dt, sl⟩ := o
  simp only at h2 h3
  subst h2 h3
  exact PySem.W.kia_tup (PySem.W.handS_kitx_exc C.hg C.hk C.hs C.hd C.ha C.hn C.ht C.hm) I.kIn J h1 e (fun z => nomatch z) fun tk => ⟨.bl b, H, I.kept (t' := tk) fun _ _ z => z, rfl, q⟩
theorem exm_of {K : PySem.W.Frag} {D S : Addr} {b : Bool} (h1 : PySem.W.subIn K (.ref S) (.type "BaseException") = some true) (h2 : PySem.W.isClsIn K S = true) (h3 : PySem.W.typeIn K (.ref S) = some (.type "type")) (h4 : PySem.W.subIn K (.ref D) (.ref S) = some b) :
    PySem.W.exmOne K (.ref D) (.ref S) = some b := by
  have e1 : (PySem.W.subIn K (.ref S) (.type "BaseException") == some true) = true := by rw [h1] <;> rfl
  have e2 : ((PySem.W.clsIn K S).isSome && PySem.W.typeIn K (.ref S) == some (.type "type")) = true := by
    have h2' : (PySem.W.clsIn K S).isSome = true := h2
    rw [h2', h3] <;> rfl
  show (if (PySem.W.subIn K (.ref S) (.type "BaseException") == some true) = true then (if ((PySem.W.clsIn K S).isSome && PySem.W.typeIn K (.ref S) == some (.type "type")) = true then PySem.W.subIn K (.ref D) (.ref S) else none) else none) = some b
  rw [if_pos e1, if_pos e2]
  exact h4
end
section
variable {X : Cx} {CX : CXT} {k : Nat} {f C : Addr} {fd : FuncData} {ps : List Str} {sp : Sp} {E : L2.St → XK} {x m : Str} {p pos apos : Pos} {e o : Expr} {es : List Expr} {ta : TE} {t : TA}
/-- o.m(..) that may raise, within a try: what is raised is wished for at the slots -/
def tMethX (C : Addr) (m : Str) (sp : Sp) (E : L2.St → XK) (ta : TE) (t : TA) : TE := fun σ H Q => ta σ H fun x H1 => ∃ a dx fs, x = .ref a ∧ H1 a = some (.ins C dx fs) ∧ fs.lookup m = none ∧ t σ H1 fun vs H2 => sp (x :: vs) H2 Q (E σ)
theorem pe_methX {pl : Sem Bool} (he : PE X o ta) (c : Cls X.K C) (hm : Meth X.K C m f) (F : FnOk X.prog X.w X.K X.mg X.base CX k f fd ps sp) (hr : Room k X.A) (hb : Binds X.K fd ps []) (hx : ∀ σ, PassesAt CX X σ (E σ)) (ha : PA X (e :: es) t)
    (hst : starEach (e :: es) X.env = (false, eval e X.env) :: starEach es X.env := by rfl) (hpl : (backTo pos (starEach es X.env)).any (·.1) = false := by rfl)
    (ht : eval (.Call (.Attribute o m apos) (e :: es) [] pos) X.env = (do
      let ov ← eval o X.env
      standAt apos.atName
      let (f, first) ← holding [ov] (getMethod ov m pl)
      callWith pos f first (backTo pos (starEach (e :: es) X.env)) (backToKw pos (keywordEach [] X.env))) := by rfl) :
    PE X (.Call (.Attribute o m apos) (e :: es) [] pos) (tMethX C m sp E ta t) := by
  refine ⟨fun pins s σ H Q I h => ?_⟩
  refine PySem.W.methodCall_KW (pl := pl) (thn (he.run pins s σ H _ I h) fun u s1 ⟨x, H1, I1, rx, a, dx, fs, ex, ea, l, q⟩ => ?_) ht
  subst ex
  obtain rfl : u = Value.ref a := rx
  refine getmeth_ok I1 ea c hm l ?_
  refine PySem.W.callWith_K (first := [.ref a]) (h₀ := X.base) I.ok.mod.kin hm.kp (thn (ha.run pos pins s1 σ H1 _ I1 q) fun us s2 ⟨vs, H2, I2, r, q2⟩ => ⟨I2.kIn, ?_⟩) hst hpl
  exact run_fnS (us := .ref a :: us) (vs := .ref a :: vs) F hr hb (hx σ) I2 (.cons rfl r) q2
variable {σ : L2.St} {H : Hp} {Q : VK}
theorem methX {E : L2.St → XK} (h : ta σ H fun x H1 => ∃ a dx fs, x = .ref a ∧ H1 a = some (.ins C dx fs) ∧ fs.lookup m = none ∧ t σ H1 fun vs H2 => sp (x :: vs) H2 Q (E σ)) : tMethX C m sp E ta t σ H Q := h
end
end Z
local macro_rules | `(tactic| walk_at "z1") => `(tactic| (with_reducible refine Z.methX ?_))

namespace Toy
open PySem L2
def top (i : Nat) : Stmt := PySem.Challenge.pw_planstore_k19_falls.main.body.getD i (.Pass ⟨0, 0, 0, 0⟩)
abbrev s_Disk___init__ : Stmt := inClass (top 7) 0
theorem sc_Disk___init__ : FnScope ["self"] ["self"] (defScope s_Disk___init__) := ⟨rfl, rfl, rfl, by decide +kernel, rfl, by decide +kernel, by decide +kernel⟩
abbrev s_Disk_log_rows : Stmt := inClass (top 7) 1
theorem sc_Disk_log_rows : FnScope ["self"] ["self"] (defScope s_Disk_log_rows) := ⟨rfl, rfl, rfl, by decide +kernel, rfl, by decide +kernel, by decide +kernel⟩
abbrev s_Disk_page : Stmt := inClass (top 7) 2
theorem sc_Disk_page : FnScope ["self", "slot"] ["self", "slot"] (defScope s_Disk_page) := ⟨rfl, rfl, rfl, by decide +kernel, rfl, by decide +kernel, by decide +kernel⟩
abbrev s_Disk_writes : Stmt := inClass (top 7) 3
theorem sc_Disk_writes : FnScope ["self"] ["self"] (defScope s_Disk_writes) := ⟨rfl, rfl, rfl, by decide +kernel, rfl, by decide +kernel, by decide +kernel⟩
abbrev s_Disk_fall_at : Stmt := inClass (top 7) 4
theorem sc_Disk_fall_at : FnScope ["self", "after", "signs"] ["self", "after", "signs"] (defScope s_Disk_fall_at) := ⟨rfl, rfl, rfl, by decide +kernel, rfl, by decide +kernel, by decide +kernel⟩
abbrev s_Disk_power : Stmt := inClass (top 7) 5
theorem sc_Disk_power : FnScope ["self"] ["self"] (defScope s_Disk_power) := ⟨rfl, rfl, rfl, by decide +kernel, rfl, by decide +kernel, by decide +kernel⟩
abbrev s_Disk_coming : Stmt := inClass (top 7) 6
theorem sc_Disk_coming : FnScope ["self", "after", "signs"] ["self"] (defScope s_Disk_coming) := ⟨rfl, rfl, rfl, by decide +kernel, rfl, by decide +kernel, by decide +kernel⟩
abbrev s_Disk_add_row : Stmt := inClass (top 7) 7
theorem sc_Disk_add_row : FnScope ["self", "text", "signs"] ["self", "text"] (defScope s_Disk_add_row) := ⟨rfl, rfl, rfl, by decide +kernel, rfl, by decide +kernel, by decide +kernel⟩
abbrev s_Disk_put_page : Stmt := inClass (top 7) 8
theorem sc_Disk_put_page : FnScope ["self", "slot", "text", "signs"] ["self", "slot", "text"] (defScope s_Disk_put_page) := ⟨rfl, rfl, rfl, by decide +kernel, rfl, by decide +kernel, by decide +kernel⟩
abbrev s_Disk_cut_to : Stmt := inClass (top 7) 9
theorem sc_Disk_cut_to : FnScope ["self", "rows", "signs"] ["self", "rows"] (defScope s_Disk_cut_to) := ⟨rfl, rfl, rfl, by decide +kernel, rfl, by decide +kernel, by decide +kernel⟩
abbrev s_Disk_cut_tail : Stmt := inClass (top 7) 10
theorem sc_Disk_cut_tail : FnScope ["self", "many"] ["self", "many"] (defScope s_Disk_cut_tail) := ⟨rfl, rfl, rfl, by decide +kernel, rfl, by decide +kernel, by decide +kernel⟩
abbrev s_Disk_cut_head : Stmt := inClass (top 7) 11
theorem sc_Disk_cut_head : FnScope ["self", "many"] ["self", "many"] (defScope s_Disk_cut_head) := ⟨rfl, rfl, rfl, by decide +kernel, rfl, by decide +kernel, by decide +kernel⟩
abbrev s_Disk_copied : Stmt := inClass (top 7) 12
theorem sc_Disk_copied : FnScope ["self", "other"] ["self"] (defScope s_Disk_copied) := ⟨rfl, rfl, rfl, by decide +kernel, rfl, by decide +kernel, by decide +kernel⟩
abbrev s_law_cell : Stmt := top 9
theorem sc_law_cell : FnScope ["_law_script", "_law_k"] ["_law_script", "_law_k"] (defScope s_law_cell) := ⟨rfl, rfl, rfl, by decide +kernel, rfl, by decide +kernel, by decide +kernel⟩
abbrev s_law_draw : Stmt := top 10
theorem sc_law_draw : FnScope ["_law_cell_here", "_law_k", "_law_number"] ["_law_cell_here", "_law_k"] (defScope s_law_draw) := ⟨rfl, rfl, rfl, by decide +kernel, rfl, by decide +kernel, by decide +kernel⟩
abbrev s_law_text : Stmt := top 11
theorem sc_law_text : FnScope ["_law_cell_here", "_law_at", "_law_number", "_law_some"] ["_law_cell_here", "_law_at"] (defScope s_law_text) := ⟨rfl, rfl, rfl, by decide +kernel, rfl, by decide +kernel, by decide +kernel⟩
abbrev s_law_deed : Stmt := top 12
theorem sc_law_deed : FnScope ["_law_cell_here", "_law_word", "_law_many"] ["_law_cell_here"] (defScope s_law_deed) := ⟨rfl, rfl, rfl, by decide +kernel, rfl, by decide +kernel, by decide +kernel⟩
abbrev s_law_told : Stmt := top 13
theorem sc_law_told : FnScope ["_law_disk", "_law_deed_here", "_law_word", "_law_slot", "_law_text_here", "_law_many", "_law_told_here", "e"] ["_law_disk", "_law_deed_here"] (defScope s_law_told) := ⟨rfl, rfl, rfl, by decide +kernel, rfl, by decide +kernel, by decide +kernel⟩
abbrev s_law_done : Stmt := top 14
theorem sc_law_done : FnScope ["_law_model", "_law_deed_here", "_law_signs", "_law_word", "_law_slot", "_law_text_here", "_law_many"] ["_law_model", "_law_deed_here", "_law_signs"] (defScope s_law_done) := ⟨rfl, rfl, rfl, by decide +kernel, rfl, by decide +kernel, by decide +kernel⟩
abbrev s_law_new : Stmt := top 15
theorem sc_law_new : FnScope ["_law_slot"] [] (defScope s_law_new) := ⟨rfl, rfl, rfl, by decide +kernel, rfl, by decide +kernel, by decide +kernel⟩
abbrev s_law_stands : Stmt := top 16
theorem sc_law_stands : FnScope ["_law_disk", "_law_model", "_law_rows", "_law_slot"] ["_law_disk", "_law_model"] (defScope s_law_stands) := ⟨rfl, rfl, rfl, by decide +kernel, rfl, by decide +kernel, by decide +kernel⟩
abbrev s_law_copied : Stmt := top 17
theorem sc_law_copied : FnScope ["_law_model", "_law_found"] ["_law_model"] (defScope s_law_copied) := ⟨rfl, rfl, rfl, by decide +kernel, rfl, by decide +kernel, by decide +kernel⟩
abbrev s_law_write : Stmt := top 18
theorem sc_law_write : FnScope ["_law_disk", "_law_model", "_law_deed_here", "_law_after", "_law_signs"] ["_law_disk", "_law_model", "_law_deed_here"] (defScope s_law_write) := ⟨rfl, rfl, rfl, by decide +kernel, rfl, by decide +kernel, by decide +kernel⟩
abbrev s_law : Stmt := top 19
theorem sc_law : FnScope ["_law_script", "_law_disk", "_law_model", "_law_old", "_law_k", "_law_cell_here", "_law_way", "_law_signs"] ["_law_script"] (defScope s_law) := ⟨rfl, rfl, rfl, by decide +kernel, rfl, by decide +kernel, by decide +kernel⟩
structure Adr where
  Disk : Addr
  StoreError : Addr
  TooMany : Addr
  Fell : Addr
  NoTable : Addr
  f_Disk___init__ : Addr
  f_Disk_log_rows : Addr
  f_Disk_page : Addr
  f_Disk_writes : Addr
  f_Disk_fall_at : Addr
  f_Disk_power : Addr
  f_Disk_coming : Addr
  f_Disk_add_row : Addr
  f_Disk_put_page : Addr
  f_Disk_cut_to : Addr
  f_Disk_cut_tail : Addr
  f_Disk_cut_head : Addr
  f_Disk_copied : Addr
  f_law_cell : Addr
  f_law_draw : Addr
  f_law_text : Addr
  f_law_deed : Addr
  f_law_told : Addr
  f_law_done : Addr
  f_law_new : Addr
  f_law_stands : Addr
  f_law_copied : Addr
  f_law_write : Addr
  f_law : Addr
/-- a def of the text as it stands, and how its arguments bind -/
def Dfn (K : PySem.W.Frag) (x q : Str) (st : Stmt) (ps : List Str) (f : Addr) : Prop := ∃ fd, Fun K x q st f fd ∧ Binds K fd ps []
theorem Dfn.kp {K : PySem.W.Frag} {x q : Str} {st : Stmt} {ps : List Str} {f : Addr} (d : Dfn K x q st ps f) : PySem.W.keepIn K (.ref f) = true := let ⟨_, F, _⟩ := d; F.kp
structure Txt (K : PySem.W.Frag) (mg : Str → Option Value) (A : Adr) : Prop where
  d_Disk___init__ : Dfn K "__init__" "Disk.__init__" s_Disk___init__ ["self"] A.f_Disk___init__
  mk_Disk : Mk K A.Disk A.f_Disk___init__
  d_Disk_log_rows : Dfn K "log_rows" "Disk.log_rows" s_Disk_log_rows ["self"] A.f_Disk_log_rows
  m_Disk_log_rows : Meth K A.Disk "log_rows" A.f_Disk_log_rows
  d_Disk_page : Dfn K "page" "Disk.page" s_Disk_page ["self", "slot"] A.f_Disk_page
  m_Disk_page : Meth K A.Disk "page" A.f_Disk_page
  d_Disk_writes : Dfn K "writes" "Disk.writes" s_Disk_writes ["self"] A.f_Disk_writes
  m_Disk_writes : Meth K A.Disk "writes" A.f_Disk_writes
  d_Disk_fall_at : Dfn K "fall_at" "Disk.fall_at" s_Disk_fall_at ["self", "after", "signs"] A.f_Disk_fall_at
  m_Disk_fall_at : Meth K A.Disk "fall_at" A.f_Disk_fall_at
  d_Disk_power : Dfn K "power" "Disk.power" s_Disk_power ["self"] A.f_Disk_power
  m_Disk_power : Meth K A.Disk "power" A.f_Disk_power
  d_Disk_coming : Dfn K "coming" "Disk.coming" s_Disk_coming ["self"] A.f_Disk_coming
  m_Disk_coming : Meth K A.Disk "coming" A.f_Disk_coming
  d_Disk_add_row : Dfn K "add_row" "Disk.add_row" s_Disk_add_row ["self", "text"] A.f_Disk_add_row
  m_Disk_add_row : Meth K A.Disk "add_row" A.f_Disk_add_row
  d_Disk_put_page : Dfn K "put_page" "Disk.put_page" s_Disk_put_page ["self", "slot", "text"] A.f_Disk_put_page
  m_Disk_put_page : Meth K A.Disk "put_page" A.f_Disk_put_page
  d_Disk_cut_to : Dfn K "cut_to" "Disk.cut_to" s_Disk_cut_to ["self", "rows"] A.f_Disk_cut_to
  m_Disk_cut_to : Meth K A.Disk "cut_to" A.f_Disk_cut_to
  d_Disk_cut_tail : Dfn K "cut_tail" "Disk.cut_tail" s_Disk_cut_tail ["self", "many"] A.f_Disk_cut_tail
  m_Disk_cut_tail : Meth K A.Disk "cut_tail" A.f_Disk_cut_tail
  d_Disk_cut_head : Dfn K "cut_head" "Disk.cut_head" s_Disk_cut_head ["self", "many"] A.f_Disk_cut_head
  m_Disk_cut_head : Meth K A.Disk "cut_head" A.f_Disk_cut_head
  d_Disk_copied : Dfn K "copied" "Disk.copied" s_Disk_copied ["self"] A.f_Disk_copied
  m_Disk_copied : Meth K A.Disk "copied" A.f_Disk_copied
  d_law_cell : Dfn K "_law_cell" "_law_cell" s_law_cell ["_law_script", "_law_k"] A.f_law_cell
  g_law_cell : mg "_law_cell" = some (.ref A.f_law_cell)
  d_law_draw : Dfn K "_law_draw" "_law_draw" s_law_draw ["_law_cell_here", "_law_k"] A.f_law_draw
  g_law_draw : mg "_law_draw" = some (.ref A.f_law_draw)
  d_law_text : Dfn K "_law_text" "_law_text" s_law_text ["_law_cell_here", "_law_at"] A.f_law_text
  g_law_text : mg "_law_text" = some (.ref A.f_law_text)
  d_law_deed : Dfn K "_law_deed" "_law_deed" s_law_deed ["_law_cell_here"] A.f_law_deed
  g_law_deed : mg "_law_deed" = some (.ref A.f_law_deed)
  d_law_told : Dfn K "_law_told" "_law_told" s_law_told ["_law_disk", "_law_deed_here"] A.f_law_told
  g_law_told : mg "_law_told" = some (.ref A.f_law_told)
  d_law_done : Dfn K "_law_done" "_law_done" s_law_done ["_law_model", "_law_deed_here", "_law_signs"] A.f_law_done
  g_law_done : mg "_law_done" = some (.ref A.f_law_done)
  d_law_new : Dfn K "_law_new" "_law_new" s_law_new [] A.f_law_new
  g_law_new : mg "_law_new" = some (.ref A.f_law_new)
  d_law_stands : Dfn K "_law_stands" "_law_stands" s_law_stands ["_law_disk", "_law_model"] A.f_law_stands
  g_law_stands : mg "_law_stands" = some (.ref A.f_law_stands)
  d_law_copied : Dfn K "_law_copied" "_law_copied" s_law_copied ["_law_model"] A.f_law_copied
  g_law_copied : mg "_law_copied" = some (.ref A.f_law_copied)
  d_law_write : Dfn K "_law_write" "_law_write" s_law_write ["_law_disk", "_law_model", "_law_deed_here"] A.f_law_write
  g_law_write : mg "_law_write" = some (.ref A.f_law_write)
  d_law : Dfn K "law" "law" s_law ["_law_script"] A.f_law
  g_law : mg "law" = some (.ref A.f_law)
  c_Disk : Cls K A.Disk
  g_Disk : mg "Disk" = some (.ref A.Disk)
  n_Disk_held_rows : NoAttr K A.Disk "held_rows"
  n_Disk_held_pages : NoAttr K A.Disk "held_pages"
  n_Disk_many_writes : NoAttr K A.Disk "many_writes"
  n_Disk_due : NoAttr K A.Disk "due"
  n_Disk_is_down : NoAttr K A.Disk "is_down"
  g_StoreError : mg "StoreError" = some (.ref A.StoreError)
  g_TooMany : mg "TooMany" = some (.ref A.TooMany)
  g_Fell : mg "Fell" = some (.ref A.Fell)
  g_NoTable : mg "NoTable" = some (.ref A.NoTable)
  xF_Fell : PySem.W.excIn K A.Fell [.type "ValueError", .type "Exception", .type "BaseException", .type "object"] "ValueError.__new__" = true
  kc_Fell : PySem.W.keepIn K (.ref A.Fell) = true
  xg_Fell : PySem.W.findIn K (.ref A.Fell) "__getattribute__" = some (some (.builtin "BaseException.__getattribute__"))
  xk_Fell : PySem.W.findIn K (.ref A.Fell) "__getattr__" = some none
  xd_Fell : PySem.W.hasDictIn K A.Fell = true
  xa_Fell : PySem.W.findIn K (.ref A.Fell) "__class__" = some (some (.builtin "object.__class__"))
  xm_Fell : PySem.W.mroIn K A.Fell (.type "object") = some true
  sb_Fell : PySem.W.subIn K (.ref A.Fell) (.type "BaseException") = some true
  cb_Fell : PySem.W.isClsIn K A.Fell = true
  tb_Fell : PySem.W.typeIn K (.ref A.Fell) = some (.type "type")
  sb_StoreError : PySem.W.subIn K (.ref A.StoreError) (.type "BaseException") = some true
  cb_StoreError : PySem.W.isClsIn K A.StoreError = true
  tb_StoreError : PySem.W.typeIn K (.ref A.StoreError) = some (.type "type")
  sb_TooMany : PySem.W.subIn K (.ref A.TooMany) (.type "BaseException") = some true
  cb_TooMany : PySem.W.isClsIn K A.TooMany = true
  tb_TooMany : PySem.W.typeIn K (.ref A.TooMany) = some (.type "type")
  sb_NoTable : PySem.W.subIn K (.ref A.NoTable) (.type "BaseException") = some true
  cb_NoTable : PySem.W.isClsIn K A.NoTable = true
  tb_NoTable : PySem.W.typeIn K (.ref A.NoTable) = some (.type "type")
  xn : PySem.W.specialIn K (.builtin "object.__class__") "__get__" = some (some (.builtin "getset_descriptor.__get__"))
  xt : PySem.W.takesIn K (.builtin "object.__class__") = some true
  sub_Fell_StoreError : PySem.W.subIn K (.ref A.Fell) (.ref A.StoreError) = some true
  sub_Fell_TooMany : PySem.W.subIn K (.ref A.Fell) (.ref A.TooMany) = some false
  sub_Fell_NoTable : PySem.W.subIn K (.ref A.Fell) (.ref A.NoTable) = some false
  sub_TooMany_TooMany : PySem.W.subIn K (.ref A.TooMany) (.ref A.TooMany) = some true
  sub_NoTable_NoTable : PySem.W.subIn K (.ref A.NoTable) (.ref A.NoTable) = some true
  b_int : mg "int" = none
  b_isinstance : mg "isinstance" = none
  b_len : mg "len" = none
  b_list : mg "list" = none
  b_max : mg "max" = none
  b_min : mg "min" = none
  b_range : mg "range" = none
  b_repr : mg "repr" = none
  b_str : mg "str" = none
  v_MOST_SLOTS : ∃ t, mg "MOST_SLOTS" = some (.int (8) t)
local macro_rules | `(tactic| walk_at "z cls") => `(tactic| first | assumption | exact (‹Txt _ _ _›).c_Disk)
local macro_rules | `(tactic| walk_at "z attr") => `(tactic| first | (with_reducible exact (‹Txt _ _ _›).n_Disk_held_rows) | (with_reducible exact (‹Txt _ _ _›).n_Disk_held_pages) | (with_reducible exact (‹Txt _ _ _›).n_Disk_many_writes) | (with_reducible exact (‹Txt _ _ _›).n_Disk_due) | (with_reducible exact (‹Txt _ _ _›).n_Disk_is_down) | fail)

/-! ### disks -/
def DF (x0 : Addr) (x1 : Addr) (x2 : Int) (x3 : V) (x4 : Bool) : List (Str × V) := [("held_rows", .ref x0), ("held_pages", .ref x1), ("many_writes", .int x2), ("due", x3), ("is_down", .bl x4)]
section
variable {x0 : Addr} {x1 : Addr} {x2 : Int} {x3 : V} {x4 : Bool} {y0 : Addr} {y1 : Addr} {y2 : Int} {y3 : V} {y4 : Bool}
theorem DF_g0 : (DF x0 x1 x2 x3 x4).lookup ("held_rows" : Str) = some (.ref x0) := by unfold DF; exact Z.look_eq
theorem DF_p0 : putF ("held_rows" : Str) (.ref y0) (DF x0 x1 x2 x3 x4) = DF y0 x1 x2 x3 x4 := by unfold DF; first | exact Z.put_eq | rw [Z.put_eq]
theorem DF_g1 : (DF x0 x1 x2 x3 x4).lookup ("held_pages" : Str) = some (.ref x1) := by unfold DF; rw [Z.look_ne (by decide +kernel)]; exact Z.look_eq
theorem DF_p1 : putF ("held_pages" : Str) (.ref y1) (DF x0 x1 x2 x3 x4) = DF x0 y1 x2 x3 x4 := by unfold DF; rw [Z.put_ne (by decide +kernel)]; first | exact Z.put_eq | rw [Z.put_eq]
theorem DF_g2 : (DF x0 x1 x2 x3 x4).lookup ("many_writes" : Str) = some (.int x2) := by unfold DF; rw [Z.look_ne (by decide +kernel), Z.look_ne (by decide +kernel)]; exact Z.look_eq
theorem DF_p2 : putF ("many_writes" : Str) (.int y2) (DF x0 x1 x2 x3 x4) = DF x0 x1 y2 x3 x4 := by unfold DF; rw [Z.put_ne (by decide +kernel), Z.put_ne (by decide +kernel)]; first | exact Z.put_eq | rw [Z.put_eq]
theorem DF_g3 : (DF x0 x1 x2 x3 x4).lookup ("due" : Str) = some (x3) := by unfold DF; rw [Z.look_ne (by decide +kernel), Z.look_ne (by decide +kernel), Z.look_ne (by decide +kernel)]; exact Z.look_eq
theorem DF_p3 : putF ("due" : Str) (y3) (DF x0 x1 x2 x3 x4) = DF x0 x1 x2 y3 x4 := by unfold DF; rw [Z.put_ne (by decide +kernel), Z.put_ne (by decide +kernel), Z.put_ne (by decide +kernel)]; first | exact Z.put_eq | rw [Z.put_eq]
theorem DF_g4 : (DF x0 x1 x2 x3 x4).lookup ("is_down" : Str) = some (.bl x4) := by unfold DF; rw [Z.look_ne (by decide +kernel), Z.look_ne (by decide +kernel), Z.look_ne (by decide +kernel), Z.look_ne (by decide +kernel)]; exact Z.look_eq
theorem DF_p4 : putF ("is_down" : Str) (.bl y4) (DF x0 x1 x2 x3 x4) = DF x0 x1 x2 x3 y4 := by unfold DF; rw [Z.put_ne (by decide +kernel), Z.put_ne (by decide +kernel), Z.put_ne (by decide +kernel), Z.put_ne (by decide +kernel)]; first | exact Z.put_eq | rw [Z.put_eq]
theorem DF_no {m : Str} (h : (["held_rows", "held_pages", "many_writes", "due", "is_down"] : List Str).all (fun f => !decide (m = f)) = true) : (DF x0 x1 x2 x3 x4).lookup m = none := by
  simp only [List.all_cons, List.all_nil, Bool.and_true, Bool.and_eq_true, Bool.not_eq_true'] at h
  obtain ⟨h0, h1, h2, h3, h4⟩ := h
  unfold DF
  rw [Z.look_ne h0, Z.look_ne h1, Z.look_ne h2, Z.look_ne h3, Z.look_ne h4]
  rfl
theorem DF_len : (DF x0 x1 x2 x3 x4).length < 1000 := by unfold DF; simp only [List.length_cons, List.length_nil]; decide
end
local macro_rules | `(tactic| walk_at "z look") => `(tactic| first | (with_reducible exact DF_g0) | (with_reducible exact DF_g1) | (with_reducible exact DF_g2) | (with_reducible exact DF_g3) | (with_reducible exact DF_g4) | rfl)
local macro_rules | `(tactic| walk_at "z put") => `(tactic| first | rw [DF_p0] | rw [DF_p1] | rw [DF_p2] | rw [DF_p3] | rw [DF_p4] | (simp (disch := decide +kernel) only [Z.put_ne, Z.put_eq, Z.put_nil]))
local macro_rules | `(tactic| walk_at "z no") => `(tactic| first | (with_reducible refine DF_no (by decide +kernel)) | rfl)
local macro_rules | `(tactic| walk_at "z small") => `(tactic| first | (with_reducible exact DF_len) | decide | (simp only [List.length_cons, List.length_nil]; decide) | omega)

def Str.ok (z : Str) : Prop := PyData.strOk z = true ∧ z.length ≤ 200
/-- what is due, as a value and as a cell -/
def dueV (due : Option (Int × Int)) (t : Addr) : V := if due.isSome then .ref t else .non
def dueC (due : Option (Int × Int)) (t : Addr) : List (Addr × HO) := match due with
  | none => []
  | some (a, s) => [(t, .tup [.int a, .int s])]
structure Dk where
  p : Addr
  dx : Addr
  r : Addr
  g : Addr
  rows : List Str
  pages : List Str
  n : Int
  due : Option (Int × Int)
  t : Addr
  down : Bool
def dc (C : Addr) (d : Dk) : List (Addr × HO) := (d.p, .ins C d.dx (DF d.r d.g d.n (dueV d.due d.t) d.down)) :: (d.r, .lst (d.rows.map .str)) :: (d.g, .lst (d.pages.map .str)) :: dueC d.due d.t
/-- what is made new -/
def News (new : List (Addr × HO)) (H H' : Hp) : Prop := Z.Hs new H H'
theorem News.same {new : List (Addr × HO)} {H H' : Hp} (h : News new H H') : Same H H' := h.fr
theorem News.one {H : Hp} {p : Addr} {o : HO} (hp : H p = none) : News [(p, o)] H (upd H p o) := Z.Hs.nil.new hp
/-- a write comes: refused, whole, or so many signs of it -/
def comeR (due : Option (Int × Int)) (down : Bool) : Option (Option Int) := if down then none else match due with
  | none => some none
  | some (a, s) => if 0 < a then some none else some (some s)
def comeS (due : Option (Int × Int)) (down : Bool) : Option (Int × Int) × Bool := if down then (due, true) else match due with
  | none => (none, false)
  | some (a, s) => if 0 < a then (some (a - 1, s), false) else (none, true)
structure After (d d' : Dk) : Prop where
  p : d'.p = d.p
  n : d'.n = d.n + 1
  st : (d'.due, d'.down) = comeS d.due d.down
/-- what a deed does to rows and pages: w the deed, r how many signs come (none: all) -/
def eff (w : Nat) (i : Nat) (z : Str) (m : Int) (r : Option Int) (s : List Str × List Str) : List Str × List Str := match r with
  | none => if w = 0 then (s.1 ++ [z], s.2) else if w = 1 then (s.1, s.2.set i z) else if w = 2 then (Z.cutT s.1 none (some m), s.2) else (Z.cutT s.1 (some m) none, s.2)
  | some k => if w = 0 then (if cutS z none (some k) = "" then s.1 else s.1 ++ [cutS z none (some k)], s.2) else if w = 1 then (s.1, s.2.set i (cutS z none (some k))) else
      if 0 < k then (if w = 2 then (Z.cutT s.1 none (some m), s.2) else (Z.cutT s.1 (some m) none, s.2)) else s
def word (w : Nat) : Str := if w = 0 then "row" else if w = 1 then "page" else if w = 2 then "tail" else "head"
/-- a deed's promise -/
def Deed (A : Adr) (F H : Hp) (d : Dk) (w i : Nat) (z : Str) (m : Int) (Q : VK) (E : XK) : Prop :=
  (comeR d.due d.down = none → ∀ H', Z.Hs (dc A.Disk d) F H' → E (.ref A.Fell) none H') ∧
  (∀ H' d', comeR d.due d.down = some none → After d d' → (d'.rows, d'.pages) = eff w i z m none (d.rows, d.pages) → Z.Hs (dc A.Disk d') F H' → Q .non H') ∧
  ∀ k H' d', comeR d.due d.down = some (some k) → After d d' → (d'.rows, d'.pages) = eff w i z m (some k) (d.rows, d.pages) → Z.Hs (dc A.Disk d') F H' → E (.ref A.Fell) none H'
def sp_Disk___init__ (K : PySem.W.Frag) (A : Adr) : Sp := fun vs H Q _ => ∃ (F : Hp) (p dx : Addr), vs = [.ref p] ∧ Z.Hs [(p, .ins A.Disk dx [])] F H ∧
  ∀ H' (d : Dk), d.p = p → d.rows = [] → d.pages = List.replicate 8 ("" : Str) → d.n = 0 → d.due = none → d.down = false → Z.Hs (dc A.Disk d) F H' → Q .non H'
def sp_Disk_coming (K : PySem.W.Frag) (A : Adr) : Sp := fun vs H Q E => ∃ (F : Hp) (d : Dk), vs = [.ref d.p] ∧ Z.Hs (dc A.Disk d) F H ∧
  (comeR d.due d.down = none → E (.ref A.Fell) none H) ∧ ∀ k H' d', comeR d.due d.down = some k → After d d' → d'.r = d.r → d'.g = d.g → d'.dx = d.dx → d'.rows = d.rows → d'.pages = d.pages → Z.Hs (dc A.Disk d') F H' → Q (match k with | none => .non | some k => .int k) H'
def sp_Disk_log_rows (K : PySem.W.Frag) (A : Adr) : Sp := fun vs H Q _ => ∃ (d : Dk), vs = [.ref d.p] ∧ Z.Sees (dc A.Disk d) H ∧ ∀ q H', H q = none → News [(q, .lst (d.rows.map .str))] H H' → Q (.ref q) H'
def sp_Disk_page (K : PySem.W.Frag) (A : Adr) : Sp := fun vs H Q _ => ∃ (d : Dk) (i : Nat) (z : Str), vs = [.ref d.p, .int i] ∧ Z.Sees (dc A.Disk d) H ∧ d.pages[i]? = some z ∧ Q (.str z) H
def sp_Disk_writes (K : PySem.W.Frag) (A : Adr) : Sp := fun vs H Q _ => ∃ (d : Dk), vs = [.ref d.p] ∧ Z.Sees (dc A.Disk d) H ∧ Q (.int d.n) H
def sp_Disk_power (K : PySem.W.Frag) (A : Adr) : Sp := fun vs H Q _ => ∃ (F : Hp) (d : Dk), vs = [.ref d.p] ∧ Z.Hs (dc A.Disk d) F H ∧ ∀ H', Z.Hs (dc A.Disk { d with due := none, down := false }) F H' → Q .non H'
def sp_Disk_fall_at (K : PySem.W.Frag) (A : Adr) : Sp := fun vs H Q _ => ∃ (F : Hp) (d : Dk) (a s : Int), vs = [.ref d.p, .int a, .int s] ∧ Z.Hs (dc A.Disk d) F H ∧ ∀ H' t, Z.Hs (dc A.Disk { d with due := some (a, s), t := t }) F H' → Q .non H'
def sp_Disk_add_row (K : PySem.W.Frag) (A : Adr) : Sp := fun vs H Q E => ∃ (F : Hp) (d : Dk) (z : Str), vs = [.ref d.p, .str z] ∧ Z.Hs (dc A.Disk d) F H ∧ d.rows.length ≤ 100000 ∧ z.length ≤ 1000 ∧ Deed A F H d 0 0 z 0 Q E
def sp_Disk_put_page (K : PySem.W.Frag) (A : Adr) : Sp := fun vs H Q E => ∃ (F : Hp) (d : Dk) (i : Nat) (z : Str), vs = [.ref d.p, .int i, .str z] ∧ Z.Hs (dc A.Disk d) F H ∧ i < d.pages.length ∧ z.length ≤ 1000 ∧ Deed A F H d 1 i z 0 Q E
def sp_Disk_cut_to (K : PySem.W.Frag) (A : Adr) : Sp := fun vs H Q E => ∃ (F : Hp) (d : Dk) (q : Addr) (w : Nat) (m : Int), vs = [.ref d.p, .ref q] ∧ (w = 2 ∨ w = 3) ∧ Z.Hs ((q, .lst ((eff w 0 "" m none (d.rows, d.pages)).1.map .str)) :: dc A.Disk d) F H ∧ Deed A F H d w 0 "" m Q E
def sp_Disk_cut_tail (K : PySem.W.Frag) (A : Adr) : Sp := fun vs H Q E => ∃ (F : Hp) (d : Dk) (m : Int), vs = [.ref d.p, .int m] ∧ Z.Hs (dc A.Disk d) F H ∧ Deed A F H d 2 0 "" m Q E
def sp_Disk_cut_head (K : PySem.W.Frag) (A : Adr) : Sp := fun vs H Q E => ∃ (F : Hp) (d : Dk) (m : Int), vs = [.ref d.p, .int m] ∧ Z.Hs (dc A.Disk d) F H ∧ Deed A F H d 3 0 "" m Q E
def sp_Disk_copied (K : PySem.W.Frag) (A : Adr) : Sp := fun vs H Q _ => ∃ (d : Dk), vs = [.ref d.p] ∧ Z.Sees (dc A.Disk d) H ∧
  ∀ H' (d' : Dk), d'.rows = d.rows → d'.pages = d.pages → d'.n = 0 → d'.due = none → d'.down = false → News (dc A.Disk d') H H' → Q (.ref d'.p) H'

/-- the model of the law: a dict -/
def MF (r g : Addr) (n : Int) (d : V) (b : Bool) : List (Key × V) := [(.inr "rows", .ref r), (.inr "pages", .ref g), (.inr "writes", .int n), (.inr "due", d), (.inr "down", .bl b)]
section
variable {r g r' g' : Addr} {n n' : Int} {d d' : V} {b b' : Bool}
theorem mf_rows : valV (MF r g n d b) (Sum.inr "rows") = some (.ref r) := by kernel_rfl
theorem mf_pages : valV (MF r g n d b) (Sum.inr "pages") = some (.ref g) := by kernel_rfl
theorem mf_writes : valV (MF r g n d b) (Sum.inr "writes") = some (.int n) := by kernel_rfl
theorem mf_due : valV (MF r g n d b) (Sum.inr "due") = some d := by kernel_rfl
theorem mf_down : valV (MF r g n d b) (Sum.inr "down") = some (.bl b) := by kernel_rfl
theorem mp_rows : putK (MF r g n d b) (Sum.inr "rows") (.ref r') = MF r' g n d b := by kernel_rfl
theorem mp_pages : putK (MF r g n d b) (Sum.inr "pages") (.ref g') = MF r g' n d b := by kernel_rfl
theorem mp_writes : putK (MF r g n d b) (Sum.inr "writes") (.int n') = MF r g n' d b := by kernel_rfl
theorem mp_due : putK (MF r g n d b) (Sum.inr "due") d' = MF r g n d' b := by kernel_rfl
theorem mp_down : putK (MF r g n d b) (Sum.inr "down") (.bl b') = MF r g n d b' := by kernel_rfl
theorem mf_len : (MF r g n d b).length < 1000 := by show 5 < 1000; decide
end
local macro_rules | `(tactic| walk_at "z val") => `(tactic| first | exact mf_rows | exact mf_pages | exact mf_writes | exact mf_due | exact mf_down)
local macro_rules | `(tactic| walk_at "z putK") => `(tactic| first | exact mp_rows | exact mp_pages | exact mp_writes | exact mp_down | exact mp_due)
local macro_rules | `(tactic| walk_at "z small") => `(tactic| exact mf_len)
structure Md where
  p : Addr
  r : Addr
  g : Addr
  rows : List Str
  pages : List Str
  n : Int
  due : Option (Int × Int)
  t : Addr
  down : Bool
def mc (m : Md) : List (Addr × HO) := (m.p, .dK (MF m.r m.g m.n (dueV m.due m.t) m.down)) :: (m.r, .lst (m.rows.map .str)) :: (m.g, .lst (m.pages.map .str)) :: dueC m.due m.t
def optV : Option Int → V
  | none => .non
  | some k => .int k
structure DeedOk (F : Hp) (q : Addr) (wd i : Nat) (z : Str) (m : Int) (rows pages : List Str) : Prop where
  q : F q = some (.lst [.str (word wd), .int i, .str z, .int m])
  w : wd < 4
  i : i < pages.length
  few : rows.length ≤ 100000
  z : Str.ok z
def sp_law_cell (K : PySem.W.Frag) (A : Adr) : Sp := fun vs H Q _ => ∃ (a : Addr) (ns : List Int) (k : Nat), vs = [.ref a, .int k] ∧ SqL K H a (ns.map V.int) ∧ k ≤ 1000 ∧ ∀ c, Q (.int c) H
def sp_law_draw (K : PySem.W.Frag) (A : Adr) : Sp := fun vs H Q _ => ∃ (c k : Int), vs = [.int c, .int k] ∧ 0 ≤ k ∧ k ≤ 1000 ∧ ∀ r, 0 ≤ r → r < 281474976710656 → Q (.int r) H
def sp_law_text (K : PySem.W.Frag) (A : Adr) : Sp := fun vs H Q _ => ∃ (c k : Int), vs = [.int c, .int k] ∧ 0 ≤ k ∧ k ≤ 1000 ∧ ∀ z H', Str.ok z → Same H H' → Q (.str z) H'
def sp_law_deed (K : PySem.W.Frag) (A : Adr) : Sp := fun vs H Q _ => ∃ (c : Int), vs = [.int c] ∧ ∀ (q : Addr) (w i : Nat) (z : Str) (m : Int) H', w < 4 → i < 8 → Str.ok z → 0 ≤ m →
  News [(q, .lst [.str (word w), .int i, .str z, .int m])] H H' → Q (.ref q) H'
def sp_law_told (K : PySem.W.Frag) (A : Adr) : Sp := fun vs H Q _ => ∃ (F : Hp) (d : Dk) (q : Addr) (wd i : Nat) (z : Str) (m : Int), vs = [.ref d.p, .ref q] ∧ Z.Hs (dc A.Disk d) F H ∧ DeedOk F q wd i z m d.rows d.pages ∧
  Deed A F H d wd i z m Q (fun _ _ H' => Q (.str "fell") H')
def sp_law_done (K : PySem.W.Frag) (A : Adr) : Sp := fun vs H Q _ => ∃ (F : Hp) (d : Md) (q : Addr) (wd i : Nat) (z : Str) (m : Int) (r : Option Int), vs = [.ref d.p, .ref q, optV r] ∧ Z.Hs (mc d) F H ∧ DeedOk F q wd i z m d.rows d.pages ∧ (∀ k, r = some k → 0 ≤ k) ∧
  ∀ H' r' g' rows' pages', (rows', pages') = eff wd i z m r (d.rows, d.pages) → Z.Hs (mc { d with r := r', g := g', rows := rows', pages := pages' }) F H' → Q .non H'
def sp_law_new (K : PySem.W.Frag) (A : Adr) : Sp := fun vs H Q _ => vs = [] ∧ ∀ H' (d : Md), d.rows = [] → d.pages = List.replicate 8 ("" : Str) → d.n = 0 → d.due = none → d.down = false → News (mc d) H H' → Q (.ref d.p) H'
def sp_law_copied (K : PySem.W.Frag) (A : Adr) : Sp := fun vs H Q _ => ∃ (d : Md), vs = [.ref d.p] ∧ Z.Sees (mc d) H ∧ ∀ H' (d' : Md), d'.rows = d.rows → d'.pages = d.pages → d'.n = 0 → d'.due = none → d'.down = false → News (mc d') H H' → Q (.ref d'.p) H'
structure Pair (i : Nat) (d : Dk) (m : Md) : Prop where
  rows : d.rows = m.rows
  pages : d.pages = m.pages
  n : d.n = m.n
  eight : d.pages.length = 8
  okr : ∀ z ∈ d.rows, PyData.strOk z = true
  okp : ∀ z ∈ d.pages, PyData.strOk z = true
  few : d.rows.length ≤ i
  pos : 0 ≤ d.n
  low : d.n ≤ (i : Int)
  due : d.due = m.due
  down : d.down = m.down
  sg : ∀ a s, d.due = some (a, s) → 0 ≤ s
def sp_law_stands (K : PySem.W.Frag) (A : Adr) : Sp := fun vs H Q _ => ∃ (i : Nat) (d : Dk) (m : Md), vs = [.ref d.p, .ref m.p] ∧ Z.Sees (dc A.Disk d) H ∧ Z.Sees (mc m) H ∧ Pair i d m ∧ i ≤ 1000 ∧ ∀ H', Same H H' → Q (.bl true) H'
def sp_law_write (K : PySem.W.Frag) (A : Adr) : Sp := fun vs H Q _ => ∃ (F : Hp) (i : Nat) (d : Dk) (m : Md) (q : Addr) (wd sl : Nat) (z : Str) (mm : Int), vs = [.ref d.p, .ref m.p, .ref q] ∧ Z.Hs ([dc A.Disk d, mc m] : List (List (Addr × HO))).flatten F H ∧ Pair i d m ∧ i ≤ 1000 ∧ DeedOk F q wd sl z mm d.rows d.pages ∧
  ∀ H' d' m', d'.p = d.p → m'.p = m.p → Pair (i + 1) d' m' → Z.Hs ([dc A.Disk d', mc m'] : List (List (Addr × HO))).flatten F H' → Q (.bl true) H'
def spLaw (K : PySem.W.Frag) : Sp := fun vs H Q _ => ∃ (a : Addr) (ns : List Int), vs = [.ref a] ∧ SqL K H a (ns.map V.int) ∧ ns.length ≤ 63 ∧ ∀ H', Q (.bl true) H'
section
variable {P : Program} {w : World} {K : PySem.W.Frag} {mg : Str → Option Value} {base : Heap} {A : Adr}
theorem ok_Disk_coming (T : Txt K mg A) : ∃ fd, FnOk P w K mg base (L2.CX P w) 1 A.f_Disk_coming fd ["self"] (sp_Disk_coming K A) ∧ Binds K fd ["self"] [] := by
  have ⟨fd, F, b⟩ := T.d_Disk_coming
  refine ⟨fd, F.okX sc_Disk_coming (fun vs H Q E h => ?_) (fun cdv Ar outer s H vs Q E hr h => ?_), b⟩
  · obtain ⟨F0, d, rfl, _⟩ := h
    rfl
  · obtain ⟨F0, d, rfl, S, k0, k1⟩ := h
    have nd := sc_Disk_coming.nd
    have hu := hu_of hr
    refine ⟨_, (pss_cons (ps_if (pt_val (pe_fld (pv 0) rfl)) (pss_one (ps_raise rfl (takes_of rfl rfl rfl rfl) (Z.pmk_own0 PySem.F.excBase_ValueError T.xF_Fell T.g_Fell T.kc_Fell (raises_own T.sb_Fell T.tb_Fell)))) pss_nil)
      (pss_cons (ps_fldaug (pv 0) pe_int in_add)
      (pss_cons (ps_if (pt_cmpR op_isN (pe_fld (pv 0) rfl) pe_non (nomark _)) (pss_one (ps_ret pe_non)) pss_nil)
      (pss_cons (ps_asg (pe_fld (pv 0) rfl) (pg_tup rfl (pgs_cons (pg_name (i := 1) nd rfl (Or.inl rfl)) (pgs_cons (pg_name (i := 2) nd rfl (Or.inl rfl)) pgs_nil))))
      (pss_cons (ps_fld (pv 0) (pe_tup (pa_cons (pe_op op_sub (pv 1) pe_int) (pa_cons (pv 2) pa_nil))) rfl)
      (pss_cons (ps_if (pt_cmpR op_gt (pv 1) pe_int (nomark _)) (pss_one (ps_ret pe_non)) pss_nil)
      (pss_cons (ps_fld (pv 0) pe_non rfl)
      (pss_cons (ps_fld (pv 0) pe_bl rfl)
      (pss_one (ps_ret (pv 2))))))))))), ?_⟩
    simp only [cxOf, Cx.nox, L2.start, List.map_cons, List.map_nil, List.length_cons, List.length_nil, Nat.reduceAdd, Nat.reduceSub, List.replicate, List.cons_append, List.nil_append]
    obtain ⟨p, dx, r, g, rows, pages, n, due, t, down⟩ := d
    have h0 : H p = _ := S.at 0 rfl
    cases down with
    | true =>
      walk_at "z"
      exact k0 rfl
    | false =>
      cases due with
      | none =>
        walk_at "z"
        exact k1 none _ ⟨p, dx, r, g, rows, pages, n + 1, none, t, false⟩ rfl ⟨rfl, rfl, rfl⟩ rfl rfl rfl rfl rfl (S.set 0 rfl _)
      | some as =>
        obtain ⟨a, s⟩ := as
        have S1 := S.set 0 rfl (.ins A.Disk dx (DF r g (n + 1) (.ref t) false))
        walk_at "z"
        refine ⟨t, _, rfl, SqT.of (S1.at 3 rfl), rfl, ?_⟩
        walk_at "z"
        refine ⟨by simp only [List.length_cons, List.length_nil]; decide, fun t2 ht2 => ?_⟩
        have S2 := S1.new (o := .tup [.int (a - 1), .int s]) ht2
        have h2 := S2.at 1 rfl
        walk_at "z"
        have S3 := S2.set 1 rfl (.ins A.Disk dx (DF r g (n + 1) (.ref t2) false))
        have h3 := S3.at 1 rfl
        refine Z.iteD (fun e => ?_) (fun e => ?_)
        · walk_at "z"
          have e' : 0 < a := e
          exact k1 none _ ⟨p, dx, r, g, rows, pages, n + 1, some (a - 1, s), t2, false⟩ (by simp [comeR, e']) ⟨rfl, rfl, by simp [comeS, e']⟩ rfl rfl rfl rfl rfl (S3.pick [1, 2, 3, 0] (by decide) rfl)
        · walk_at "z"
          have e' : ¬ 0 < a := e
          exact k1 (some s) _ ⟨p, dx, r, g, rows, pages, n + 1, none, t2, true⟩ (by simp [comeR, e']) ⟨rfl, rfl, by simp [comeS, e']⟩ rfl rfl rfl rfl rfl (((S3.set 1 rfl _).set 1 rfl (.ins A.Disk dx (DF r g (n + 1) .non true))).pick [1, 2, 3] (by decide) rfl)
theorem ok_Disk_fall_at (T : Txt K mg A) : ∃ fd, FnOk P w K mg base CX0 1 A.f_Disk_fall_at fd ["self", "after", "signs"] (sp_Disk_fall_at K A) ∧ Binds K fd ["self", "after", "signs"] [] := by
  have ⟨fd, F, b⟩ := T.d_Disk_fall_at
  refine ⟨fd, F.ok sc_Disk_fall_at (fun vs H Q E h => ?_) (fun cdv Ar outer s H vs Q E hr h => ?_), b⟩
  · obtain ⟨F0, d, a, s, rfl, _⟩ := h
    rfl
  · obtain ⟨F0, d, a, s, rfl, S, k⟩ := h
    have nd := sc_Disk_fall_at.nd
    have hu := hu_of hr
    refine ⟨_, (pss_one (ps_fld (pv 0) (pe_tup (pa_cons (pv 1) (pa_cons (pv 2) pa_nil))) rfl)), ?_⟩
    simp only [cxOf, Cx.nox, L2.start, List.map_cons, List.map_nil, List.length_cons, List.length_nil, Nat.reduceAdd, Nat.reduceSub, List.replicate, List.cons_append, List.nil_append]
    obtain ⟨p, dx, r, g, rows, pages, n, due, t, down⟩ := d
    have h0 : H p = _ := S.at 0 rfl
    walk_at "z"
    refine ⟨by simp only [List.length_cons, List.length_nil]; decide, fun t2 ht2 => ?_⟩
    have S2 := S.new (o := .tup [.int a, .int s]) ht2
    have h2 := S2.at 1 rfl
    walk_at "z"
    exact k _ t2 ((S2.set 1 rfl (.ins A.Disk dx (DF r g n (.ref t2) down))).pick [1, 2, 3, 0] (by decide) rfl)
theorem ok_Disk_power (T : Txt K mg A) : ∃ fd, FnOk P w K mg base CX0 1 A.f_Disk_power fd ["self"] (sp_Disk_power K A) ∧ Binds K fd ["self"] [] := by
  have ⟨fd, F, b⟩ := T.d_Disk_power
  refine ⟨fd, F.ok sc_Disk_power (fun vs H Q E h => ?_) (fun cdv Ar outer s H vs Q E hr h => ?_), b⟩
  · obtain ⟨F0, d, rfl, _⟩ := h
    rfl
  · obtain ⟨F0, d, rfl, S, k⟩ := h
    have nd := sc_Disk_power.nd
    have hu := hu_of hr
    refine ⟨_, (pss_cons (ps_fld (pv 0) pe_non rfl)
      (pss_one (ps_fld (pv 0) pe_bl rfl))), ?_⟩
    simp only [cxOf, Cx.nox, L2.start, List.map_cons, List.map_nil, List.length_cons, List.length_nil, Nat.reduceAdd, Nat.reduceSub, List.replicate, List.cons_append, List.nil_append]
    obtain ⟨p, dx, r, g, rows, pages, n, due, t, down⟩ := d
    have h0 : H p = _ := S.at 0 rfl
    walk_at "z"
    exact k _ (((S.set 0 rfl _).set 0 rfl (.ins A.Disk dx (DF r g n .non false))).pick [0, 1, 2] (by decide) rfl)
theorem ok_Disk_log_rows (T : Txt K mg A) : ∃ fd, FnOk P w K mg base CX0 1 A.f_Disk_log_rows fd ["self"] (sp_Disk_log_rows K A) ∧ Binds K fd ["self"] [] := by
  have ⟨fd, F, b⟩ := T.d_Disk_log_rows
  refine ⟨fd, F.ok sc_Disk_log_rows (fun vs H Q E h => ?_) (fun cdv Ar outer s H vs Q E hr h => ?_), b⟩
  · obtain ⟨d, rfl, _⟩ := h
    rfl
  · obtain ⟨d, rfl, S, k⟩ := h
    have nd := sc_Disk_log_rows.nd
    have hu := hu_of hr
    refine ⟨_, (pss_one (ps_ret (pe_callTy call_list_of (by rfl) T.b_list (by decide +kernel) (pa_cons (pe_fld (pv 0) rfl) pa_nil)))), ?_⟩
    simp only [cxOf, Cx.nox, L2.start, List.map_cons, List.map_nil, List.length_cons, List.length_nil, Nat.reduceAdd, Nat.reduceSub, List.replicate, List.cons_append, List.nil_append]
    have h0 : H d.p = _ := S.at 0 rfl
    walk_at "z"
    exact ⟨d.r, _, rfl, .inl (SqL.of (S.at 1 rfl)), fun l hl => k l _ hl (News.one hl)⟩
theorem ok_Disk_page (T : Txt K mg A) : ∃ fd, FnOk P w K mg base CX0 1 A.f_Disk_page fd ["self", "slot"] (sp_Disk_page K A) ∧ Binds K fd ["self", "slot"] [] := by
  have ⟨fd, F, b⟩ := T.d_Disk_page
  refine ⟨fd, F.ok sc_Disk_page (fun vs H Q E h => ?_) (fun cdv Ar outer s H vs Q E hr h => ?_), b⟩
  · obtain ⟨d, i, z, rfl, _⟩ := h
    rfl
  · obtain ⟨d, i, z, rfl, S, hi, k⟩ := h
    have nd := sc_Disk_page.nd
    have hu := hu_of hr
    refine ⟨_, (pss_one (ps_ret (pe_ix ix_list (pe_fld (pv 0) rfl) (pv 1) (fun _ _ => rfl)))), ?_⟩
    simp only [cxOf, Cx.nox, L2.start, List.map_cons, List.map_nil, List.length_cons, List.length_nil, Nat.reduceAdd, Nat.reduceSub, List.replicate, List.cons_append, List.nil_append]
    have h0 : H d.p = _ := S.at 0 rfl
    walk_at "z"
    exact ⟨d.g, _, _, _, rfl, rfl, SqL.of (S.at 2 rfl), atI_nat (by rw [List.getElem?_map, hi]; rfl), k⟩
theorem ok_Disk_writes (T : Txt K mg A) : ∃ fd, FnOk P w K mg base CX0 1 A.f_Disk_writes fd ["self"] (sp_Disk_writes K A) ∧ Binds K fd ["self"] [] := by
  have ⟨fd, F, b⟩ := T.d_Disk_writes
  refine ⟨fd, F.ok sc_Disk_writes (fun vs H Q E h => ?_) (fun cdv Ar outer s H vs Q E hr h => ?_), b⟩
  · obtain ⟨d, rfl, _⟩ := h
    rfl
  · obtain ⟨d, rfl, S, k⟩ := h
    have nd := sc_Disk_writes.nd
    have hu := hu_of hr
    refine ⟨_, (pss_one (ps_ret (pe_fld (pv 0) rfl))), ?_⟩
    simp only [cxOf, Cx.nox, L2.start, List.map_cons, List.map_nil, List.length_cons, List.length_nil, Nat.reduceAdd, Nat.reduceSub, List.replicate, List.cons_append, List.nil_append]
    have h0 : H d.p = _ := S.at 0 rfl
    walk_at "z"
    exact k
theorem ok_Disk___init__ (T : Txt K mg A) : ∃ fd, FnOk P w K mg base CX0 1 A.f_Disk___init__ fd ["self"] (sp_Disk___init__ K A) ∧ Binds K fd ["self"] [] := by
  have ⟨fd, F, b⟩ := T.d_Disk___init__
  refine ⟨fd, F.ok sc_Disk___init__ (fun vs H Q E h => ?_) (fun cdv Ar outer s H vs Q E hr h => ?_), b⟩
  · obtain ⟨F0, p, dx, rfl, _⟩ := h
    rfl
  · obtain ⟨F0, p, dx, rfl, S, k⟩ := h
    have nd := sc_Disk___init__.nd
    have hu := hu_of hr
    refine ⟨_, (pss_cons (ps_fld (pv 0) (pe_lst pa_nil) rfl)
      (pss_cons (ps_fld (pv 0) (pe_op op_rep (pe_lst (pa_cons pe_str pa_nil)) (Z.pe_gint rfl T.v_MOST_SLOTS)) rfl)
      (pss_cons (ps_fld (pv 0) pe_int rfl)
      (pss_cons (ps_fld (pv 0) pe_non rfl)
      (pss_one (ps_fld (pv 0) pe_bl rfl)))))), ?_⟩
    simp only [cxOf, Cx.nox, L2.start, List.map_cons, List.map_nil, List.length_cons, List.length_nil, Nat.reduceAdd, Nat.reduceSub, List.replicate, List.cons_append, List.nil_append]
    have hp : H p = _ := S.at 0 rfl
    walk_at "z"
    refine ⟨Nat.zero_le _, fun r hr0 => ?_⟩
    have npr : p ≠ r := ne_of_none hp hr0
    have S1 := (S.new (o := .lst []) hr0).set 1 rfl (.ins A.Disk dx [("held_rows", .ref r)])
    walk_at "z"
    refine ⟨by decide, fun q hq => ?_⟩
    have S2 := S1.new (o := .lst [.str ""]) hq
    walk_at "z"
    refine ⟨q, 8, _, rfl, rfl, S2.at 0 rfl, by decide, by decide, by decide, fun g hg => ?_⟩
    have S3 := (S2.new (o := .lst (List.replicate (8 : Int).toNat [V.str ""]).flatten) hg)
    have hp3 := S3.at 3 rfl
    walk_at "z"
    refine k _ ⟨p, dx, r, g, [], List.replicate 8 "", 0, none, p, false⟩ rfl rfl rfl rfl rfl rfl ((((((S3.set 3 rfl _).set 3 rfl _).set 3 rfl _).set 3 rfl (.ins A.Disk dx (DF r g 0 .non false))).pick [3, 2, 0] (by decide) rfl))
theorem str_ne {x y : Str} (h : ¬ V.str x = V.str y) : ¬ x = y := fun e => h (by rw [e])
theorem ok_Disk_add_row (T : Txt K mg A) : ∃ fd, FnOk P w K mg base (L2.CX P w) 2 A.f_Disk_add_row fd ["self", "text"] (sp_Disk_add_row K A) ∧ Binds K fd ["self", "text"] [] := by
  have ⟨fd, F, b⟩ := T.d_Disk_add_row
  refine ⟨fd, F.okX sc_Disk_add_row (fun vs H Q E h => ?_) (fun cdv Ar outer s H vs Q E hr h => ?_), b⟩
  · obtain ⟨F0, d, z, rfl, _⟩ := h
    rfl
  · obtain ⟨F0, d, z, rfl, S, hl, hz, k0, k1, k2⟩ := h
    have nd := sc_Disk_add_row.nd
    have hu := hu_of hr
    have ⟨fd_Disk_coming, G_Disk_coming, b_Disk_coming⟩ := ok_Disk_coming (P := P) (w := w) (base := base) T
    refine ⟨_, (pss_cons (ps_set (i := 2) nd rfl (Or.inl rfl) (pe_meth0 (pv 0) T.c_Disk T.m_Disk_coming G_Disk_coming (hr.mono (by decide)) b_Disk_coming .nil (passes_call (takes_of rfl rfl rfl rfl) (fun _ _ _ _ h => h))))
      (pss_cons (ps_if (pt_cmpR op_isN (pv 2) pe_non (nomark _)) (pss_cons (ps_expr (pe_bm PySem.F.plainAttrs_list PySem.F.slot_list_append PySem.F.type_list_append mt_append (pe_fld (pv 0) rfl) (pa_cons (pv 1) pa_nil)))
      (pss_one ps_retN)) pss_nil)
      (pss_cons (ps_if (pt_cmpR op_ne (pe_slice sl_str (pv 1) po_none (po_some (pv 2))) pe_str (nomark _)) (pss_one (ps_expr (pe_bm PySem.F.plainAttrs_list PySem.F.slot_list_append PySem.F.type_list_append mt_append (pe_fld (pv 0) rfl) (pa_cons (pe_slice sl_str (pv 1) po_none (po_some (pv 2))) pa_nil)))) pss_nil)
      (pss_one (ps_raise rfl (takes_of rfl rfl rfl rfl) (Z.pmk_own0 PySem.F.excBase_ValueError T.xF_Fell T.g_Fell T.kc_Fell (raises_own T.sb_Fell T.tb_Fell))))))), ?_⟩
    simp only [cxOf, Cx.nox, L2.start, List.map_cons, List.map_nil, List.length_cons, List.length_nil, Nat.reduceAdd, Nat.reduceSub, List.replicate, List.cons_append, List.nil_append]
    obtain ⟨p, dx, r, g, rows, pages, n, due, t, down⟩ := d
    have h0 : H p = _ := S.at 0 rfl
    walk_at "z"
    refine ⟨F0, ⟨p, dx, r, g, rows, pages, n, due, t, down⟩, rfl, S, fun c => k0 c H S, fun kk H1 d1 c a e1 e2 e3 e4 e5 S1 => ?_⟩
    obtain ⟨p1, dx1, r1, g1, rows1, pages1, n1, due1, t1, down1⟩ := d1
    obtain rfl : p1 = p := a.p
    obtain rfl : r1 = r := e1
    obtain rfl : g1 = g := e2
    obtain rfl : dx1 = dx := e3
    obtain rfl : rows1 = rows := e4
    obtain rfl : pages1 = pages := e5
    have h1 : H1 p1 = _ := S1.at 0 rfl
    have ap : ∀ y : Str, (rows1 ++ [y]).map V.str = rows1.map V.str ++ [V.str y] := fun y => by simp
    cases kk with
    | none =>
      walk_at "z"
      refine ⟨.inl ⟨rfl, _, SqL.of (S1.at 1 rfl)⟩, ?_⟩
      walk_at "z"
      refine ⟨r1, _, _, rfl, rfl, S1.at 1 rfl, by rw [List.length_map]; exact Nat.lt_of_le_of_lt hl (by decide), ?_⟩
      walk_at "z"
      refine k1 _ ⟨p1, dx1, r1, g1, rows1 ++ [z], pages1, n1, due1, t1, down1⟩ c ⟨rfl, a.n, a.st⟩ rfl ?_
      have := S1.set 1 rfl (.lst ((rows1 ++ [z]).map .str))
      show Z.Hs _ F0 (upd H1 r1 (.lst (rows1.map V.str ++ [V.str z])))
      rw [← ap]
      exact this
    | some kk =>
      walk_at "z"
      refine Z.slS (Nat.le_trans hz (by decide)) ?_
      walk_at "z"
      refine Z.iteN (fun e => ?_) (fun e => ?_)
      · walk_at "z"
        refine ⟨.inl ⟨rfl, _, SqL.of (S1.at 1 rfl)⟩, ?_⟩
        walk_at "z"
        refine Z.slS (Nat.le_trans hz (by decide)) ?_
        refine ⟨r1, _, _, rfl, rfl, S1.at 1 rfl, by rw [List.length_map]; exact Nat.lt_of_le_of_lt hl (by decide), ?_⟩
        refine k2 kk _ ⟨p1, dx1, r1, g1, rows1 ++ [cutS z none (some kk)], pages1, n1, due1, t1, down1⟩ c ⟨rfl, a.n, a.st⟩ (by show _ = eff 0 0 z 0 (some kk) (rows1, pages1); simp [eff, str_ne e]) ?_
        have := S1.set 1 rfl (.lst ((rows1 ++ [cutS z none (some kk)]).map .str))
        show Z.Hs _ F0 (upd H1 r1 (.lst (rows1.map V.str ++ [V.str (cutS z none (some kk))])))
        rw [← ap]
        exact this
      · walk_at "z"
        have e' : cutS z none (some kk) = "" := V.str.inj e
        exact k2 kk _ ⟨p1, dx1, r1, g1, rows1, pages1, n1, due1, t1, down1⟩ c ⟨rfl, a.n, a.st⟩ (by show _ = eff 0 0 z 0 (some kk) (rows1, pages1); simp [eff, e']) S1
theorem ok_Disk_put_page (T : Txt K mg A) : ∃ fd, FnOk P w K mg base (L2.CX P w) 2 A.f_Disk_put_page fd ["self", "slot", "text"] (sp_Disk_put_page K A) ∧ Binds K fd ["self", "slot", "text"] [] := by
  have ⟨fd, F, b⟩ := T.d_Disk_put_page
  refine ⟨fd, F.okX sc_Disk_put_page (fun vs H Q E h => ?_) (fun cdv Ar outer s H vs Q E hr h => ?_), b⟩
  · obtain ⟨F0, d, i, z, rfl, _⟩ := h
    rfl
  · obtain ⟨F0, d, i, z, rfl, S, hi, hz, k0, k1, k2⟩ := h
    have nd := sc_Disk_put_page.nd
    have hu := hu_of hr
    have ⟨fd_Disk_coming, G_Disk_coming, b_Disk_coming⟩ := ok_Disk_coming (P := P) (w := w) (base := base) T
    refine ⟨_, (pss_cons (ps_set (i := 3) nd rfl (Or.inl rfl) (pe_meth0 (pv 0) T.c_Disk T.m_Disk_coming G_Disk_coming (hr.mono (by decide)) b_Disk_coming .nil (passes_call (takes_of rfl rfl rfl rfl) (fun _ _ _ _ h => h))))
      (pss_cons (ps_if (pt_cmpR op_isN (pv 3) pe_non (nomark _)) (pss_cons (ps_asg (pv 2) (pg_sub (pe_fld (pv 0) rfl) (pv 1) set_list))
      (pss_one ps_retN)) pss_nil)
      (pss_cons (ps_asg (pe_slice sl_str (pv 2) po_none (po_some (pv 3))) (pg_sub (pe_fld (pv 0) rfl) (pv 1) set_list))
      (pss_one (ps_raise rfl (takes_of rfl rfl rfl rfl) (Z.pmk_own0 PySem.F.excBase_ValueError T.xF_Fell T.g_Fell T.kc_Fell (raises_own T.sb_Fell T.tb_Fell))))))), ?_⟩
    simp only [cxOf, Cx.nox, L2.start, List.map_cons, List.map_nil, List.length_cons, List.length_nil, Nat.reduceAdd, Nat.reduceSub, List.replicate, List.cons_append, List.nil_append]
    obtain ⟨p, dx, r, g, rows, pages, n, due, t, down⟩ := d
    have h0 : H p = _ := S.at 0 rfl
    walk_at "z"
    refine ⟨F0, ⟨p, dx, r, g, rows, pages, n, due, t, down⟩, rfl, S, fun c => k0 c H S, fun kk H1 d1 c a e1 e2 e3 e4 e5 S1 => ?_⟩
    obtain ⟨p1, dx1, r1, g1, rows1, pages1, n1, due1, t1, down1⟩ := d1
    obtain rfl : p1 = p := a.p
    obtain rfl : r1 = r := e1
    obtain rfl : g1 = g := e2
    obtain rfl : dx1 = dx := e3
    obtain rfl : rows1 = rows := e4
    obtain rfl : pages1 = pages := e5
    have h1 : H1 p1 = _ := S1.at 0 rfl
    have sp : ∀ y : Str, (pages1.set i y).map V.str = (pages1.map V.str).set i (V.str y) := fun y => List.map_set
    have hi' : i < (pages1.map V.str).length := by rw [List.length_map]; exact hi
    cases kk with
    | none =>
      walk_at "z"
      refine Z.setLE (S1.at 2 rfl) hi' ?_
      walk_at "z"
      refine k1 _ ⟨p1, dx1, r1, g1, rows1, pages1.set i z, n1, due1, t1, down1⟩ c ⟨rfl, a.n, a.st⟩ rfl ?_
      have := S1.set 2 rfl (.lst ((pages1.set i z).map .str))
      show Z.Hs _ F0 (upd H1 g1 (.lst ((pages1.map V.str).set i (V.str z))))
      rw [← sp]
      exact this
    | some kk =>
      walk_at "z"
      refine Z.slS (Nat.le_trans hz (by decide)) ?_
      walk_at "z"
      refine Z.setLE (S1.at 2 rfl) hi' ?_
      walk_at "z"
      refine k2 kk _ ⟨p1, dx1, r1, g1, rows1, pages1.set i (cutS z none (some kk)), n1, due1, t1, down1⟩ c ⟨rfl, a.n, a.st⟩ rfl ?_
      have := S1.set 2 rfl (.lst ((pages1.set i (cutS z none (some kk))).map .str))
      show Z.Hs _ F0 (upd H1 g1 (.lst ((pages1.map V.str).set i (V.str (cutS z none (some kk))))))
      rw [← sp]
      exact this
theorem eff_w {w : Nat} (hw : w = 2 ∨ w = 3) (m : Int) (r g : List Str) : ∃ r', eff w 0 "" m none (r, g) = (r', g) ∧ ∀ k : Int, eff w 0 "" m (some k) (r, g) = if 0 < k then (r', g) else (r, g) := by
  rcases hw with rfl | rfl
  · exact ⟨_, rfl, fun k => rfl⟩
  · exact ⟨_, rfl, fun k => rfl⟩
theorem ok_Disk_cut_to (T : Txt K mg A) : ∃ fd, FnOk P w K mg base (L2.CX P w) 2 A.f_Disk_cut_to fd ["self", "rows"] (sp_Disk_cut_to K A) ∧ Binds K fd ["self", "rows"] [] := by
  have ⟨fd, F, b⟩ := T.d_Disk_cut_to
  refine ⟨fd, F.okX sc_Disk_cut_to (fun vs H Q E h => ?_) (fun cdv Ar outer s H vs Q E hr h => ?_), b⟩
  · obtain ⟨F0, d, q, wd, m, rfl, _⟩ := h
    rfl
  · obtain ⟨F0, d, q, wd, m, rfl, hw, S, k0, k1, k2⟩ := h
    have nd := sc_Disk_cut_to.nd
    have hu := hu_of hr
    have ⟨fd_Disk_coming, G_Disk_coming, b_Disk_coming⟩ := ok_Disk_coming (P := P) (w := w) (base := base) T
    refine ⟨_, (pss_cons (ps_set (i := 2) nd rfl (Or.inl rfl) (pe_meth0 (pv 0) T.c_Disk T.m_Disk_coming G_Disk_coming (hr.mono (by decide)) b_Disk_coming .nil (passes_call (takes_of rfl rfl rfl rfl) (fun _ _ _ _ h => h))))
      (pss_cons (ps_if (PW.pt (pw_or (pt_cmpR op_isN (pv 2) pe_non (nomark _)) (pw_or1 (pt_cmpR op_gt (pv 2) pe_int (nomark _))))) (pss_one (ps_fld (pv 0) (pv 1) rfl)) pss_nil)
      (pss_one (ps_if (pt_cmpR op_notN (pv 2) pe_non (nomark _)) (pss_one (ps_raise rfl (takes_of rfl rfl rfl rfl) (Z.pmk_own0 PySem.F.excBase_ValueError T.xF_Fell T.g_Fell T.kc_Fell (raises_own T.sb_Fell T.tb_Fell)))) pss_nil)))), ?_⟩
    simp only [cxOf, Cx.nox, L2.start, List.map_cons, List.map_nil, List.length_cons, List.length_nil, Nat.reduceAdd, Nat.reduceSub, List.replicate, List.cons_append, List.nil_append]
    obtain ⟨p, dx, r, g, rows, pages, n, due, t, down⟩ := d
    obtain ⟨rows', ew, ek⟩ := eff_w hw m rows pages
    have S' : Z.Hs ((q, .lst (rows'.map V.str)) :: dc A.Disk ⟨p, dx, r, g, rows, pages, n, due, t, down⟩) F0 H := by
      have := S
      rw [ew] at this
      exact this
    obtain ⟨F1, S0, ⟨sF, sq⟩, back⟩ := (S'.perm (L1 := dc A.Disk ⟨p, dx, r, g, rows, pages, n, due, t, down⟩ ++ [(q, HO.lst (rows'.map V.str))]) (List.perm_append_comm (l₁ := [(q, HO.lst (rows'.map V.str))]) (l₂ := dc A.Disk ⟨p, dx, r, g, rows, pages, n, due, t, down⟩))).split
    have h0 : H p = _ := S0.at 0 rfl
    walk_at "z"
    refine ⟨F1, ⟨p, dx, r, g, rows, pages, n, due, t, down⟩, rfl, S0, fun c => k0 c H (S0.base sF), fun kk H1 d1 c a e1 e2 e3 e4 e5 S1 => ?_⟩
    obtain ⟨p1, dx1, r1, g1, rows1, pages1, n1, due1, t1, down1⟩ := d1
    obtain rfl : p1 = p := a.p
    obtain rfl : r1 = r := e1
    obtain rfl : g1 = g := e2
    obtain rfl : dx1 = dx := e3
    obtain rfl : rows1 = rows := e4
    obtain rfl : pages1 = pages := e5
    have h1 : H1 p1 = _ := S1.at 0 rfl
    have S2 : Z.Hs ((p1, .ins A.Disk dx1 (DF r1 g1 n1 (dueV due1 t1) down1)) :: (r1, .lst (rows1.map V.str)) :: (g1, .lst (pages1.map V.str)) :: (dueC due1 t1 ++ [(q, .lst (rows'.map V.str))])) F0 H1 := back _ _ S1
    have S3 : Z.Hs (dc A.Disk ⟨p1, dx1, q, g1, rows', pages1, n1, due1, t1, down1⟩) F0 (upd H1 p1 (.ins A.Disk dx1 (DF q g1 n1 (dueV due1 t1) down1))) := by
      have T := S2.set 0 rfl (.ins A.Disk dx1 (DF q g1 n1 (dueV due1 t1) down1))
      cases due1 with
      | none => exact T.pick [0, 3, 2] (by decide) rfl
      | some as => exact T.pick [0, 4, 2, 3] (by decide) rfl
    cases kk with
    | none =>
      walk_at "z"
      exact k1 _ ⟨p1, dx1, q, g1, rows', pages1, n1, due1, t1, down1⟩ c ⟨rfl, a.n, a.st⟩ ew.symm S3
    | some kk =>
      walk_at "z"
      refine Z.iteD (fun e => ?_) (fun e => ?_)
      · have e' : 0 < kk := e
        walk_at "z"
        exact k2 kk _ ⟨p1, dx1, q, g1, rows', pages1, n1, due1, t1, down1⟩ c ⟨rfl, a.n, a.st⟩ (by rw [ek, if_pos e']) S3
      · have e' : ¬ 0 < kk := e
        walk_at "z"
        exact k2 kk _ ⟨p1, dx1, r1, g1, rows1, pages1, n1, due1, t1, down1⟩ c ⟨rfl, a.n, a.st⟩ (by rw [ek, if_neg e']) (S1.base sF)
theorem ok_Disk_cut_tail (T : Txt K mg A) : ∃ fd, FnOk P w K mg base (L2.CX P w) 3 A.f_Disk_cut_tail fd ["self", "many"] (sp_Disk_cut_tail K A) ∧ Binds K fd ["self", "many"] [] := by
  have ⟨fd, F, b⟩ := T.d_Disk_cut_tail
  refine ⟨fd, F.okX sc_Disk_cut_tail (fun vs H Q E h => ?_) (fun cdv Ar outer s H vs Q E hr h => ?_), b⟩
  · obtain ⟨F0, d, m, rfl, _⟩ := h
    rfl
  · obtain ⟨F0, d, m, rfl, S, k0, k1, k2⟩ := h
    have nd := sc_Disk_cut_tail.nd
    have hu := hu_of hr
    have ⟨fd_Disk_cut_to, G_Disk_cut_to, b_Disk_cut_to⟩ := ok_Disk_cut_to (P := P) (w := w) (base := base) T
    refine ⟨_, (pss_one (ps_expr (pe_meth (pv 0) T.c_Disk T.m_Disk_cut_to G_Disk_cut_to (hr.mono (by decide)) b_Disk_cut_to .nil (passes_call (takes_of rfl rfl rfl rfl) (fun _ _ _ _ h => h)) (pa_cons (pe_slice sl_list (pe_fld (pv 0) rfl) po_none (po_some (pv 1))) pa_nil)))), ?_⟩
    simp only [cxOf, Cx.nox, L2.start, List.map_cons, List.map_nil, List.length_cons, List.length_nil, Nat.reduceAdd, Nat.reduceSub, List.replicate, List.cons_append, List.nil_append]
    have h0 : H d.p = _ := S.at 0 rfl
    walk_at "z"
    refine ⟨d.r, _, rfl, SqL.of (S.at 1 rfl), fun q hq => ?_⟩
    rw [Z.cutV_str]
    have S1 := S.new (o := .lst ((Z.cutT d.rows none (some m)).map .str)) hq
    walk_at "z"
    exact ⟨F0, d, q, 2, m, rfl, .inl rfl, S1, k0, k1, k2⟩
theorem ok_Disk_cut_head (T : Txt K mg A) : ∃ fd, FnOk P w K mg base (L2.CX P w) 3 A.f_Disk_cut_head fd ["self", "many"] (sp_Disk_cut_head K A) ∧ Binds K fd ["self", "many"] [] := by
  have ⟨fd, F, b⟩ := T.d_Disk_cut_head
  refine ⟨fd, F.okX sc_Disk_cut_head (fun vs H Q E h => ?_) (fun cdv Ar outer s H vs Q E hr h => ?_), b⟩
  · obtain ⟨F0, d, m, rfl, _⟩ := h
    rfl
  · obtain ⟨F0, d, m, rfl, S, k0, k1, k2⟩ := h
    have nd := sc_Disk_cut_head.nd
    have hu := hu_of hr
    have ⟨fd_Disk_cut_to, G_Disk_cut_to, b_Disk_cut_to⟩ := ok_Disk_cut_to (P := P) (w := w) (base := base) T
    refine ⟨_, (pss_one (ps_expr (pe_meth (pv 0) T.c_Disk T.m_Disk_cut_to G_Disk_cut_to (hr.mono (by decide)) b_Disk_cut_to .nil (passes_call (takes_of rfl rfl rfl rfl) (fun _ _ _ _ h => h)) (pa_cons (pe_slice sl_list (pe_fld (pv 0) rfl) (po_some (pv 1)) po_none) pa_nil)))), ?_⟩
    simp only [cxOf, Cx.nox, L2.start, List.map_cons, List.map_nil, List.length_cons, List.length_nil, Nat.reduceAdd, Nat.reduceSub, List.replicate, List.cons_append, List.nil_append]
    have h0 : H d.p = _ := S.at 0 rfl
    walk_at "z"
    refine ⟨d.r, _, rfl, SqL.of (S.at 1 rfl), fun q hq => ?_⟩
    rw [Z.cutV_str]
    have S1 := S.new (o := .lst ((Z.cutT d.rows (some m) none).map .str)) hq
    walk_at "z"
    exact ⟨F0, d, q, 3, m, rfl, .inr rfl, S1, k0, k1, k2⟩
theorem ok_Disk_copied (T : Txt K mg A) : ∃ fd, FnOk P w K mg base CX0 3 A.f_Disk_copied fd ["self"] (sp_Disk_copied K A) ∧ Binds K fd ["self"] [] := by
  have ⟨fd, F, b⟩ := T.d_Disk_copied
  refine ⟨fd, F.ok sc_Disk_copied (fun vs H Q E h => ?_) (fun cdv Ar outer s H vs Q E hr h => ?_), b⟩
  · obtain ⟨d, rfl, _⟩ := h
    rfl
  · obtain ⟨d, rfl, S, k⟩ := h
    have nd := sc_Disk_copied.nd
    have hu := hu_of hr
    have ⟨fd_Disk___init__, G_Disk___init__, b_Disk___init__⟩ := ok_Disk___init__ (P := P) (w := w) (base := base) T
    refine ⟨_, (pss_cons (ps_set (i := 1) nd rfl (Or.inl rfl) (pe_make0 T.mk_Disk G_Disk___init__ (hr.mono (by decide)) rfl T.g_Disk b_Disk___init__ .nil pass0))
      (pss_cons (ps_fld (pv 1) (pe_callTy call_list_of (by rfl) T.b_list (by decide +kernel) (pa_cons (pe_fld (pv 0) rfl) pa_nil)) rfl)
      (pss_cons (ps_fld (pv 1) (pe_callTy call_list_of (by rfl) T.b_list (by decide +kernel) (pa_cons (pe_fld (pv 0) rfl) pa_nil)) rfl)
      (pss_one (ps_ret (pv 1)))))), ?_⟩
    simp only [cxOf, Cx.nox, L2.start, List.map_cons, List.map_nil, List.length_cons, List.length_nil, Nat.reduceAdd, Nat.reduceSub, List.replicate, List.cons_append, List.nil_append]
    walk_at "z"
    intro x dx hx hdx hne
    have N0 : News [(x, .ins A.Disk dx [])] H (upd (upd H dx (.own x)) x (.ins A.Disk dx [])) := Z.mkO Z.Hs.nil hx hdx hne
    refine ⟨H, x, dx, rfl, N0, fun H1 d1 hp e1 e2 e3 e4 e5 S1 => ⟨rfl, ?_⟩⟩
    obtain ⟨p1, dx1, r1, g1, rows1, pages1, n1, due1, t1, down1⟩ := d1
    obtain rfl : p1 = x := hp
    obtain rfl : due1 = none := e4
    obtain rfl : down1 = false := e5
    have s1 : Same H H1 := S1.same
    have hp1 : H1 p1 = _ := S1.at 0 rfl
    have h0 : H1 d.p = _ := s1 _ _ (S.at 0 rfl)
    have h1 : H1 d.r = _ := s1 _ _ (S.at 1 rfl)
    walk_at "z"
    refine ⟨d.r, _, rfl, .inl (SqL.of h1), fun l hl => ?_⟩
    have N1 : News [(l, .lst (d.rows.map .str))] H1 _ := News.one hl
    have hp2 : upd H1 l (.lst (d.rows.map .str)) p1 = _ := N1.same _ _ hp1
    have hd2 : upd H1 l (.lst (d.rows.map .str)) d.p = _ := N1.same _ _ h0
    have hg2 : upd H1 l (.lst (d.rows.map .str)) d.g = _ := N1.same _ _ (s1 _ _ (S.at 2 rfl))
    have npd : d.p ≠ p1 := ne_of_none (S.at 0 rfl) hx
    have ngd : d.g ≠ p1 := ne_of_none (S.at 2 rfl) hx
    walk_at "z"
    have hg3 : upd (upd H1 l (.lst (d.rows.map .str))) p1 (.ins A.Disk dx1 (DF l g1 n1 .non false)) d.g = _ := (upd_ne ngd).trans hg2
    refine ⟨d.g, _, rfl, .inl (SqL.of hg3), fun m hm => ?_⟩
    have hq : p1 ≠ m := fun e => by rw [← e, upd_same] at hm; cases hm
    walk_at "z"
    refine k _ ⟨p1, dx1, l, m, d.rows, d.pages, n1, none, t1, false⟩ rfl rfl e3 rfl rfl ?_
    have S3 := (((S1.new (o := .lst (d.rows.map .str)) hl).set 1 rfl (.ins A.Disk dx1 (DF l g1 n1 .non false))).new (o := .lst (d.pages.map .str)) hm).set 2 rfl (.ins A.Disk dx1 (DF l m n1 .non false))
    exact S3.pick [2, 1, 0] (by decide) rfl
theorem ok_law_cell (T : Txt K mg A) : ∃ fd, FnOk P w K mg base CX0 1 A.f_law_cell fd ["_law_script", "_law_k"] (sp_law_cell K A) ∧ Binds K fd ["_law_script", "_law_k"] [] := by
  have ⟨fd, F, b⟩ := T.d_law_cell
  refine ⟨fd, F.ok sc_law_cell (fun vs H Q E h => ?_) (fun cdv Ar outer s H vs Q E hr h => ?_), b⟩
  · obtain ⟨a, ns, n, rfl, _⟩ := h
    rfl
  · obtain ⟨a, ns, n, rfl, S, hn, k⟩ := h
    have nd := sc_law_cell.nd
    have hu := hu_of hr
    refine ⟨_, (pss_cons (ps_if (pt_cmpR op_lt (pv 1) (pe_callB call_len_seq (by rfl) T.b_len PySem.boot_len (pa_cons (pv 0) pa_nil)) (nomark _)) (pss_one (ps_ret (pe_ix ix_list (pv 0) (pv 1) (fun _ _ => rfl)))) pss_nil)
      (pss_one (ps_ret (pe_op op_add (pe_op op_mul pe_int (pv 1)) pe_int)))), ?_⟩
    simp only [cxOf, Cx.nox, L2.start, List.map_cons, List.map_nil, List.length_cons, List.length_nil, Nat.reduceAdd, Nat.reduceSub, List.replicate, List.cons_append, List.nil_append]
    walk_at "z"
    refine Z.lenSeq S ?_
    walk_at "z"
    refine Z.iteD (fun h => ?_) (fun h => ?_)
    · walk_at "z"
      rw [List.length_map] at h
      have hi : n < ns.length := by omega
      exact Z.ixL S (by rw [List.getElem?_map, List.getElem?_eq_getElem hi]; rfl) (k _)
    · walk_at "z"
      exact k _
theorem ok_law_draw (T : Txt K mg A) : ∃ fd, FnOk P w K mg base CX0 1 A.f_law_draw fd ["_law_cell_here", "_law_k"] (sp_law_draw K A) ∧ Binds K fd ["_law_cell_here", "_law_k"] [] := by
  have ⟨fd, F, b⟩ := T.d_law_draw
  refine ⟨fd, F.ok sc_law_draw (fun vs H Q E h => ?_) (fun cdv Ar outer s H vs Q E hr h => ?_), b⟩
  · obtain ⟨c, n, rfl, _⟩ := h
    rfl
  · obtain ⟨c, n, rfl, h0, h1, k⟩ := h
    have nd := sc_law_draw.nd
    have hu := hu_of hr
    refine ⟨_, (pss_cons (ps_if (pt_cmpR op_ge (pv 0) (pe_op op_pow pe_int pe_int) (nomark _)) (pss_one (ps_ret (pe_op op_andM (pe_op op_shr (pe_op op_sub (pv 0) (pe_op op_pow pe_int pe_int)) (pe_op op_mul pe_int (pv 1))) pe_int))) pss_nil)
      (pss_cons (ps_set (i := 2) nd rfl (Or.inl rfl) (pe_op op_mod (pe_op op_mul (pe_op op_add (pe_op op_add (pe_op op_mod (pv 0) pe_int) (pe_op op_mul pe_int (pv 1))) pe_int) pe_int) pe_int))
      (pss_cons (ps_set (i := 2) nd rfl (Or.inl rfl) (pe_op op_mod (pe_op op_mul (pe_op op_mod (pe_op op_mul (pv 2) (pv 2)) pe_int) pe_int) pe_int))
      (pss_one (ps_ret (pe_op op_mod (pe_op op_mul (pv 2) (pv 2)) pe_int)))))), ?_⟩
    simp only [cxOf, Cx.nox, L2.start, List.map_cons, List.map_nil, List.length_cons, List.length_nil, Nat.reduceAdd, Nat.reduceSub, List.replicate, List.cons_append, List.nil_append]
    walk_at "z"
    refine Z.iteD (fun h => ?_) (fun h => ?_)
    · walk_at "z"
      refine ⟨_, 48, rfl, by decide, ?_⟩
      exact k _ (by omega) (by omega)
    · walk_at "z"
      refine k _ (by omega) (by omega)
theorem ok_mul {z : Str} {n : Int} (h : PyData.strOk z = true) : PyData.strOk (PySem.Txt.mul z n) = true := by
  unfold PySem.Txt.mul
  by_cases c : n < 1
  · rw [if_pos c]; decide +kernel
  · rw [if_neg c]
    by_cases c2 : (n == 1 || z.length == 0) = true
    · rw [if_pos c2]; exact h
    · rw [if_neg c2]
      have gen : ∀ (k : Nat) (a : Array Nat), a.all (· < 0x110000) = true → ((List.replicate k z.cps).foldl (· ++ ·) a).all (· < 0x110000) = true := by
        intro k
        induction k with
        | zero => intro a ha; exact ha
        | succ k ih =>
          intro a ha
          rw [List.replicate_succ, List.foldl_cons]
          refine ih _ ?_
          rw [Array.all_append, ha]
          exact h
      exact gen _ _ (by simp)
theorem ok_law_text (T : Txt K mg A) : ∃ fd, FnOk P w K mg base CX0 2 A.f_law_text fd ["_law_cell_here", "_law_at"] (sp_law_text K A) ∧ Binds K fd ["_law_cell_here", "_law_at"] [] := by
  have ⟨fd, F, b⟩ := T.d_law_text
  refine ⟨fd, F.ok sc_law_text (fun vs H Q E h => ?_) (fun cdv Ar outer s H vs Q E hr h => ?_), b⟩
  · obtain ⟨c, n, rfl, _⟩ := h
    rfl
  · obtain ⟨c, n, rfl, h0, h1, k⟩ := h
    have nd := sc_law_text.nd
    have hu := hu_of hr
    have ⟨fd_law_draw, G_law_draw, b_law_draw⟩ := ok_law_draw (P := P) (w := w) (base := base) T
    refine ⟨_, (pss_cons (ps_set (i := 2) nd rfl (Or.inl rfl) (pe_call G_law_draw (hr.mono (by decide)) (by rfl) T.g_law_draw T.d_law_draw.kp b_law_draw .nil pass0 (pa_cons (pv 0) (pa_cons (pv 1) pa_nil))))
      (pss_cons (ps_set (i := 3) nd rfl (Or.inl rfl) (pe_lst (pa_cons pe_str (pa_cons pe_str (pa_cons pe_str (pa_cons pe_str (pa_cons pe_str (pa_cons (pe_op Z.op_repS pe_str (pe_op op_mod (pe_op op_fdiv (pv 2) pe_int) pe_int)) (pa_cons pe_str pa_nil)))))))))
      (pss_one (ps_ret (pe_op op_add_str (pe_ix ix_list (pv 3) (pe_op op_mod (pv 2) pe_int) (fun _ _ => rfl)) (pe_slice sl_str pe_str po_none (po_some (pe_op op_mul (pe_op op_mod (pe_op op_fdiv (pv 2) pe_int) pe_int) (pe_op op_mod (pe_op op_fdiv (pv 2) pe_int) pe_int))))))))), ?_⟩
    simp only [cxOf, Cx.nox, L2.start, List.map_cons, List.map_nil, List.length_cons, List.length_nil, Nat.reduceAdd, Nat.reduceSub, List.replicate, List.cons_append, List.nil_append]
    walk_at "z"
    refine ⟨c, n, rfl, h0, h1, fun r hr0 hr1 => ?_⟩
    walk_at "z"
    refine ⟨_, _, rfl, rfl, by decide, by omega, by omega, fun x hx hxl => ?_⟩
    walk_at "z"
    refine ⟨by simp only [List.length_cons, List.length_nil]; decide, fun p hp => ?_⟩
    walk_at "z"
    refine Z.ixAll (G := fun v => ∃ z, v = .str z ∧ PyData.strOk z = true ∧ z.length ≤ 100) (SqL.of upd_same) (by omega) (by simp only [List.length_cons, List.length_nil]; omega) (fun v hv => ?_) (fun v ⟨y, e, o1, o2⟩ _ => ?_)
    · simp only [List.mem_cons, List.not_mem_nil, or_false] at hv
      have hx3 : x.length ≤ 100 := by
        have h9 : ("x" : Str).length = 1 := by decide +kernel
        rw [h9] at hxl
        omega
      rcases hv with h | h | h | h | h | h | h
      all_goals first
        | exact ⟨_, h, by decide +kernel, by decide +kernel⟩
        | exact ⟨_, h, by rw [hx]; exact ok_mul (by decide +kernel), hx3⟩
    · subst e
      walk_at "z"
      refine Z.slS (by decide +kernel) ?_
      have hl := cutS_length ("abcdefghij" : Str) none (some (r / 8 % 11 * (r / 128 % 2)))
      have h9 : ("abcdefghij" : Str).length = 10 := by decide +kernel
      rw [h9] at hl
      refine Z.addS (Nat.le_trans (Nat.add_le_add o2 hl) (by decide)) ?_
      refine k _ _ ⟨Z.ok_app o1 (Z.ok_cut (by decide +kernel)), ?_⟩ (Z.same_new hp)
      show (y.cps ++ _).size ≤ 200
      rw [Array.size_append]
      have : y.cps.size ≤ 100 := o2
      have : (cutS ("abcdefghij" : Str) none (some (r / 8 % 11 * (r / 128 % 2)))).cps.size ≤ 10 := hl
      omega
theorem ok_law_deed (T : Txt K mg A) : ∃ fd, FnOk P w K mg base CX0 3 A.f_law_deed fd ["_law_cell_here"] (sp_law_deed K A) ∧ Binds K fd ["_law_cell_here"] [] := by
  have ⟨fd, F, b⟩ := T.d_law_deed
  refine ⟨fd, F.ok sc_law_deed (fun vs H Q E h => ?_) (fun cdv Ar outer s H vs Q E hr h => ?_), b⟩
  · obtain ⟨c, rfl, _⟩ := h
    rfl
  · obtain ⟨c, rfl, k⟩ := h
    have nd := sc_law_deed.nd
    have hu := hu_of hr
    have ⟨fd_law_draw, G_law_draw, b_law_draw⟩ := ok_law_draw (P := P) (w := w) (base := base) T
    have ⟨fd_law_text, G_law_text, b_law_text⟩ := ok_law_text (P := P) (w := w) (base := base) T
    refine ⟨_, (pss_cons (ps_set (i := 1) nd rfl (Or.inl rfl) (pe_ix ix_list (pe_lst (pa_cons pe_str (pa_cons pe_str (pa_cons pe_str (pa_cons pe_str (pa_cons pe_str (pa_cons pe_str (pa_cons pe_str pa_nil)))))))) (pe_op op_mod (pe_call G_law_draw (hr.mono (by decide)) (by rfl) T.g_law_draw T.d_law_draw.kp b_law_draw .nil pass0 (pa_cons (pv 0) (pa_cons pe_int pa_nil))) pe_int) (fun _ _ => rfl)))
      (pss_cons (ps_set (i := 2) nd rfl (Or.inl rfl) (pe_ix ix_list (pe_lst (pa_cons pe_int (pa_cons pe_int (pa_cons pe_int (pa_cons (pe_op op_mod (pe_call G_law_draw (hr.mono (by decide)) (by rfl) T.g_law_draw T.d_law_draw.kp b_law_draw .nil pass0 (pa_cons (pv 0) (pa_cons pe_int pa_nil))) pe_int) (pa_cons (pe_op op_pow pe_int pe_int) pa_nil)))))) (pe_op op_mod (pe_call G_law_draw (hr.mono (by decide)) (by rfl) T.g_law_draw T.d_law_draw.kp b_law_draw .nil pass0 (pa_cons (pv 0) (pa_cons pe_int pa_nil))) pe_int) (fun _ _ => rfl)))
      (pss_one (ps_ret (pe_lst (pa_cons (pv 1) (pa_cons (pe_op op_mod (pe_call G_law_draw (hr.mono (by decide)) (by rfl) T.g_law_draw T.d_law_draw.kp b_law_draw .nil pass0 (pa_cons (pv 0) (pa_cons pe_int pa_nil))) pe_int) (pa_cons (pe_call G_law_text (hr.mono (by decide)) (by rfl) T.g_law_text T.d_law_text.kp b_law_text .nil pass0 (pa_cons (pv 0) (pa_cons pe_int pa_nil))) (pa_cons (pv 2) pa_nil))))))))), ?_⟩
    simp only [cxOf, Cx.nox, L2.start, List.map_cons, List.map_nil, List.length_cons, List.length_nil, Nat.reduceAdd, Nat.reduceSub, List.replicate, List.cons_append, List.nil_append]
    walk_at "z"
    refine ⟨by simp only [List.length_cons, List.length_nil]; decide, fun p hp => ?_⟩
    walk_at "z"
    refine ⟨c, 0, rfl, by decide, by decide, fun r hr0 hr1 => ?_⟩
    walk_at "z"
    refine Z.ixAll (G := fun v => ∃ w, v = .str (word w) ∧ w < 4) (SqL.of upd_same) (by omega) (by simp only [List.length_cons, List.length_nil]; omega) (fun v hv => ?_) (fun v ⟨wd, e, hwd⟩ _ => ?_)
    · simp only [List.mem_cons, List.not_mem_nil, or_false] at hv
      rcases hv with h | h | h | h | h | h | h
      · exact ⟨0, h, by decide⟩
      · exact ⟨0, h, by decide⟩
      · exact ⟨1, h, by decide⟩
      · exact ⟨1, h, by decide⟩
      · exact ⟨2, h, by decide⟩
      · exact ⟨3, h, by decide⟩
      · exact ⟨0, h, by decide⟩
    subst e
    walk_at "z"
    refine ⟨c, 2, rfl, by decide, by decide, fun r2 hr20 hr21 => ?_⟩
    walk_at "z"
    refine ⟨by simp only [List.length_cons, List.length_nil]; decide, fun p2 hp2 => ?_⟩
    walk_at "z"
    refine ⟨c, 1, rfl, by decide, by decide, fun r3 hr30 hr31 => ?_⟩
    walk_at "z"
    refine Z.ixAll (G := fun v => ∃ m, v = .int m ∧ 0 ≤ m) (SqL.of upd_same) (by omega) (by simp only [List.length_cons, List.length_nil]; omega) (fun v hv => ?_) (fun v ⟨m, e, hm⟩ _ => ?_)
    · simp only [List.mem_cons, List.not_mem_nil, or_false] at hv
      rcases hv with h | h | h | h | h
      · exact ⟨_, h, by decide⟩
      · exact ⟨_, h, by decide⟩
      · exact ⟨_, h, by decide⟩
      · exact ⟨_, h, by omega⟩
      · exact ⟨_, h, by decide⟩
    subst e
    walk_at "z"
    refine ⟨c, 3, rfl, by decide, by decide, fun r4 hr40 hr41 => ?_⟩
    walk_at "z"
    refine ⟨c, 4, rfl, by decide, by decide, fun z H2 oz sz => ?_⟩
    walk_at "z"
    refine ⟨by simp only [List.length_cons, List.length_nil]; decide, fun q hq => ?_⟩
    have e4 : r4 % 8 = (((r4 % 8).toNat : Nat) : Int) := by omega
    rw [e4]
    have s0 : Same H H2 := ((Z.same_new hp).trans (Z.same_new hp2)).trans sz
    exact k q wd (r4 % 8).toNat z m _ hwd (by omega) oz hm ((Z.Hs.nil.ext s0).new hq |> fun S => (show Z.Hs _ H _ from ⟨S.nd, fun p o m => ⟨(S.own p o m).1, by
      simp only [List.mem_cons, List.not_mem_nil, or_false] at m
      cases m
      exact s0.free hq⟩, S.fr⟩))
theorem ok_law_new (T : Txt K mg A) : ∃ fd, FnOk P w K mg base CX0 1 A.f_law_new fd [] (sp_law_new K A) ∧ Binds K fd [] [] := by
  have ⟨fd, F, b⟩ := T.d_law_new
  refine ⟨fd, F.ok sc_law_new (fun vs H Q E h => ?_) (fun cdv Ar outer s H vs Q E hr h => ?_), b⟩
  · obtain ⟨rfl, _⟩ := h
    rfl
  · obtain ⟨rfl, k⟩ := h
    have nd := sc_law_new.nd
    have hu := hu_of hr
    refine ⟨_, (pss_one (ps_ret (pe_disp (pps_cons pe_str (pe_lst pa_nil) (pps_cons pe_str (pe_lc (own := [("_law_slot", 0)]) rfl nd (pi_range1 rfl T.b_range (pa_cons pe_int pa_nil)) (blkOk_by (own := [("_law_slot", 0)]) (N := ["_law_slot"]) (sc := defScope s_law_new) (by decide +kernel)) (fun _ _ _ _ _ => pg_name (i := 0) nd rfl (Or.inl rfl)) (fun _ _ _ _ _ => pts_nil) (fun _ _ _ _ _ => pe_str)) (pps_cons pe_str pe_int (pps_cons pe_str pe_non (pps_cons pe_str pe_bl pps_nil))))) (by rfl) (by rfl) (fun z => by cases z) (by decide)))), ?_⟩
    simp only [cxOf, Cx.nox, L2.start, List.map_cons, List.map_nil, List.length_cons, List.length_nil, Nat.reduceAdd, Nat.reduceSub, List.replicate, List.cons_append, List.nil_append]
    walk_at "z"
    intro p hp
    have S0 : Z.Hs _ H _ := Z.Hs.nil.new (o := .dK []) hp
    walk_at "z"
    refine ⟨Nat.zero_le _, fun r hr0 => ?_⟩
    have S1 := S0.new (o := .lst []) hr0
    walk_at "z"
    refine ⟨8, rfl, by decide, by decide, fun g hg => lc_range (lo := 0) (n := 8) (fun i H' => Z.Hs [(g, .lst (List.replicate i (V.str ""))), (r, .lst []), (p, .dK [])] H H') (S1.new hg) (fun i H' hi S => ?_) (fun H' S => ?_)⟩
    · refine ⟨rfl, ?_⟩
      walk_at "z"
      refine ⟨_, S.at 0 rfl, by rw [List.length_replicate]; exact small1000 (by omega), ?_⟩
      have := S.set 0 rfl (.lst (List.replicate (i + 1) (V.str "")))
      have e : List.replicate (i + 1) (V.str ("" : Str)) = List.replicate i (V.str ("" : Str)) ++ [V.str ("" : Str)] := List.replicate_succ'
      rw [← e]
      exact this
    · walk_at "z"
      refine ⟨S.at 2 rfl, MF r g 0 .non false, rfl, by show 5 ≤ 15; decide, ?_⟩
      have e : mergeK [] (MF r g 0 .non false) = MF r g 0 .non false := by kernel_rfl
      rw [e]
      walk_at "z"
      exact k _ ⟨p, r, g, [], List.replicate 8 "", 0, none, p, false⟩ rfl rfl rfl rfl rfl ((S.set 2 rfl (.dK (MF r g 0 .non false))).pick [2, 1, 0] (by decide) rfl)
theorem ok_law_copied (T : Txt K mg A) : ∃ fd, FnOk P w K mg base CX0 2 A.f_law_copied fd ["_law_model"] (sp_law_copied K A) ∧ Binds K fd ["_law_model"] [] := by
  have ⟨fd, F, b⟩ := T.d_law_copied
  refine ⟨fd, F.ok sc_law_copied (fun vs H Q E h => ?_) (fun cdv Ar outer s H vs Q E hr h => ?_), b⟩
  · obtain ⟨d, rfl, _⟩ := h
    rfl
  · obtain ⟨d, rfl, S, k⟩ := h
    have nd := sc_law_copied.nd
    have hu := hu_of hr
    have ⟨fd_law_new, G_law_new, b_law_new⟩ := ok_law_new (P := P) (w := w) (base := base) T
    refine ⟨_, (pss_cons (ps_set (i := 1) nd rfl (Or.inl rfl) (pe_call0 G_law_new (hr.mono (by decide)) (by rfl) T.g_law_new T.d_law_new.kp b_law_new .nil pass0))
      (pss_cons (ps_dput hu (pv 1) pe_str (pe_callTy call_list_of (by rfl) T.b_list (by decide +kernel) (pa_cons (pe_dget hu (pv 0) pe_str (fun _ _ => rfl)) pa_nil)) rfl)
      (pss_cons (ps_dput hu (pv 1) pe_str (pe_callTy call_list_of (by rfl) T.b_list (by decide +kernel) (pa_cons (pe_dget hu (pv 0) pe_str (fun _ _ => rfl)) pa_nil)) rfl)
      (pss_one (ps_ret (pv 1)))))), ?_⟩
    simp only [cxOf, Cx.nox, L2.start, List.map_cons, List.map_nil, List.length_cons, List.length_nil, Nat.reduceAdd, Nat.reduceSub, List.replicate, List.cons_append, List.nil_append]
    walk_at "z"
    refine ⟨rfl, fun H1 d1 e1 e2 e3 e4 e5 S1 => ?_⟩
    obtain ⟨p1, r1, g1, rows1, pages1, n1, due1, t1, down1⟩ := d1
    obtain rfl : due1 = none := e4
    obtain rfl : down1 = false := e5
    have s1 : Same H H1 := S1.fr
    have h0 : H1 d.p = _ := s1 _ _ (S.at 0 rfl)
    have h1 : H1 d.r = _ := s1 _ _ (S.at 1 rfl)
    have h2 : H1 d.g = _ := s1 _ _ (S.at 2 rfl)
    have hp1 : H1 p1 = _ := S1.at 0 rfl
    walk_at "z"
    refine ⟨d.r, _, rfl, .inl (SqL.of h1), fun l hl => ?_⟩
    have nl1 : p1 ≠ l := ne_of_none hp1 hl
    walk_at "z"
    have npd : d.p ≠ p1 := ne_of_none (S.at 0 rfl) (S1.own p1 _ (List.mem_of_getElem? (i := 0) rfl)).2
    have ngd : d.g ≠ p1 := ne_of_none (S.at 2 rfl) (S1.own p1 _ (List.mem_of_getElem? (i := 0) rfl)).2
    have nl2 : d.p ≠ l := ne_of_none h0 hl
    have nl3 : d.g ≠ l := ne_of_none h2 hl
    walk_at "z"
    refine ⟨d.g, _, rfl, .inl (SqL.of (by walk_at "z hp")), fun m hm => ?_⟩
    have nm1 : p1 ≠ m := fun e => by rw [← e, upd_same] at hm; cases hm
    walk_at "z"
    refine k _ ⟨p1, l, m, d.rows, d.pages, n1, none, t1, false⟩ rfl rfl e3 rfl rfl ?_
    have S3 := (((S1.new (o := .lst (d.rows.map .str)) hl).set 1 rfl (.dK (MF l g1 n1 .non false))).new (o := .lst (d.pages.map .str)) hm).set 2 rfl (.dK (MF l m n1 .non false))
    exact S3.pick [2, 1, 0] (by decide) rfl
theorem fell_ne (T : Txt K mg A) : A.Fell ≠ A.TooMany ∧ A.Fell ≠ A.NoTable := by
  refine ⟨fun e => ?_, fun e => ?_⟩
  · have h1 := T.sub_Fell_TooMany
    rw [e, T.sub_TooMany_TooMany] at h1
    cases h1
  · have h1 := T.sub_Fell_NoTable
    rw [e, T.sub_NoTable_NoTable] at h1
    cases h1
theorem exF (T : Txt K mg A) : ExcC K A.Fell := ⟨T.xg_Fell, T.xk_Fell, T.sb_Fell, T.xd_Fell, T.xa_Fell, T.xn, T.xt, T.xm_Fell⟩
theorem noneOf (T : Txt K mg A) : PySem.W.kitAny K (.ref A.Fell) [.ref A.TooMany, .ref A.NoTable] = some false :=
  kitAny_cons (b := false) (Z.kit_no T.cb_TooMany T.tb_TooMany T.sub_Fell_TooMany (fell_ne T).1) (fun _ => kitAny_cons (b := false) (Z.kit_no T.cb_NoTable T.tb_NoTable T.sub_Fell_NoTable (fell_ne T).2) (fun _ => kitAny_nil) (fun h => Bool.noConfusion h)) (fun h => Bool.noConfusion h)
theorem ok_law_told (T : Txt K mg A) : ∃ fd, FnOk P w K mg base CX0 4 A.f_law_told fd ["_law_disk", "_law_deed_here"] (sp_law_told K A) ∧ Binds K fd ["_law_disk", "_law_deed_here"] [] := by
  have ⟨fd, F, b⟩ := T.d_law_told
  refine ⟨fd, F.ok sc_law_told (fun vs H Q E h => ?_) (fun cdv Ar outer s H vs Q E hr h => ?_), b⟩
  · obtain ⟨F0, d, q, wd, i, z, m, rfl, _⟩ := h
    rfl
  · obtain ⟨F0, d, q, wd, i, z, m, rfl, S, ok, k0, k1, k2⟩ := h
    have nd := sc_law_told.nd
    have hu := hu_of hr
    have ⟨fd_Disk_add_row, G_Disk_add_row, b_Disk_add_row⟩ := ok_Disk_add_row (P := P) (w := w) (base := base) T
    have ⟨fd_Disk_put_page, G_Disk_put_page, b_Disk_put_page⟩ := ok_Disk_put_page (P := P) (w := w) (base := base) T
    have ⟨fd_Disk_cut_tail, G_Disk_cut_tail, b_Disk_cut_tail⟩ := ok_Disk_cut_tail (P := P) (w := w) (base := base) T
    have ⟨fd_Disk_cut_head, G_Disk_cut_head, b_Disk_cut_head⟩ := ok_Disk_cut_head (P := P) (w := w) (base := base) T
    refine ⟨_, (pss_cons (ps_asg (pv 1) (pg_lst rfl (pgs_cons (pg_name (i := 2) nd rfl (Or.inl rfl)) (pgs_cons (pg_name (i := 3) nd rfl (Or.inl rfl)) (pgs_cons (pg_name (i := 4) nd rfl (Or.inl rfl)) (pgs_cons (pg_name (i := 5) nd rfl (Or.inl rfl)) pgs_nil))))))
      (pss_cons (ps_set (i := 6) nd rfl (Or.inl rfl) pe_str)
      (pss_cons (ps_try_as (i := 7) (Wout := fun _ _ _ _ => False) rfl rfl nd rfl rfl ⟨rfl, by decide, .inl T.g_StoreError⟩ takes0
      (fun W pn xe tk _ => (pss_one (ps_if (pt_cmpR op_eq (pv 2) pe_str (nomark _)) (pss_one (ps_set (i := 6) nd rfl (Or.inl rfl) (Z.pe_methX (pv 0) T.c_Disk T.m_Disk_add_row G_Disk_add_row (hr.mono (by decide)) b_Disk_add_row (fun σ => passAt tk σ) (pa_cons (pv 4) pa_nil)))) (pss_one (ps_if (pt_cmpR op_eq (pv 2) pe_str (nomark _)) (pss_one (ps_set (i := 6) nd rfl (Or.inl rfl) (Z.pe_methX (pv 0) T.c_Disk T.m_Disk_put_page G_Disk_put_page (hr.mono (by decide)) b_Disk_put_page (fun σ => passAt tk σ) (pa_cons (pv 3) (pa_cons (pv 4) pa_nil))))) (pss_one (ps_if (pt_cmpR op_eq (pv 2) pe_str (nomark _)) (pss_one (ps_set (i := 6) nd rfl (Or.inl rfl) (Z.pe_methX (pv 0) T.c_Disk T.m_Disk_cut_tail G_Disk_cut_tail (hr.mono (by decide)) b_Disk_cut_tail (fun σ => passAt tk σ) (pa_cons (pv 5) pa_nil)))) (pss_one (ps_set (i := 6) nd rfl (Or.inl rfl) (Z.pe_methX (pv 0) T.c_Disk T.m_Disk_cut_head G_Disk_cut_head (hr.mono (by decide)) b_Disk_cut_head (fun σ => passAt tk σ) (pa_cons (pv 5) pa_nil)))))))))))
      (fun a oe cls d pn hz hf => (pss_one (ps_if (PW.pt (pw_or (pt_not (pt_val (pe_callB (Z.call_isG hz hf) (by rfl) T.b_isinstance (by decide +kernel) (pa_cons (pv 7) (pa_cons (pe_glob (v := .ref A.Fell) rfl T.g_Fell rfl) pa_nil))))) (pw_or1 (pt_val (pe_callB (Z.call_isGT hz hf) (by rfl) T.b_isinstance (by decide +kernel) (pa_cons (pv 7) (pa_cons (pe_tup (pa_cons (pe_glob (v := .ref A.TooMany) rfl T.g_TooMany rfl) (pa_cons (pe_glob (v := .ref A.NoTable) rfl T.g_NoTable rfl) pa_nil))) pa_nil))))))) (pss_one (ps_set (i := 6) nd rfl (Or.inl rfl) pe_str)) pss_nil))))
      (pss_one (ps_ret (pv 6)))))), ?_⟩
    simp only [cxOf, Cx.nox, L2.start, List.map_cons, List.map_nil, List.length_cons, List.length_nil, Nat.reduceAdd, Nat.reduceSub, List.replicate, List.cons_append, List.nil_append]
    have h0 : H d.p = _ := S.at 0 rfl
    walk_at "z"
    refine ⟨q, _, rfl, SqL.of (S.fr _ _ ok.q), rfl, ?_⟩
    have c4 : wd = 0 ∨ wd = 1 ∨ wd = 2 ∨ wd = 3 := by have := ok.w; omega
    rcases c4 with rfl | rfl | rfl | rfl
    · walk_at "z"
      refine ⟨F0, d, z, rfl, S, ok.few, Nat.le_trans ok.z.2 (by decide), fun c H1 S1 => ?_, fun H1 d1 c a e S1 => ?_, fun kk H1 d1 c a e S1 => ?_⟩
      · refine ⟨true, Z.exm_of T.sb_StoreError T.cb_StoreError T.tb_StoreError T.sub_Fell_StoreError, fun _ ax hax => ?_, (fun q => Bool.noConfusion q)⟩
        walk_at "z"
        refine ⟨A.Fell, _, _, true, rfl, rfl, exF T, rfl, .own A.Fell, Z.kit_self, ?_⟩
        walk_at "z"
        refine ⟨by simp only [List.length_cons, List.length_nil]; decide, fun tp htp => ?_⟩
        walk_at "z"
        refine ⟨A.Fell, tp, _, _, false, rfl, rfl, exF T, rfl, upd_same, .cons (.own _) (.cons (.own _) .nil), noneOf T, ?_⟩
        walk_at "z"
        exact k0 c _ (S1.ext (Z.same_new htp))
      · walk_at "z"
        exact k1 H1 d1 c a e S1
      · refine ⟨true, Z.exm_of T.sb_StoreError T.cb_StoreError T.tb_StoreError T.sub_Fell_StoreError, fun _ ax hax => ?_, (fun q => Bool.noConfusion q)⟩
        walk_at "z"
        refine ⟨A.Fell, _, _, true, rfl, rfl, exF T, rfl, .own A.Fell, Z.kit_self, ?_⟩
        walk_at "z"
        refine ⟨by simp only [List.length_cons, List.length_nil]; decide, fun tp htp => ?_⟩
        walk_at "z"
        refine ⟨A.Fell, tp, _, _, false, rfl, rfl, exF T, rfl, upd_same, .cons (.own _) (.cons (.own _) .nil), noneOf T, ?_⟩
        walk_at "z"
        exact k2 kk _ d1 c a e (S1.ext (Z.same_new htp))
    · walk_at "z"
      refine ⟨F0, d, i, z, rfl, S, ok.i, Nat.le_trans ok.z.2 (by decide), fun c H1 S1 => ?_, fun H1 d1 c a e S1 => ?_, fun kk H1 d1 c a e S1 => ?_⟩
      · refine ⟨true, Z.exm_of T.sb_StoreError T.cb_StoreError T.tb_StoreError T.sub_Fell_StoreError, fun _ ax hax => ?_, (fun q => Bool.noConfusion q)⟩
        walk_at "z"
        refine ⟨A.Fell, _, _, true, rfl, rfl, exF T, rfl, .own A.Fell, Z.kit_self, ?_⟩
        walk_at "z"
        refine ⟨by simp only [List.length_cons, List.length_nil]; decide, fun tp htp => ?_⟩
        walk_at "z"
        refine ⟨A.Fell, tp, _, _, false, rfl, rfl, exF T, rfl, upd_same, .cons (.own _) (.cons (.own _) .nil), noneOf T, ?_⟩
        walk_at "z"
        exact k0 c _ (S1.ext (Z.same_new htp))
      · walk_at "z"
        exact k1 H1 d1 c a e S1
      · refine ⟨true, Z.exm_of T.sb_StoreError T.cb_StoreError T.tb_StoreError T.sub_Fell_StoreError, fun _ ax hax => ?_, (fun q => Bool.noConfusion q)⟩
        walk_at "z"
        refine ⟨A.Fell, _, _, true, rfl, rfl, exF T, rfl, .own A.Fell, Z.kit_self, ?_⟩
        walk_at "z"
        refine ⟨by simp only [List.length_cons, List.length_nil]; decide, fun tp htp => ?_⟩
        walk_at "z"
        refine ⟨A.Fell, tp, _, _, false, rfl, rfl, exF T, rfl, upd_same, .cons (.own _) (.cons (.own _) .nil), noneOf T, ?_⟩
        walk_at "z"
        exact k2 kk _ d1 c a e (S1.ext (Z.same_new htp))
    · walk_at "z"
      refine ⟨F0, d, m, rfl, S, fun c H1 S1 => ?_, fun H1 d1 c a e S1 => ?_, fun kk H1 d1 c a e S1 => ?_⟩
      · refine ⟨true, Z.exm_of T.sb_StoreError T.cb_StoreError T.tb_StoreError T.sub_Fell_StoreError, fun _ ax hax => ?_, (fun q => Bool.noConfusion q)⟩
        walk_at "z"
        refine ⟨A.Fell, _, _, true, rfl, rfl, exF T, rfl, .own A.Fell, Z.kit_self, ?_⟩
        walk_at "z"
        refine ⟨by simp only [List.length_cons, List.length_nil]; decide, fun tp htp => ?_⟩
        walk_at "z"
        refine ⟨A.Fell, tp, _, _, false, rfl, rfl, exF T, rfl, upd_same, .cons (.own _) (.cons (.own _) .nil), noneOf T, ?_⟩
        walk_at "z"
        exact k0 c _ (S1.ext (Z.same_new htp))
      · walk_at "z"
        exact k1 H1 d1 c a e S1
      · refine ⟨true, Z.exm_of T.sb_StoreError T.cb_StoreError T.tb_StoreError T.sub_Fell_StoreError, fun _ ax hax => ?_, (fun q => Bool.noConfusion q)⟩
        walk_at "z"
        refine ⟨A.Fell, _, _, true, rfl, rfl, exF T, rfl, .own A.Fell, Z.kit_self, ?_⟩
        walk_at "z"
        refine ⟨by simp only [List.length_cons, List.length_nil]; decide, fun tp htp => ?_⟩
        walk_at "z"
        refine ⟨A.Fell, tp, _, _, false, rfl, rfl, exF T, rfl, upd_same, .cons (.own _) (.cons (.own _) .nil), noneOf T, ?_⟩
        walk_at "z"
        exact k2 kk _ d1 c a e (S1.ext (Z.same_new htp))
    · walk_at "z"
      refine ⟨F0, d, m, rfl, S, fun c H1 S1 => ?_, fun H1 d1 c a e S1 => ?_, fun kk H1 d1 c a e S1 => ?_⟩
      · refine ⟨true, Z.exm_of T.sb_StoreError T.cb_StoreError T.tb_StoreError T.sub_Fell_StoreError, fun _ ax hax => ?_, (fun q => Bool.noConfusion q)⟩
        walk_at "z"
        refine ⟨A.Fell, _, _, true, rfl, rfl, exF T, rfl, .own A.Fell, Z.kit_self, ?_⟩
        walk_at "z"
        refine ⟨by simp only [List.length_cons, List.length_nil]; decide, fun tp htp => ?_⟩
        walk_at "z"
        refine ⟨A.Fell, tp, _, _, false, rfl, rfl, exF T, rfl, upd_same, .cons (.own _) (.cons (.own _) .nil), noneOf T, ?_⟩
        walk_at "z"
        exact k0 c _ (S1.ext (Z.same_new htp))
      · walk_at "z"
        exact k1 H1 d1 c a e S1
      · refine ⟨true, Z.exm_of T.sb_StoreError T.cb_StoreError T.tb_StoreError T.sub_Fell_StoreError, fun _ ax hax => ?_, (fun q => Bool.noConfusion q)⟩
        walk_at "z"
        refine ⟨A.Fell, _, _, true, rfl, rfl, exF T, rfl, .own A.Fell, Z.kit_self, ?_⟩
        walk_at "z"
        refine ⟨by simp only [List.length_cons, List.length_nil]; decide, fun tp htp => ?_⟩
        walk_at "z"
        refine ⟨A.Fell, tp, _, _, false, rfl, rfl, exF T, rfl, upd_same, .cons (.own _) (.cons (.own _) .nil), noneOf T, ?_⟩
        walk_at "z"
        exact k2 kk _ d1 c a e (S1.ext (Z.same_new htp))
theorem int_ne {k : Int} (h : ¬ V.int k = V.int 0) : ¬ k = 0 := fun e => h (by rw [e])
theorem ok_law_done (T : Txt K mg A) : ∃ fd, FnOk P w K mg base CX0 1 A.f_law_done fd ["_law_model", "_law_deed_here", "_law_signs"] (sp_law_done K A) ∧ Binds K fd ["_law_model", "_law_deed_here", "_law_signs"] [] := by
  have ⟨fd, F, b⟩ := T.d_law_done
  refine ⟨fd, F.ok sc_law_done (fun vs H Q E h => ?_) (fun cdv Ar outer s H vs Q E hr h => ?_), b⟩
  · obtain ⟨F0, d, q, wd, i, z, m, rr, rfl, _⟩ := h
    rfl
  · obtain ⟨F0, d, q, wd, i, z, m, rr, rfl, S, ok, hk, k⟩ := h
    have nd := sc_law_done.nd
    have hu := hu_of hr
    refine ⟨_, (pss_cons (ps_asg (pv 1) (pg_lst rfl (pgs_cons (pg_name (i := 3) nd rfl (Or.inl rfl)) (pgs_cons (pg_name (i := 4) nd rfl (Or.inl rfl)) (pgs_cons (pg_name (i := 5) nd rfl (Or.inl rfl)) (pgs_cons (pg_name (i := 6) nd rfl (Or.inl rfl)) pgs_nil))))))
      (pss_one (ps_if (PW.pt (pw_and (pt_cmpR op_eq (pv 3) pe_str (nomark _)) (pw_and1 (PW.pt (pw_or (pt_cmpR op_isN (pv 2) pe_non (nomark _)) (pw_or1 (pt_cmpR op_ne (pe_slice sl_str (pv 5) po_none (Z.po_val (pv 2))) pe_str (nomark _)))))))) (pss_one (ps_expr (pe_bm PySem.F.plainAttrs_list PySem.F.slot_list_append PySem.F.type_list_append mt_append (pe_dget hu (pv 0) pe_str (fun _ _ => rfl)) (pa_cons (pe_ix ix_list (pe_lst (pa_cons (pv 5) (pa_cons (pe_slice sl_str (pv 5) po_none (Z.po_val (pv 2))) pa_nil))) (pe_callTy call_int1 (by rfl) T.b_int (by decide +kernel) (pa_cons (pe_cmpR op_notN (pv 2) pe_non (nomark _)) pa_nil)) (fun _ _ => rfl)) pa_nil)))) (pss_one (ps_if (pt_cmpR op_eq (pv 3) pe_str (nomark _)) (pss_one (ps_asg (pe_ix ix_list (pe_lst (pa_cons (pv 5) (pa_cons (pe_slice sl_str (pv 5) po_none (Z.po_val (pv 2))) pa_nil))) (pe_callTy call_int1 (by rfl) T.b_int (by decide +kernel) (pa_cons (pe_cmpR op_notN (pv 2) pe_non (nomark _)) pa_nil)) (fun _ _ => rfl)) (pg_sub (pe_dget hu (pv 0) pe_str (fun _ _ => rfl)) (pv 4) set_list))) (pss_one (ps_if (PW.pt (pw_and (pt_cmpR op_eq (pv 3) pe_str (nomark _)) (pw_and1 (pt_cmpR op_ne (pv 2) pe_int (nomark _))))) (pss_one (ps_dput hu (pv 0) pe_str (pe_slice sl_list (pe_dget hu (pv 0) pe_str (fun _ _ => rfl)) po_none (po_some (pv 6))) rfl)) (pss_one (ps_if (PW.pt (pw_and (pt_cmpR op_eq (pv 3) pe_str (nomark _)) (pw_and1 (pt_cmpR op_ne (pv 2) pe_int (nomark _))))) (pss_one (ps_dput hu (pv 0) pe_str (pe_slice sl_list (pe_dget hu (pv 0) pe_str (fun _ _ => rfl)) (po_some (pv 6)) po_none) rfl)) pss_nil))))))))), ?_⟩
    simp only [cxOf, Cx.nox, L2.start, List.map_cons, List.map_nil, List.length_cons, List.length_nil, Nat.reduceAdd, Nat.reduceSub, List.replicate, List.cons_append, List.nil_append]
    obtain ⟨p, r, g, rows, pages, n, due, t, down⟩ := d
    have h0 : H p = _ := S.at 0 rfl
    have zl : z.length ≤ 10000 := Nat.le_trans ok.z.2 (by decide)
    have hsz : rows.length < sizeLine := Nat.lt_of_le_of_lt ok.few (by decide)
    have hi' : i < (pages.map V.str).length := by rw [List.length_map]; exact ok.i
    have ap : ∀ y : Str, (rows ++ [y]).map V.str = rows.map V.str ++ [V.str y] := fun y => by simp
    have sp : ∀ y : Str, (pages.set i y).map V.str = (pages.map V.str).set i (V.str y) := fun y => List.map_set
    walk_at "z"
    refine ⟨q, _, rfl, SqL.of (S.fr _ _ ok.q), rfl, ?_⟩
    have c4 : wd = 0 ∨ wd = 1 ∨ wd = 2 ∨ wd = 3 := by have := ok.w; omega
    rcases c4 with rfl | rfl | rfl | rfl
    · cases rr with
      | none =>
        walk_at "z"
        refine ⟨.inl ⟨rfl, _, SqL.of (S.at 1 rfl)⟩, ?_⟩
        walk_at "z"
        refine .inl ⟨rfl, ?_⟩
        refine Z.slS zl ?_
        walk_at "z"
        refine ⟨by simp only [List.length_cons, List.length_nil]; decide, fun l hl => ?_⟩
        walk_at "z"
        refine .inr ⟨_, rfl, ?_⟩
        refine Z.ixL (i := 0) (SqL.of upd_same) rfl ?_
        refine ⟨r, _, _, rfl, rfl, (Z.same_new hl) _ _ (S.at 1 rfl), by rw [List.length_map]; exact hsz, ?_⟩
        have S1 := (S.ext (Z.same_new (o := .lst [V.str z, V.str (cutS z none none)]) hl)).set 1 rfl (.lst ((rows ++ [z]).map .str))
        rw [← ap]
        exact k _ r g (rows ++ [z]) pages rfl S1
      | some kk =>
        walk_at "z"
        refine .inr ⟨_, rfl, ?_⟩
        refine Z.slS zl ?_
        walk_at "z"
        refine Z.iteN (fun e => ?_) (fun e => ?_)
        · walk_at "z"
          refine ⟨.inl ⟨rfl, _, SqL.of (S.at 1 rfl)⟩, ?_⟩
          walk_at "z"
          refine .inr ⟨_, rfl, ?_⟩
          refine Z.slS zl ?_
          walk_at "z"
          refine ⟨by simp only [List.length_cons, List.length_nil]; decide, fun l hl => ?_⟩
          walk_at "z"
          refine .inr ⟨_, rfl, ?_⟩
          refine Z.ixL (i := 1) (SqL.of upd_same) rfl ?_
          refine ⟨r, _, _, rfl, rfl, (Z.same_new hl) _ _ (S.at 1 rfl), by rw [List.length_map]; exact hsz, ?_⟩
          have S1 := (S.ext (Z.same_new (o := .lst [V.str z, V.str (cutS z none (some kk))]) hl)).set 1 rfl (.lst ((rows ++ [cutS z none (some kk)]).map .str))
          rw [← ap]
          exact k _ r g (rows ++ [cutS z none (some kk)]) pages (by simp [eff, str_ne e]) S1
        · walk_at "z"
          have e' : cutS z none (some kk) = "" := V.str.inj e
          exact k _ r g rows pages (by simp [eff, e']) S
    · cases rr with
      | none =>
        walk_at "z"
        refine .inl ⟨rfl, ?_⟩
        refine Z.slS zl ?_
        walk_at "z"
        refine ⟨by simp only [List.length_cons, List.length_nil]; decide, fun l hl => ?_⟩
        walk_at "z"
        refine .inr ⟨_, rfl, ?_⟩
        refine Z.ixL (i := 0) (SqL.of upd_same) rfl ?_
        have h1 : upd H l (.lst [V.str z, V.str (cutS z none none)]) p = _ := Z.same_new hl _ _ h0
        walk_at "z"
        refine Z.setLE (Z.same_new hl _ _ (S.at 2 rfl)) hi' ?_
        have S1 := (S.ext (Z.same_new (o := .lst [V.str z, V.str (cutS z none none)]) hl)).set 2 rfl (.lst ((pages.set i z).map .str))
        rw [← sp]
        exact k _ r g rows (pages.set i z) rfl S1
      | some kk =>
        walk_at "z"
        refine .inr ⟨_, rfl, ?_⟩
        refine Z.slS zl ?_
        walk_at "z"
        refine ⟨by simp only [List.length_cons, List.length_nil]; decide, fun l hl => ?_⟩
        walk_at "z"
        refine .inr ⟨_, rfl, ?_⟩
        refine Z.ixL (i := 1) (SqL.of upd_same) rfl ?_
        have h1 : upd H l (.lst [V.str z, V.str (cutS z none (some kk))]) p = _ := Z.same_new hl _ _ h0
        walk_at "z"
        refine Z.setLE (Z.same_new hl _ _ (S.at 2 rfl)) hi' ?_
        have S1 := (S.ext (Z.same_new (o := .lst [V.str z, V.str (cutS z none (some kk))]) hl)).set 2 rfl (.lst ((pages.set i (cutS z none (some kk))).map .str))
        rw [← sp]
        exact k _ r g rows (pages.set i (cutS z none (some kk))) rfl S1
    · cases rr with
      | none =>
        walk_at "z"
        refine ⟨r, _, rfl, SqL.of (S.at 1 rfl), fun q2 hq2 => ?_⟩
        rw [Z.cutV_str]
        have h1 : upd H q2 (.lst ((Z.cutT rows none (some m)).map .str)) p = _ := Z.same_new hq2 _ _ h0
        walk_at "z"
        have S1 : Z.Hs (mc ⟨p, q2, g, Z.cutT rows none (some m), pages, n, due, t, down⟩) F0 (upd (upd H q2 (.lst ((Z.cutT rows none (some m)).map .str))) p (.dK (MF q2 g n (dueV due t) down))) := by
          have T := (S.new (o := .lst ((Z.cutT rows none (some m)).map .str)) hq2).set 1 rfl (.dK (MF q2 g n (dueV due t) down))
          cases due with
          | none => exact T.pick [1, 0, 3] (by decide) rfl
          | some as => exact T.pick [1, 0, 3, 4] (by decide) rfl
        exact k _ q2 g (Z.cutT rows none (some m)) pages rfl S1
      | some kk =>
        walk_at "z"
        refine Z.iteN (fun e => ?_) (fun e => ?_)
        · have e' : 0 < kk := by have := hk kk rfl; have := int_ne e; omega
          walk_at "z"
          refine ⟨r, _, rfl, SqL.of (S.at 1 rfl), fun q2 hq2 => ?_⟩
          rw [Z.cutV_str]
          have h1 : upd H q2 (.lst ((Z.cutT rows none (some m)).map .str)) p = _ := Z.same_new hq2 _ _ h0
          walk_at "z"
          have S1 : Z.Hs (mc ⟨p, q2, g, Z.cutT rows none (some m), pages, n, due, t, down⟩) F0 (upd (upd H q2 (.lst ((Z.cutT rows none (some m)).map .str))) p (.dK (MF q2 g n (dueV due t) down))) := by
            have T := (S.new (o := .lst ((Z.cutT rows none (some m)).map .str)) hq2).set 1 rfl (.dK (MF q2 g n (dueV due t) down))
            cases due with
            | none => exact T.pick [1, 0, 3] (by decide) rfl
            | some as => exact T.pick [1, 0, 3, 4] (by decide) rfl
          exact k _ q2 g (Z.cutT rows none (some m)) pages (by simp [eff, e']) S1
        · have e' : kk = 0 := V.int.inj e
          subst e'
          walk_at "z"
          exact k _ r g rows pages rfl S
    · cases rr with
      | none =>
        walk_at "z"
        refine ⟨r, _, rfl, SqL.of (S.at 1 rfl), fun q2 hq2 => ?_⟩
        rw [Z.cutV_str]
        have h1 : upd H q2 (.lst ((Z.cutT rows (some m) none).map .str)) p = _ := Z.same_new hq2 _ _ h0
        walk_at "z"
        have S1 : Z.Hs (mc ⟨p, q2, g, Z.cutT rows (some m) none, pages, n, due, t, down⟩) F0 (upd (upd H q2 (.lst ((Z.cutT rows (some m) none).map .str))) p (.dK (MF q2 g n (dueV due t) down))) := by
          have T := (S.new (o := .lst ((Z.cutT rows (some m) none).map .str)) hq2).set 1 rfl (.dK (MF q2 g n (dueV due t) down))
          cases due with
          | none => exact T.pick [1, 0, 3] (by decide) rfl
          | some as => exact T.pick [1, 0, 3, 4] (by decide) rfl
        exact k _ q2 g (Z.cutT rows (some m) none) pages rfl S1
      | some kk =>
        walk_at "z"
        refine Z.iteN (fun e => ?_) (fun e => ?_)
        · have e' : 0 < kk := by have := hk kk rfl; have := int_ne e; omega
          walk_at "z"
          refine ⟨r, _, rfl, SqL.of (S.at 1 rfl), fun q2 hq2 => ?_⟩
          rw [Z.cutV_str]
          have h1 : upd H q2 (.lst ((Z.cutT rows (some m) none).map .str)) p = _ := Z.same_new hq2 _ _ h0
          walk_at "z"
          have S1 : Z.Hs (mc ⟨p, q2, g, Z.cutT rows (some m) none, pages, n, due, t, down⟩) F0 (upd (upd H q2 (.lst ((Z.cutT rows (some m) none).map .str))) p (.dK (MF q2 g n (dueV due t) down))) := by
            have T := (S.new (o := .lst ((Z.cutT rows (some m) none).map .str)) hq2).set 1 rfl (.dK (MF q2 g n (dueV due t) down))
            cases due with
            | none => exact T.pick [1, 0, 3] (by decide) rfl
            | some as => exact T.pick [1, 0, 3, 4] (by decide) rfl
          exact k _ q2 g (Z.cutT rows (some m) none) pages (by simp [eff, e']) S1
        · have e' : kk = 0 := V.int.inj e
          subst e'
          walk_at "z"
          exact k _ r g rows pages rfl S
theorem ok_law_stands (T : Txt K mg A) : ∃ fd, FnOk P w K mg base CX0 2 A.f_law_stands fd ["_law_disk", "_law_model"] (sp_law_stands K A) ∧ Binds K fd ["_law_disk", "_law_model"] [] := by
  have ⟨fd, F, b⟩ := T.d_law_stands
  refine ⟨fd, F.ok sc_law_stands (fun vs H Q E h => ?_) (fun cdv Ar outer s H vs Q E hr h => ?_), b⟩
  · obtain ⟨i, d, m, rfl, _⟩ := h
    rfl
  · obtain ⟨i, d, m, rfl, S, M, pr, hi, k⟩ := h
    have nd := sc_law_stands.nd
    have hu := hu_of hr
    have ⟨fd_Disk_log_rows, G_Disk_log_rows, b_Disk_log_rows⟩ := ok_Disk_log_rows (P := P) (w := w) (base := base) T
    have ⟨fd_Disk_writes, G_Disk_writes, b_Disk_writes⟩ := ok_Disk_writes (P := P) (w := w) (base := base) T
    have ⟨fd_Disk_page, G_Disk_page, b_Disk_page⟩ := ok_Disk_page (P := P) (w := w) (base := base) T
    refine ⟨_, (pss_cons (ps_set (i := 2) nd rfl (Or.inl rfl) (pe_meth0 (pv 0) T.c_Disk T.m_Disk_log_rows G_Disk_log_rows (hr.mono (by decide)) b_Disk_log_rows .nil pass0))
      (pss_cons (ps_if (PW.pt (pw_or (pt_not (pt_val (pe_callB call_isi (by rfl) T.b_isinstance (by decide +kernel) (pa_cons (pv 2) (pa_cons (pe_bltn (v := .ty "list") (u := .type "list") (by rfl) T.b_list (by decide +kernel) rfl) pa_nil))))) (pw_or (pt_cmpR (op_neD hr.units) (pv 2) (pe_dget hu (pv 1) pe_str (fun _ _ => rfl)) (nomark _)) (pw_or1 (pt_cmpR op_ne (pe_callB SkE.call_repr_int (by rfl) T.b_repr (by decide +kernel) (pa_cons (pe_meth0 (pv 0) T.c_Disk T.m_Disk_writes G_Disk_writes (hr.mono (by decide)) b_Disk_writes .nil pass0) pa_nil)) (pe_callTy call_str_int (by rfl) T.b_str (by decide +kernel) (pa_cons (pe_dget hu (pv 1) pe_str (fun _ _ => rfl)) pa_nil)) (nomark _)))))) (pss_one (ps_ret pe_bl)) pss_nil)
      (pss_cons (ps_expr (pe_bm PySem.F.plainAttrs_list PySem.F.slot_list_append PySem.F.type_list_append mt_append (pv 2) (pa_cons pe_str pa_nil)))
      (pss_cons (ps_if (pt_cmpR (op_neD hr.units) (pe_meth0 (pv 0) T.c_Disk T.m_Disk_log_rows G_Disk_log_rows (hr.mono (by decide)) b_Disk_log_rows .nil pass0) (pe_dget hu (pv 1) pe_str (fun _ _ => rfl)) (nomark _)) (pss_one (ps_ret pe_bl)) pss_nil)
      (pss_one (ps_ret (pe_cmpR (op_eqD hr.units) (pe_lc (own := [("_law_slot", 3)]) rfl nd (pi_range1 rfl T.b_range (pa_cons pe_int pa_nil)) (blkOk_by (own := [("_law_slot", 3)]) (N := ["_law_disk", "_law_model", "_law_rows", "_law_slot"]) (sc := defScope s_law_stands) (by decide +kernel)) (fun _ _ _ _ _ => pg_name (i := 3) nd rfl (Or.inl rfl)) (fun _ _ _ _ _ => pts_nil) (fun _ _ _ _ _ => (pe_meth (pv 0) T.c_Disk T.m_Disk_page G_Disk_page (hr.mono (by decide)) b_Disk_page .nil pass0 (pa_cons (pv 3) pa_nil)))) (pe_dget hu (pv 1) pe_str (fun _ _ => rfl)) (nomark _)))))))), ?_⟩
    simp only [cxOf, Cx.nox, L2.start, List.map_cons, List.map_nil, List.length_cons, List.length_nil, Nat.reduceAdd, Nat.reduceSub, List.replicate, List.cons_append, List.nil_append]
    obtain ⟨e1, e2, e3, e4, o1, o2, hl', hn0, hn1', _, _, _⟩ := pr
    have hl : d.rows.length ≤ 1000 := Nat.le_trans hl' hi
    have hn1 : d.n ≤ 1000 := by omega
    have hd : H d.p = _ := S.at 0 rfl
    walk_at "z"
    refine ⟨d, rfl, S, fun l H1 hl0 S1 => ?_⟩
    have hm : H1 m.p = _ := S1.same _ _ (M.at 0 rfl)
    have hr1 : H1 m.r = some (.lst (d.rows.map .str)) := by rw [e1]; exact S1.same _ _ (M.at 1 rfl)
    have hd1 : H1 d.p = _ := S1.same _ _ hd
    walk_at "z"
    refine ⟨_, _, .type "list", .type "list", true, rfl, .ty "list", .base (.lst (S1.at 0 rfl)), kit_ty (by decide +kernel), ?_⟩
    walk_at "z"
    refine Z.neStrs (SqL.of (S1.at 0 rfl)) (SqL.of hr1) o1 ?_
    walk_at "z"
    refine ⟨d, rfl, S.same S1.same, ?_⟩
    refine ⟨_, rfl, Nat.lt_of_le_of_lt (Nat.log2_le_self _) (by omega), ?_⟩
    walk_at "z"
    refine ⟨_, rfl, Nat.lt_of_le_of_lt (Nat.log2_le_self _) (by omega), ?_⟩
    rw [e3]
    walk_at "z"
    refine Z.iteN (fun h => (h rfl).elim) (fun _ => ?_)
    walk_at "z"
    refine ⟨.inl ⟨rfl, _, SqL.of (S1.at 0 rfl)⟩, ?_⟩
    walk_at "z"
    refine ⟨l, _, _, rfl, rfl, S1.at 0 rfl, by rw [List.length_map]; exact small1000 hl, ?_⟩
    have S2 := S1.set 0 rfl (.lst (d.rows.map .str ++ [.str "more"]))
    have hm2 := S2.fr _ _ (M.at 0 rfl)
    have hd2 := S2.fr _ _ hd
    walk_at "z"
    refine ⟨d, rfl, S.same S2.fr, fun l2 H2 hl2 S3 => ?_⟩
    have s3 : Same H H2 := Same.trans S2.fr S3.fr
    have hm3 := s3 _ _ (M.at 0 rfl)
    have hd3 := s3 _ _ hd
    have hr3 : H2 m.r = some (.lst (d.rows.map .str)) := by rw [e1]; exact s3 _ _ (M.at 1 rfl)
    walk_at "z"
    refine Z.neStrs (SqL.of (S3.at 0 rfl)) (SqL.of hr3) o1 ?_
    walk_at "z"
    refine ⟨8, rfl, by decide, by decide, fun g hg => lc_range (lo := 0) (n := 8) (fun i H' => Z.Hs [(g, .lst ((d.pages.take i).map .str))] H2 H') (Z.Hs.nil.new hg) (fun i H' hi S4 => ?_) (fun H' S4 => ?_)⟩
    · refine ⟨rfl, ?_⟩
      have e5 : d.pages[i]? = some (d.pages[i]'(by omega)) := List.getElem?_eq_getElem _
      have hd4 := S4.fr _ _ hd3
      walk_at "z"
      refine ⟨d, i, _, by rw [Int.zero_add]; rfl, (S.same s3).same S4.fr, e5, ?_⟩
      refine ⟨_, S4.at 0 rfl, by rw [List.length_map, List.length_take]; exact small1000 (by omega), ?_⟩
      have := S4.set 0 rfl (.lst ((d.pages.take (i + 1)).map .str))
      have e6 : (d.pages.take (i + 1)).map V.str = (d.pages.take i).map V.str ++ [V.str (d.pages[i]'(by omega))] := by
        rw [List.take_add_one, e5, List.map_append]
        rfl
      rw [← e6]
      exact this
    · have hm4 := S4.fr _ _ hm3
      walk_at "z"
      have hg4 : H' m.g = some (.lst (d.pages.map .str)) := by rw [e2]; exact S4.fr _ _ (s3 _ _ (M.at 2 rfl))
      have hg5 := S4.at 0 rfl
      rw [show d.pages.take 8 = d.pages from List.take_of_length_le (by omega)] at hg5
      refine Z.eqStrs (SqL.of hg5) (SqL.of hg4) o2 ?_
      exact k _ (s3.trans S4.fr)
theorem mem_cutT {xs : List Str} {lo hi : Option Int} {z : Str} (h : z ∈ Z.cutT xs lo hi) : z ∈ xs := List.mem_of_mem_drop (List.mem_of_mem_take h)
theorem mem_set {z y : Str} : ∀ {g : List Str} {i : Nat}, y ∈ g.set i z → y = z ∨ y ∈ g
  | [], i, h => by simp at h
  | a :: r, 0, h => by
    rcases List.mem_cons.mp h with h | h
    · exact .inl h
    · exact .inr (List.mem_cons_of_mem _ h)
  | a :: r, i + 1, h => by
    rcases List.mem_cons.mp h with h | h
    · exact .inr (by rw [h]; exact List.mem_cons_self)
    · rcases mem_set (g := r) (i := i) h with h | h
      · exact .inl h
      · exact .inr (List.mem_cons_of_mem _ h)
/-- what stays true of rows and pages behind a deed -/
def Fine (n : Nat) (s : List Str × List Str) : Prop := s.1.length ≤ n ∧ s.2.length = 8 ∧ (∀ y ∈ s.1, PyData.strOk y = true) ∧ ∀ y ∈ s.2, PyData.strOk y = true
theorem fine_eff {n : Nat} {w i : Nat} {z : Str} {m : Int} {r : Option Int} {s : List Str × List Str} (hz : PyData.strOk z = true) (h : Fine n s) : Fine (n + 1) (eff w i z m r s) := by
  obtain ⟨h1, h2, h3, h4⟩ := h
  have app : ∀ y, PyData.strOk y = true → Fine (n + 1) (s.1 ++ [y], s.2) := fun y hy => ⟨by simp; omega, h2, fun x hx => by
    rcases List.mem_append.mp hx with hx | hx
    · exact h3 x hx
    · rw [List.mem_singleton.mp hx]; exact hy, h4⟩
  have pg : ∀ y, PyData.strOk y = true → Fine (n + 1) (s.1, s.2.set i y) := fun y hy => ⟨by show s.1.length ≤ n + 1; omega, by simp [h2], h3, fun x hx => by
    rcases mem_set hx with hx | hx
    · rw [hx]; exact hy
    · exact h4 x hx⟩
  have ct : ∀ lo hi, Fine (n + 1) (Z.cutT s.1 lo hi, s.2) := fun lo hi => ⟨by have := Z.cutT_len s.1 lo hi; show (Z.cutT s.1 lo hi).length ≤ n + 1; omega, h2, fun x hx => h3 x (mem_cutT hx), h4⟩
  have same : Fine (n + 1) s := ⟨Nat.le_succ_of_le h1, h2, h3, h4⟩
  cases r with
  | none =>
    unfold eff
    dsimp only
    split
    · exact app z hz
    · split
      · exact pg z hz
      · split
        · exact ct _ _
        · exact ct _ _
  | some k =>
    unfold eff
    dsimp only
    split
    · split
      · exact same
      · exact app _ (Z.ok_cut hz)
    · split
      · exact pg _ (Z.ok_cut hz)
      · split
        · split
          · exact ct _ _
          · exact ct _ _
        · exact same
theorem Pair.mono {i j : Nat} {d : Dk} {m : Md} (p : Pair i d m) (h : i ≤ j) : Pair j d m := { p with few := Nat.le_trans p.few h, low := by have := p.low; omega }
theorem Pair.step {i wd sl : Nat} {z : Str} {mm : Int} {r : Option Int} {d d1 : Dk} {m m1 : Md} (p : Pair i d m) (hz : PyData.strOk z = true) (a : After d d1) (e1 : (d1.rows, d1.pages) = eff wd sl z mm r (d.rows, d.pages))
    (e2 : (m1.rows, m1.pages) = eff wd sl z mm r (m.rows, m.pages)) (en : m1.n = m.n + 1) (es : (m1.due, m1.down) = comeS m.due m.down) : Pair (i + 1) d1 m1 := by
  have fn : Fine (i + 1) (d1.rows, d1.pages) := by
    rw [e1]
    exact fine_eff hz ⟨p.few, p.eight, p.okr, p.okp⟩
  have e3 : (d1.rows, d1.pages) = (m1.rows, m1.pages) := by rw [e1, e2, p.rows, p.pages]
  have e4 : (d1.due, d1.down) = (m1.due, m1.down) := by rw [a.st, es, p.due, p.down]
  refine ⟨(Prod.mk.inj e3).1, (Prod.mk.inj e3).2, by rw [a.n, en, p.n], fn.2.1, fn.2.2.1, fn.2.2.2, fn.1, by rw [a.n]; have := p.pos; omega, by rw [a.n]; have := p.low; omega, (Prod.mk.inj e4).1, (Prod.mk.inj e4).2, fun x s h => ?_⟩
  have st := a.st
  unfold comeS at st
  cases hd : d.down with
  | true =>
    rw [hd] at st
    have := (Prod.mk.inj st).1
    exact p.sg x s (by rw [← this]; exact h)
  | false =>
    rw [hd] at st
    cases hu : d.due with
    | none =>
      rw [hu] at st
      have := (Prod.mk.inj st).1
      rw [h] at this
      cases this
    | some as =>
      obtain ⟨b, s'⟩ := as
      rw [hu] at st
      by_cases c : 0 < b
      · simp only [Bool.false_eq_true, if_false, c, if_true] at st
        have := (Prod.mk.inj st).1
        rw [h] at this
        have e := (Prod.mk.inj (Option.some.inj this)).2
        rw [e]
        exact p.sg b s' hu
      · simp only [Bool.false_eq_true, if_false, c] at st
        have := (Prod.mk.inj st).1
        rw [h] at this
        cases this
theorem ok_law_write (T : Txt K mg A) : ∃ fd, FnOk P w K mg base CX0 5 A.f_law_write fd ["_law_disk", "_law_model", "_law_deed_here"] (sp_law_write K A) ∧ Binds K fd ["_law_disk", "_law_model", "_law_deed_here"] [] := by
  have ⟨fd, F, b⟩ := T.d_law_write
  refine ⟨fd, F.ok sc_law_write (fun vs H Q E h => ?_) (fun cdv Ar outer s H vs Q E hr h => ?_), b⟩
  · obtain ⟨F0, i, d, m, q, wd, sl, z, mm, rfl, _⟩ := h
    rfl
  · obtain ⟨F0, i, d, m, q, wd, sl, z, mm, rfl, S, pr, hi, ok, k⟩ := h
    have nd := sc_law_write.nd
    have hu := hu_of hr
    have ⟨fd_law_told, G_law_told, b_law_told⟩ := ok_law_told (P := P) (w := w) (base := base) T
    have ⟨fd_law_done, G_law_done, b_law_done⟩ := ok_law_done (P := P) (w := w) (base := base) T
    refine ⟨_, (pss_cons (ps_if (pt_val (pe_dget hu (pv 1) pe_str (fun _ _ => rfl))) (pss_one (ps_ret (pe_cmpR op_eq (pe_call G_law_told (hr.mono (by decide)) (by rfl) T.g_law_told T.d_law_told.kp b_law_told .nil pass0 (pa_cons (pv 0) (pa_cons (pv 2) pa_nil))) pe_str (nomark _)))) pss_nil)
      (pss_cons (ps_dput hu (pv 1) pe_str (pe_op op_add (pe_dget hu (pv 1) pe_str (fun _ _ => rfl)) pe_int) rfl)
      (pss_cons (ps_if (pt_cmpR op_isN (pe_dget hu (pv 1) pe_str (fun _ _ => rfl)) pe_non (nomark _)) (pss_cons (ps_expr (pe_call G_law_done (hr.mono (by decide)) (by rfl) T.g_law_done T.d_law_done.kp b_law_done .nil pass0 (pa_cons (pv 1) (pa_cons (pv 2) (pa_cons pe_non pa_nil)))))
      (pss_one (ps_ret (pe_cmpR op_isN (pe_call G_law_told (hr.mono (by decide)) (by rfl) T.g_law_told T.d_law_told.kp b_law_told .nil pass0 (pa_cons (pv 0) (pa_cons (pv 2) pa_nil))) pe_non (nomark _))))) pss_nil)
      (pss_cons (ps_asg (pe_dget hu (pv 1) pe_str (fun _ _ => rfl)) (pg_tup rfl (pgs_cons (pg_name (i := 3) nd rfl (Or.inl rfl)) (pgs_cons (pg_name (i := 4) nd rfl (Or.inl rfl)) pgs_nil))))
      (pss_cons (ps_if (pt_cmpR op_gt (pv 3) pe_int (nomark _)) (pss_cons (ps_dput hu (pv 1) pe_str (pe_tup (pa_cons (pe_op op_sub (pv 3) pe_int) (pa_cons (pv 4) pa_nil))) rfl)
      (pss_cons (ps_expr (pe_call G_law_done (hr.mono (by decide)) (by rfl) T.g_law_done T.d_law_done.kp b_law_done .nil pass0 (pa_cons (pv 1) (pa_cons (pv 2) (pa_cons pe_non pa_nil)))))
      (pss_one (ps_ret (pe_cmpR op_isN (pe_call G_law_told (hr.mono (by decide)) (by rfl) T.g_law_told T.d_law_told.kp b_law_told .nil pass0 (pa_cons (pv 0) (pa_cons (pv 2) pa_nil))) pe_non (nomark _)))))) pss_nil)
      (pss_cons (ps_dput hu (pv 1) pe_str pe_non rfl)
      (pss_cons (ps_dput hu (pv 1) pe_str pe_bl rfl)
      (pss_cons (ps_expr (pe_call G_law_done (hr.mono (by decide)) (by rfl) T.g_law_done T.d_law_done.kp b_law_done .nil pass0 (pa_cons (pv 1) (pa_cons (pv 2) (pa_cons (pv 4) pa_nil)))))
      (pss_one (ps_ret (pe_cmpR op_eq (pe_call G_law_told (hr.mono (by decide)) (by rfl) T.g_law_told T.d_law_told.kp b_law_told .nil pass0 (pa_cons (pv 0) (pa_cons (pv 2) pa_nil))) pe_str (nomark _)))))))))))), ?_⟩
    simp only [cxOf, Cx.nox, L2.start, List.map_cons, List.map_nil, List.length_cons, List.length_nil, Nat.reduceAdd, Nat.reduceSub, List.replicate, List.cons_append, List.nil_append]
    obtain ⟨p, r, g, rows, pages, n, due, t, down⟩ := m
    have hdn : d.down = down := pr.down
    have hdu : d.due = due := pr.due
    have h0 : H p = _ := (S.blk 1 rfl).at 0 rfl
    have okm : DeedOk F0 q wd sl z mm rows pages := ⟨ok.q, ok.w, by have := ok.i; rw [pr.pages] at this; exact this, by have := ok.few; rw [pr.rows] at this; exact this, ok.z⟩
    cases down with
    | true =>
      walk_at "z"
      obtain ⟨F1, S1, ⟨sF, _⟩, back⟩ := S.block 0 rfl
      refine ⟨F1, d, q, wd, sl, z, mm, rfl, S1, { ok with q := sF _ _ ok.q }, fun c H2 S2 => ?_, fun H2 d2 c => ?_, fun kk H2 d2 c => ?_⟩
      · walk_at "z"
        show Q (V.bl (decide (V.str "fell" = V.str "fell"))) H2
        rw [decide_eq_true rfl]
        exact k H2 d _ rfl rfl (pr.mono (Nat.le_succ _)) (back _ _ S2)
      · rw [hdn] at c; simp [comeR] at c
      · rw [hdn] at c; simp [comeR] at c
    | false =>
      obtain ⟨F1, S1, ⟨sF1, see1⟩, back1⟩ := S.block 1 rfl
      cases due with
      | none =>
        have S2 := S1.set 0 rfl (.dK (MF r g (n + 1) .non false))
        have h2 := S2.at 0 rfl
        walk_at "z"
        refine ⟨F1, ⟨p, r, g, rows, pages, n + 1, none, t, false⟩, q, wd, sl, z, mm, none, rfl, S2, { okm with q := sF1 _ _ okm.q }, (fun k h => by cases h), fun H3 r' g' rows' pages' e S3 => ?_⟩
        have S4 : Z.Hs ([dc A.Disk d, mc ⟨p, r', g', rows', pages', n + 1, none, t, false⟩] : List (List (Addr × HO))).flatten F0 H3 := back1 _ _ S3
        walk_at "z"
        obtain ⟨F2, S5, ⟨sF2, _⟩, back2⟩ := S4.block 0 rfl
        refine ⟨F2, d, q, wd, sl, z, mm, rfl, S5, { ok with q := sF2 _ _ ok.q }, fun c H6 S6 => ?_, fun H6 d1 c a e1 S6 => ?_, fun kk H6 d1 c => ?_⟩
        · rw [hdn, hdu] at c; simp [comeR] at c
        · walk_at "z"
          exact k H6 d1 ⟨p, r', g', rows', pages', n + 1, none, t, false⟩ a.p rfl (pr.step (m1 := ⟨p, r', g', rows', pages', n + 1, none, t, false⟩) ok.z.1 a e1 e rfl rfl) (back2 _ _ S6)
        · rw [hdn, hdu] at c; simp [comeR] at c
      | some as =>
        obtain ⟨a, s⟩ := as
        have sg := pr.sg a s hdu
        have S2 := S1.set 0 rfl (.dK (MF r g (n + 1) (.ref t) false))
        have h2 := S2.at 0 rfl
        walk_at "z"
        refine ⟨t, _, rfl, SqT.of (S2.at 3 rfl), rfl, ?_⟩
        walk_at "z"
        refine Z.iteD (fun e => ?_) (fun e => ?_)
        · have e' : 0 < a := e
          walk_at "z"
          refine ⟨by simp only [List.length_cons, List.length_nil]; decide, fun t2 ht2 => ?_⟩
          have S3 := S2.new (o := .tup [.int (a - 1), .int s]) ht2
          have h3 := S3.at 1 rfl
          walk_at "z"
          have S4 : Z.Hs (mc ⟨p, r, g, rows, pages, n + 1, some (a - 1, s), t2, false⟩) F1 _ := (S3.set 1 rfl (.dK (MF r g (n + 1) (.ref t2) false))).pick [1, 2, 3, 0] (by decide) rfl
          refine ⟨F1, ⟨p, r, g, rows, pages, n + 1, some (a - 1, s), t2, false⟩, q, wd, sl, z, mm, none, rfl, S4, { okm with q := sF1 _ _ okm.q }, (fun k h => by cases h), fun H3 r' g' rows' pages' e S3 => ?_⟩
          have S4 : Z.Hs ([dc A.Disk d, mc ⟨p, r', g', rows', pages', n + 1, some (a - 1, s), t2, false⟩] : List (List (Addr × HO))).flatten F0 H3 := back1 _ _ S3
          walk_at "z"
          obtain ⟨F2, S5, ⟨sF2, _⟩, back2⟩ := S4.block 0 rfl
          refine ⟨F2, d, q, wd, sl, z, mm, rfl, S5, { ok with q := sF2 _ _ ok.q }, fun c H6 S6 => ?_, fun H6 d1 c af e1 S6 => ?_, fun kk H6 d1 c => ?_⟩
          · rw [hdn, hdu] at c; simp [comeR, e'] at c
          · walk_at "z"
            exact k H6 d1 ⟨p, r', g', rows', pages', n + 1, some (a - 1, s), t2, false⟩ af.p rfl (pr.step (m1 := ⟨p, r', g', rows', pages', n + 1, some (a - 1, s), t2, false⟩) ok.z.1 af e1 e rfl (by simp [comeS, e'])) (back2 _ _ S6)
          · rw [hdn, hdu] at c; simp [comeR, e'] at c
        · have e' : ¬ 0 < a := e
          walk_at "z"
          have S4 : Z.Hs (mc ⟨p, r, g, rows, pages, n + 1, none, t, true⟩) F1 _ := ((S2.set 0 rfl (.dK (MF r g (n + 1) .non false))).set 0 rfl (.dK (MF r g (n + 1) .non true))).pick [0, 1, 2] (by decide) rfl
          refine ⟨F1, ⟨p, r, g, rows, pages, n + 1, none, t, true⟩, q, wd, sl, z, mm, some s, rfl, S4, { okm with q := sF1 _ _ okm.q }, (fun k h => by cases h; exact sg), fun H3 r' g' rows' pages' e S3 => ?_⟩
          have S4 : Z.Hs ([dc A.Disk d, mc ⟨p, r', g', rows', pages', n + 1, none, t, true⟩] : List (List (Addr × HO))).flatten F0 H3 := back1 _ _ S3
          walk_at "z"
          obtain ⟨F2, S5, ⟨sF2, _⟩, back2⟩ := S4.block 0 rfl
          refine ⟨F2, d, q, wd, sl, z, mm, rfl, S5, { ok with q := sF2 _ _ ok.q }, fun c H6 S6 => ?_, fun H6 d1 c => ?_, fun kk H6 d1 c a e1 S6 => ?_⟩
          · rw [hdn, hdu] at c; simp [comeR, e'] at c
          · rw [hdn, hdu] at c; simp [comeR, e'] at c
          · have hk : kk = s := by
              rw [hdn, hdu] at c
              simp only [comeR, Bool.false_eq_true, if_false, e'] at c
              exact (Option.some.inj (Option.some.inj c)).symm
            subst hk
            walk_at "z"
            show Q (V.bl (decide (V.str "fell" = V.str "fell"))) H6
            rw [decide_eq_true rfl]
            exact k H6 d1 ⟨p, r', g', rows', pages', n + 1, none, t, true⟩ a.p rfl (pr.step (m1 := ⟨p, r', g', rows', pages', n + 1, none, t, true⟩) ok.z.1 a e1 e rfl (by simp [comeS, e'])) (back2 _ _ S6)
def oc (C : Addr) : Option (Addr × Dk × Md) → List (List (Addr × HO))
  | none => []
  | some (l, d, m) => [[(l, .lst [.ref d.p, .ref m.p])], dc C d, mc m]
def oV : Option (Addr × Dk × Md) → V
  | none => .non
  | some (l, _, _) => .ref l
structure Inv19 (C : Addr) (F : Hp) (i : Nat) (d : Dk) (m : Md) (o : Option (Addr × Dk × Md)) (H : Hp) : Prop where
  S : Z.Hs (dc C d :: mc m :: oc C o).flatten F H
  pr : Pair i d m
  old : ∀ l d m, o = some (l, d, m) → Pair i d m
theorem ixT {K : PySem.W.Frag} {Q : VK} {H : Hp} {p : Addr} {xs : List V} {i : Nat} {v : V} (h : SqT K H p xs) (e : xs[i]? = some v) (k : Q v H) : rIxT K (.ref p) (.int i) H Q := ⟨p, xs, i, v, rfl, rfl, h, atI_nat e, k⟩
theorem two_flat {a b : List (Addr × HO)} {r : List (List (Addr × HO))} : (a :: b :: r).flatten = ([a, b] : List (List (Addr × HO))).flatten ++ r.flatten := by simp
theorem Inv19.up {C : Addr} {F : Hp} {i : Nat} {d d' : Dk} {m m' : Md} {o : Option (Addr × Dk × Md)} {H H' : Hp} (I : Inv19 C F i d m o H) (S : Z.Hs (dc C d' :: mc m' :: oc C o).flatten F H') (p : Pair (i + 1) d' m') : Inv19 C F (i + 1) d' m' o H' :=
  ⟨S, p, fun l d m e => (I.old l d m e).mono (Nat.le_succ _)⟩
theorem pair_new {i : Nat} {d d' : Dk} {m m' : Md} (p : Pair i d m) (x1 : d'.rows = d.rows) (x2 : d'.pages = d.pages) (x3 : d'.n = 0) (x4 : d'.due = none) (x5 : d'.down = false)
    (y1 : m'.rows = m.rows) (y2 : m'.pages = m.pages) (y3 : m'.n = 0) (y4 : m'.due = none) (y5 : m'.down = false) : Pair (i + 1) d' m' :=
  ⟨by rw [x1, y1, p.rows], by rw [x2, y2, p.pages], by rw [x3, y3], by rw [x2]; exact p.eight, by rw [x1]; exact p.okr, by rw [x2]; exact p.okp, by rw [x1]; exact Nat.le_succ_of_le p.few, by rw [x3]; decide, by rw [x3]; omega,
    by rw [x4, y4], by rw [x5, y5], fun a s h => by rw [x4] at h; cases h⟩
theorem ok_law {f : Addr} {fd : FuncData} (F : Fun K "law" "law" s_law f fd) (T : Txt K mg A) : FnOk P w K mg base CX0 6 f fd ["_law_script"] (spLaw K) := by
  refine F.ok sc_law (fun vs H Q E h => ?_) (fun cdv Ar outer s H vs Q E hr h => ?_)
  · obtain ⟨a, ns, rfl, _⟩ := h
    rfl
  · obtain ⟨a, ns, rfl, hS, hlen, k⟩ := h
    have nd := sc_law.nd
    have hu := hu_of hr
    have ⟨fd_Disk___init__, G_Disk___init__, b_Disk___init__⟩ := ok_Disk___init__ (P := P) (w := w) (base := base) T
    have ⟨fd_law_new, G_law_new, b_law_new⟩ := ok_law_new (P := P) (w := w) (base := base) T
    have ⟨fd_law_cell, G_law_cell, b_law_cell⟩ := ok_law_cell (P := P) (w := w) (base := base) T
    have ⟨fd_law_draw, G_law_draw, b_law_draw⟩ := ok_law_draw (P := P) (w := w) (base := base) T
    have ⟨fd_Disk_copied, G_Disk_copied, b_Disk_copied⟩ := ok_Disk_copied (P := P) (w := w) (base := base) T
    have ⟨fd_law_copied, G_law_copied, b_law_copied⟩ := ok_law_copied (P := P) (w := w) (base := base) T
    have ⟨fd_Disk_power, G_Disk_power, b_Disk_power⟩ := ok_Disk_power (P := P) (w := w) (base := base) T
    have ⟨fd_Disk_fall_at, G_Disk_fall_at, b_Disk_fall_at⟩ := ok_Disk_fall_at (P := P) (w := w) (base := base) T
    have ⟨fd_law_write, G_law_write, b_law_write⟩ := ok_law_write (P := P) (w := w) (base := base) T
    have ⟨fd_law_deed, G_law_deed, b_law_deed⟩ := ok_law_deed (P := P) (w := w) (base := base) T
    have ⟨fd_law_stands, G_law_stands, b_law_stands⟩ := ok_law_stands (P := P) (w := w) (base := base) T
    refine ⟨_, (pss_cons (ps_set (i := 1) nd rfl (Or.inl rfl) (pe_make0 T.mk_Disk G_Disk___init__ (hr.mono (by decide)) rfl T.g_Disk b_Disk___init__ .nil pass0))
      (pss_cons (ps_set (i := 2) nd rfl (Or.inl rfl) (pe_call0 G_law_new (hr.mono (by decide)) (by rfl) T.g_law_new T.d_law_new.kp b_law_new .nil pass0))
      (pss_cons (ps_set (i := 3) nd rfl (Or.inl rfl) pe_non)
      (pss_cons (ps_for PassesOwn.never rfl (pi_range1 rfl T.b_range (pa_cons (pe_callB (call_max2 rfl) (by rfl) T.b_max (by decide +kernel) (pa_cons pe_int (pa_cons (pe_callB (call_min2 rfl) (by rfl) T.b_min (by decide +kernel) (pa_cons (pe_callB call_len_seq (by rfl) T.b_len PySem.boot_len (pa_cons (pv 0) pa_nil)) (pa_cons pe_int pa_nil))) pa_nil))) pa_nil)) (pg_name (i := 4) nd rfl (Or.inl rfl)) (pss_cons (ps_set (i := 5) nd rfl (Or.inl rfl) (pe_call G_law_cell (hr.mono (by decide)) (by rfl) T.g_law_cell T.d_law_cell.kp b_law_cell .nil pass0 (pa_cons (pv 0) (pa_cons (pv 4) pa_nil))))
      (pss_cons (ps_set (i := 6) nd rfl (Or.inl rfl) (pe_op op_mod (pe_call G_law_draw (hr.mono (by decide)) (by rfl) T.g_law_draw T.d_law_draw.kp b_law_draw .nil pass0 (pa_cons (pv 5) (pa_cons pe_int pa_nil))) pe_int))
      (Evl.pss_cut (ps_if (pt_cmpR op_eq (pv 6) pe_int (nomark _)) (pss_cons (ps_set (i := 3) nd rfl (Or.inl rfl) (pe_lst (pa_cons (pv 1) (pa_cons (pv 2) pa_nil))))
      (pss_cons (ps_set (i := 1) nd rfl (Or.inl rfl) (pe_meth0 (pv 1) T.c_Disk T.m_Disk_copied G_Disk_copied (hr.mono (by decide)) b_Disk_copied .nil pass0))
      (pss_one (ps_set (i := 2) nd rfl (Or.inl rfl) (pe_call G_law_copied (hr.mono (by decide)) (by rfl) T.g_law_copied T.d_law_copied.kp b_law_copied .nil pass0 (pa_cons (pv 2) pa_nil)))))) (pss_one (ps_if (pt_cmpR op_eq (pv 6) pe_int (nomark _)) (pss_cons (ps_dput hu (pv 2) pe_str pe_non rfl)
      (pss_cons (ps_dput hu (pv 2) pe_str pe_bl rfl)
      (pss_one (ps_if (pt_cmpR op_notN (pe_meth0 (pv 1) T.c_Disk T.m_Disk_power G_Disk_power (hr.mono (by decide)) b_Disk_power .nil pass0) pe_non (nomark _)) (pss_one (ps_ret pe_bl)) pss_nil)))) (pss_one (ps_if (pt_cmpR op_lt (pv 6) pe_int (nomark _)) (pss_cons (ps_set (i := 7) nd rfl (Or.inl rfl) (pe_ix ix_list (pe_lst (pa_cons pe_int (pa_cons pe_int (pa_cons (pe_op op_mod (pe_call G_law_draw (hr.mono (by decide)) (by rfl) T.g_law_draw T.d_law_draw.kp b_law_draw .nil pass0 (pa_cons (pv 5) (pa_cons pe_int pa_nil))) pe_int) (pa_cons (pe_op op_mod (pe_call G_law_draw (hr.mono (by decide)) (by rfl) T.g_law_draw T.d_law_draw.kp b_law_draw .nil pass0 (pa_cons (pv 5) (pa_cons pe_int pa_nil))) pe_int) (pa_cons (pe_op op_pow pe_int pe_int) pa_nil)))))) (pe_op op_mod (pe_call G_law_draw (hr.mono (by decide)) (by rfl) T.g_law_draw T.d_law_draw.kp b_law_draw .nil pass0 (pa_cons (pv 5) (pa_cons pe_int pa_nil))) pe_int) (fun _ _ => rfl)))
      (pss_cons (ps_dput hu (pv 2) pe_str (pe_tup (pa_cons (pe_ix ix_list (pe_lst (pa_cons pe_int (pa_cons pe_int (pa_cons pe_int (pa_cons pe_int (pa_cons (pe_op op_mod (pe_call G_law_draw (hr.mono (by decide)) (by rfl) T.g_law_draw T.d_law_draw.kp b_law_draw .nil pass0 (pa_cons (pv 5) (pa_cons pe_int pa_nil))) pe_int) pa_nil)))))) (pe_op op_mod (pe_call G_law_draw (hr.mono (by decide)) (by rfl) T.g_law_draw T.d_law_draw.kp b_law_draw .nil pass0 (pa_cons (pv 5) (pa_cons pe_int pa_nil))) pe_int) (fun _ _ => rfl)) (pa_cons (pv 7) pa_nil))) rfl)
      (pss_one (ps_if (pt_cmpR op_notN (pe_meth (pv 1) T.c_Disk T.m_Disk_fall_at G_Disk_fall_at (hr.mono (by decide)) b_Disk_fall_at .nil pass0 (pa_cons (pe_ix ix_tup (pe_dget hu (pv 2) pe_str (fun _ _ => rfl)) pe_int (fun _ _ => rfl)) (pa_cons (pe_ix ix_tup (pe_dget hu (pv 2) pe_str (fun _ _ => rfl)) pe_int (fun _ _ => rfl)) pa_nil))) pe_non (nomark _)) (pss_one (ps_ret pe_bl)) pss_nil)))) (pss_one (ps_if (pt_not (pt_val (pe_call G_law_write (hr.mono (by decide)) (by rfl) T.g_law_write T.d_law_write.kp b_law_write .nil pass0 (pa_cons (pv 1) (pa_cons (pv 2) (pa_cons (pe_call G_law_deed (hr.mono (by decide)) (by rfl) T.g_law_deed T.d_law_deed.kp b_law_deed .nil pass0 (pa_cons (pv 5) pa_nil)) pa_nil)))))) (pss_one (ps_ret pe_bl)) pss_nil)))))))
      (pss_one (ps_if (PW.pt (pw_or (pt_not (pt_val (pe_call G_law_stands (hr.mono (by decide)) (by rfl) T.g_law_stands T.d_law_stands.kp b_law_stands .nil pass0 (pa_cons (pv 1) (pa_cons (pv 2) pa_nil))))) (pw_or1 (PW.pt (pw_and (pt_cmpR op_notN (pv 3) pe_non (nomark _)) (pw_and1 (pt_not (pt_val (pe_call G_law_stands (hr.mono (by decide)) (by rfl) T.g_law_stands T.d_law_stands.kp b_law_stands .nil pass0 (pa_cons (pe_ix ix_list (pv 3) pe_int (fun _ _ => rfl)) (pa_cons (pe_ix ix_list (pv 3) pe_int (fun _ _ => rfl)) pa_nil))))))))))) (pss_one (ps_ret pe_bl)) pss_nil))))))
      (pss_one (ps_ret pe_bl)))))), ?_⟩
    simp only [cxOf, Cx.nox, L2.start, List.map_cons, List.map_nil, List.length_cons, List.length_nil, Nat.reduceAdd, Nat.reduceSub, List.replicate, List.cons_append, List.nil_append]
    walk_at "z"
    intro x dx hx hdx hne
    have N0 : News [(x, .ins A.Disk dx [])] H (upd (upd H dx (.own x)) x (.ins A.Disk dx [])) := (Z.Hs.nil.ext (Z.same_new hdx)).new (by rw [upd_ne (Ne.symm hne)]; exact hx)
    refine ⟨H, x, dx, rfl, N0, fun H1 d0 hp0 r0 g0 n0 u0 b0 S0 => ⟨rfl, ?_⟩⟩
    subst hp0
    walk_at "z"
    refine ⟨rfl, fun H4 m0 mr0 mg0 mn0 mu0 mb0 S4 => ?_⟩
    have S5 : Z.Hs (dc A.Disk d0 :: mc m0 :: oc A.Disk none).flatten H H4 := by
      have := (S4.join S0).perm List.perm_append_comm
      simpa [oc] using this
    have I0 : Inv19 A.Disk H 0 d0 m0 none H4 := ⟨S5, ⟨by rw [r0, mr0], by rw [g0, mg0], by rw [n0, mn0], by rw [g0]; rfl, by rw [r0]; exact fun z hz => (nomatch hz), by rw [g0]; exact fun z hz => by rw [(List.mem_replicate.mp hz).2]; decide +kernel, by rw [r0]; exact Nat.le_refl _, by rw [n0]; decide, by rw [n0]; decide, by rw [u0, mu0], by rw [b0, mb0], fun a s h => by rw [u0] at h; cases h⟩, fun l d m e => by cases e⟩
    walk_at "z"
    refine Z.lenSeq (I0.S.same.seq hS) ?_
    walk_at "z"
    refine ⟨_, _, rfl, ?_⟩
    walk_at "z"
    refine ⟨_, _, rfl, ?_⟩
    rw [List.length_map]
    have hT : ∃ t : Nat, t ≤ 50 ∧ (if (if (50 : Int) < ((ns.length : Nat) : Int) then 50 else ((ns.length : Nat) : Int)) > 8 then (if (50 : Int) < ((ns.length : Nat) : Int) then 50 else ((ns.length : Nat) : Int)) else (8 : Int)) = (t : Int) := by
      by_cases c : (50 : Int) < ((ns.length : Nat) : Int)
      · refine ⟨50, Nat.le_refl _, ?_⟩
        rw [if_pos c]; rfl
      · rw [if_neg c]
        by_cases c2 : ((ns.length : Nat) : Int) > 8
        · exact ⟨ns.length, by omega, by rw [if_pos c2]⟩
        · exact ⟨8, by omega, by rw [if_neg c2]; rfl⟩
    obtain ⟨t, ht, et⟩ := hT
    rw [et]
    refine ⟨(t : Int), rfl, by omega, by omega, ?_⟩
    rw [Int.toNat_natCast]
    refine (for_range (lo := 0) (n := t) (fun i σ H' => ∃ (d : Dk) (m : Md) (o : Option (Addr × Dk × Md)) (v4 v5 v6 v7 : Option V), σ = [some (.ref a), some (.ref d.p), some (.ref m.p), some (oV o), v4, v5, v6, v7] ∧ Inv19 A.Disk H i d m o H')
      ⟨d0, m0, none, none, none, none, none, rfl, I0⟩ ?_ ?_)
    · rintro i σ H7 hi ⟨d, m, o, v4, v5, v6, v7, rfl, I⟩
      rw [Int.zero_add]
      walk_at "z"
      refine ⟨a, ns, i, rfl, I.S.same.seq hS, by omega, fun c => ?_⟩
      walk_at "z"
      refine ⟨c, 6, rfl, by decide, by decide, fun r2 r20 r21 => ?_⟩
      walk_at "z"
      have p := I.pr
      refine Z.cut (M := fun σ' H' => ∃ (d : Dk) (m : Md) (o : Option (Addr × Dk × Md)) (v7 : Option V), σ' = [some (.ref a), some (.ref d.p), some (.ref m.p), some (oV o), some (.int i), some (.int c), some (.int (r2 % 8)), v7] ∧ Inv19 A.Disk H (i + 1) d m o H') ?_ ?_
      · walk_at "z"
        refine Z.iteD (fun _ => ?_) (fun _ => ?_)
        · walk_at "z"
          refine ⟨by simp only [List.length_cons, List.length_nil]; decide, fun l hl => ?_⟩
          have S0 : Z.Hs (dc A.Disk d :: [mc m]).flatten H H7 := I.S.sub (List.Sublist.append_left (List.Sublist.append_left (List.nil_sublist _) _) _)
          have S1 : Z.Hs ([[(l, .lst [.ref d.p, .ref m.p])], dc A.Disk d, mc m] : List (List (Addr × HO))).flatten H _ := S0.new (o := .lst [.ref d.p, .ref m.p]) hl
          have hd1 := (S1.blk 1 rfl).at 0 rfl
          walk_at "z"
          refine ⟨d, rfl, S1.blk 1 rfl, fun H8 d' x1 x2 x3 x4 x5 N => ?_⟩
          have S8 := N.join S1
          walk_at "z"
          refine ⟨m, rfl, (S1.blk 2 rfl).same N.same, fun H10 m' y1 y2 y3 y4 y5 N2 => ?_⟩
          have S10 := (N2.join S8).perm (List.perm_append_comm_assoc _ _ _)
          walk_at "z"
          exact ⟨d', m', some (l, d, m), _, rfl, S10, pair_new p x1 x2 x3 x4 x5 y1 y2 y3 y4 y5, fun l' d2 m2 e => by cases e; exact p.mono (Nat.le_succ _)⟩
        · walk_at "z"
          refine Z.iteD (fun _ => ?_) (fun _ => ?_)
          · obtain ⟨F1, S1, ⟨sF1, see1⟩, back1⟩ := I.S.block 1 rfl
            obtain ⟨p', r, g, rows, pages, n, due, t, down⟩ := m
            have h0 := S1.at 0 rfl
            have S2 := S1.set 0 rfl (.dK (MF r g n .non down))
            have h2 := S2.at 0 rfl
            have S3 := S2.set 0 rfl (.dK (MF r g n .non false))
            have S4 : Z.Hs (mc ⟨p', r, g, rows, pages, n, none, t, false⟩) F1 _ := S3.pick [0, 1, 2] (by decide) rfl
            have S5 : Z.Hs (dc A.Disk d :: mc ⟨p', r, g, rows, pages, n, none, t, false⟩ :: oc A.Disk o).flatten H _ := back1 _ _ S4
            have hd := (S5.blk 0 rfl).at 0 rfl
            walk_at "z"
            obtain ⟨F2, S6, _, back2⟩ := S5.block 0 rfl
            refine ⟨F2, d, rfl, S6, fun H8 S7 => ?_⟩
            have S8 := back2 _ _ S7
            walk_at "z"
            exact ⟨{ d with due := none, down := false }, ⟨p', r, g, rows, pages, n, none, t, false⟩, o, _, rfl, I.up S8 ⟨p.rows, p.pages, p.n, p.eight, p.okr, p.okp, Nat.le_succ_of_le p.few, p.pos, by have := p.low; show d.n ≤ _; omega, rfl, rfl, fun a s h => by cases h⟩⟩
          · walk_at "z"
            refine Z.iteD (fun _ => ?_) (fun _ => ?_)
            · walk_at "z"
              refine ⟨c, 8, rfl, by decide, by decide, fun r3 r30 r31 => ?_⟩
              walk_at "z"
              refine ⟨c, 8, rfl, by decide, by decide, fun r4 r40 r41 => ?_⟩
              walk_at "z"
              refine ⟨by simp only [List.length_cons, List.length_nil]; decide, fun p1 hp1 => ?_⟩
              walk_at "z"
              refine ⟨c, 7, rfl, by decide, by decide, fun r5 r50 r51 => ?_⟩
              walk_at "z"
              refine Z.ixAll (G := fun v => ∃ k, v = .int k ∧ 0 ≤ k) (SqL.of upd_same) (by omega) (by simp only [List.length_cons, List.length_nil]; omega) (fun v hv => ?_) (fun v ⟨s, e, hs0⟩ _ => ?_)
              · simp only [List.mem_cons, List.not_mem_nil, or_false] at hv
                rcases hv with h | h | h | h | h
                all_goals first | exact ⟨_, h, by omega⟩ | exact ⟨_, h, by decide⟩
              subst e
              walk_at "z"
              refine ⟨c, 10, rfl, by decide, by decide, fun r6 r60 r61 => ?_⟩
              walk_at "z"
              refine ⟨by simp only [List.length_cons, List.length_nil]; decide, fun p2 hp2 => ?_⟩
              walk_at "z"
              refine ⟨c, 9, rfl, by decide, by decide, fun r7 r70 r71 => ?_⟩
              walk_at "z"
              refine Z.ixAll (G := fun v => ∃ k, v = .int k ∧ 0 ≤ k) (SqL.of upd_same) (by omega) (by simp only [List.length_cons, List.length_nil]; omega) (fun v hv => ?_) (fun v ⟨af, e, haf⟩ _ => ?_)
              · simp only [List.mem_cons, List.not_mem_nil, or_false] at hv
                rcases hv with h | h | h | h | h
                all_goals exact ⟨_, h, by omega⟩
              subst e
              walk_at "z"
              refine ⟨by simp only [List.length_cons, List.length_nil]; decide, fun t2 ht2 => ?_⟩
              have S0 := (I.S.ext (Z.same_new hp1)).ext (Z.same_new (o := .lst [.int 0, .int 0, .int 1, .int 2, .int (r6 % 9)]) hp2)
              obtain ⟨F1, S1, ⟨sF1, see1⟩, back1⟩ := S0.block 1 rfl
              obtain ⟨p', r, g, rows, pages, n, due, t, down⟩ := m
              have S2 := S1.new (o := .tup [.int af, .int s]) ht2
              have h0 := S2.at 1 rfl
              have S3 := S2.set 1 rfl (.dK (MF r g n (.ref t2) down))
              have h3 := S3.at 1 rfl
              have S4 : Z.Hs (mc ⟨p', r, g, rows, pages, n, some (af, s), t2, down⟩) F1 _ := S3.pick [1, 2, 3, 0] (by decide) rfl
              have S5 : Z.Hs (dc A.Disk d :: mc ⟨p', r, g, rows, pages, n, some (af, s), t2, down⟩ :: oc A.Disk o).flatten H _ := back1 _ _ S4
              have hd := (S5.blk 0 rfl).at 0 rfl
              walk_at "z"
              have ht := S3.at 0 rfl
              refine ixT (i := 0) (SqT.of ht) rfl ?_
              walk_at "z"
              refine ixT (i := 1) (SqT.of ht) rfl ?_
              walk_at "z"
              obtain ⟨F2, S6, _, back2⟩ := S5.block 0 rfl
              refine ⟨F2, d, af, s, rfl, S6, fun H8 t8 S7 => ?_⟩
              have S8 := back2 _ _ S7
              walk_at "z"
              exact ⟨{ d with due := some (af, s), t := t8 }, ⟨p', r, g, rows, pages, n, some (af, s), t2, down⟩, o, _, rfl, I.up S8 ⟨p.rows, p.pages, p.n, p.eight, p.okr, p.okp, Nat.le_succ_of_le p.few, p.pos, by have := p.low; show d.n ≤ _; omega, rfl, p.down, fun a s' h => by cases h; exact hs0⟩⟩
            · walk_at "z"
              refine ⟨c, rfl, fun q wd sl z mm H8 hw hi2 hz hm0 N => ?_⟩
              have S8 := N.join I.S
              rw [two_flat] at S8
              obtain ⟨F1, S1, ⟨sF1, see1⟩, back1⟩ := (S8.perm (List.perm_append_comm_assoc _ _ _)).split
              walk_at "z"
              refine ⟨F1, i, d, m, q, wd, sl, z, mm, rfl, S1, p, by omega, ⟨see1 _ _ (List.mem_append_left _ List.mem_cons_self), hw, by rw [p.eight]; exact hi2, Nat.le_trans p.few (by omega), hz⟩, fun H9 d' m' e1 e2 pr' S9 => ?_⟩
              have S10 := (back1 _ _ S9).sub (List.Sublist.append_left (List.sublist_append_right _ _) _)
              rw [← two_flat] at S10
              walk_at "z"
              exact ⟨d', m', o, v7, by rw [e1, e2]; rfl, I.up S10 pr'⟩
      · rintro σ' H8 ⟨d, m, o, v7, rfl, I⟩
        walk_at "z"
        refine ⟨i + 1, d, m, rfl, I.S.blk 0 rfl, I.S.blk 1 rfl, I.pr, by omega, fun H9 s9 => ?_⟩
        cases o with
        | none =>
          walk_at "z"
          exact ⟨d, m, none, _, _, _, _, rfl, I.S.ext s9, I.pr, I.old⟩
        | some o =>
          obtain ⟨l, d0, m0⟩ := o
          have hl := s9 _ _ ((I.S.blk 2 rfl).at 0 rfl)
          walk_at "z"
          refine Z.ixL (i := 0) (SqL.of hl) rfl ?_
          walk_at "z"
          refine Z.ixL (i := 1) (SqL.of hl) rfl ?_
          walk_at "z"
          refine ⟨i + 1, d0, m0, rfl, (I.S.blk 3 rfl).same s9, (I.S.blk 4 rfl).same s9, I.old l d0 m0 rfl, by omega, fun H10 s10 => ?_⟩
          walk_at "z"
          exact ⟨d, m, some (l, d0, m0), _, _, _, _, rfl, I.S.ext (s9.trans s10), I.pr, I.old⟩
    · rintro σ H7 ⟨d, m, o, v4, v5, v6, v7, rfl, I⟩
      walk_at "z"
      exact k _
end
theorem all_mk {l : PySem.W.OpenLaw} {w : World} {K : PySem.W.Frag} {h : Heap} {mg : Str → Option Value} {fa : Addr} (X : K.In h) (G : h.Ns mainGlobals mg) (hfa : mg "law" = some (.ref fa))
    {CDisk CStoreError CTooMany CFell CNoTable f_Disk___init__ f_Disk_log_rows f_Disk_page f_Disk_writes f_Disk_fall_at f_Disk_power f_Disk_coming f_Disk_add_row f_Disk_put_page f_Disk_cut_to f_Disk_cut_tail f_Disk_cut_head f_Disk_copied f_law_cell f_law_draw f_law_text f_law_deed f_law_told f_law_done f_law_new f_law_stands f_law_copied f_law_write f_law : Addr} {od_Disk___init__ an_Disk___init__ od_Disk_log_rows an_Disk_log_rows od_Disk_page an_Disk_page od_Disk_writes an_Disk_writes od_Disk_fall_at an_Disk_fall_at od_Disk_power an_Disk_power od_Disk_coming an_Disk_coming od_Disk_add_row an_Disk_add_row od_Disk_put_page an_Disk_put_page od_Disk_cut_to an_Disk_cut_to od_Disk_cut_tail an_Disk_cut_tail od_Disk_cut_head an_Disk_cut_head od_Disk_copied an_Disk_copied od_law_cell an_law_cell od_law_draw an_law_draw od_law_text an_law_text od_law_deed an_law_deed od_law_told an_law_told od_law_done an_law_done od_law_new an_law_new od_law_stands an_law_stands od_law_copied an_law_copied od_law_write an_law_write od_law an_law : Option Addr} {sl_Disk___init__ sl_Disk_log_rows sl_Disk_page sl_Disk_writes sl_Disk_fall_at sl_Disk_power sl_Disk_coming sl_Disk_add_row sl_Disk_put_page sl_Disk_cut_to sl_Disk_cut_tail sl_Disk_cut_head sl_Disk_copied sl_law_cell sl_law_draw sl_law_text sl_law_deed sl_law_told sl_law_done sl_law_new sl_law_stands sl_law_copied sl_law_write sl_law : Array (Option Value)} {oc_Disk___init__ kV_Disk___init__ dc_Disk___init__ pm_Disk___init__ cd_Disk___init__ ct_Disk___init__ oc_Disk_log_rows kV_Disk_log_rows dc_Disk_log_rows pm_Disk_log_rows cd_Disk_log_rows ct_Disk_log_rows oc_Disk_page kV_Disk_page dc_Disk_page pm_Disk_page cd_Disk_page ct_Disk_page oc_Disk_writes kV_Disk_writes dc_Disk_writes pm_Disk_writes cd_Disk_writes ct_Disk_writes oc_Disk_fall_at kV_Disk_fall_at dc_Disk_fall_at pm_Disk_fall_at cd_Disk_fall_at ct_Disk_fall_at oc_Disk_power kV_Disk_power dc_Disk_power pm_Disk_power cd_Disk_power ct_Disk_power oc_Disk_coming kV_Disk_coming dc_Disk_coming pm_Disk_coming cd_Disk_coming ct_Disk_coming oc_Disk_add_row kV_Disk_add_row dc_Disk_add_row pm_Disk_add_row cd_Disk_add_row ct_Disk_add_row oc_Disk_put_page kV_Disk_put_page dc_Disk_put_page pm_Disk_put_page cd_Disk_put_page ct_Disk_put_page oc_Disk_cut_to kV_Disk_cut_to dc_Disk_cut_to pm_Disk_cut_to cd_Disk_cut_to ct_Disk_cut_to oc_Disk_cut_tail kV_Disk_cut_tail dc_Disk_cut_tail pm_Disk_cut_tail cd_Disk_cut_tail ct_Disk_cut_tail oc_Disk_cut_head kV_Disk_cut_head dc_Disk_cut_head pm_Disk_cut_head cd_Disk_cut_head ct_Disk_cut_head oc_Disk_copied kV_Disk_copied dc_Disk_copied pm_Disk_copied cd_Disk_copied ct_Disk_copied oc_law_cell kV_law_cell dc_law_cell pm_law_cell cd_law_cell ct_law_cell oc_law_draw kV_law_draw dc_law_draw pm_law_draw cd_law_draw ct_law_draw oc_law_text kV_law_text dc_law_text pm_law_text cd_law_text ct_law_text oc_law_deed kV_law_deed dc_law_deed pm_law_deed cd_law_deed ct_law_deed oc_law_told kV_law_told dc_law_told pm_law_told cd_law_told ct_law_told oc_law_done kV_law_done dc_law_done pm_law_done cd_law_done ct_law_done oc_law_new kV_law_new dc_law_new pm_law_new cd_law_new ct_law_new oc_law_stands kV_law_stands dc_law_stands pm_law_stands cd_law_stands ct_law_stands oc_law_copied kV_law_copied dc_law_copied pm_law_copied cd_law_copied ct_law_copied oc_law_write kV_law_write dc_law_write pm_law_write cd_law_write ct_law_write oc_law kV_law dc_law pm_law cd_law ct_law : Value} {t_MOST_SLOTS : Tok}
    (a_Disk : PySem.W.nsIn K mainGlobals "Disk" = some (some (.ref CDisk)))
    (pg_Disk : PySem.W.plainGet K CDisk Str.empty = true)
    (hd_Disk : PySem.W.hasDictIn K CDisk = true)
    (po_Disk : PySem.W.plainOver K CDisk = true)
    (sa_Disk : PySem.W.findIn K (.ref CDisk) "__setattr__" = some (some (.builtin "object.__setattr__")))
    (mk_Disk : PySem.W.makesIn K CDisk = true)
    (kc_Disk : PySem.W.keepIn K (.ref CDisk) = true)
    (n_Disk_held_rows : PySem.W.findIn K (.ref CDisk) "held_rows" = some none)
    (n_Disk_held_pages : PySem.W.findIn K (.ref CDisk) "held_pages" = some none)
    (n_Disk_many_writes : PySem.W.findIn K (.ref CDisk) "many_writes" = some none)
    (n_Disk_due : PySem.W.findIn K (.ref CDisk) "due" = some none)
    (n_Disk_is_down : PySem.W.findIn K (.ref CDisk) "is_down" = some none)
    (a_StoreError : PySem.W.nsIn K mainGlobals "StoreError" = some (some (.ref CStoreError)))
    (a_TooMany : PySem.W.nsIn K mainGlobals "TooMany" = some (some (.ref CTooMany)))
    (a_Fell : PySem.W.nsIn K mainGlobals "Fell" = some (some (.ref CFell)))
    (a_NoTable : PySem.W.nsIn K mainGlobals "NoTable" = some (some (.ref CNoTable)))
    (a_Disk___init__ : PySem.W.findIn K (.ref CDisk) "__init__" = some (some (.ref f_Disk___init__)))
    (i_Disk___init__ : PySem.W.isFn K (.ref f_Disk___init__) = true)
    (l_Disk___init__ : K.lookup f_Disk___init__ = some ⟨oc_Disk___init__, od_Disk___init__, .func (PySem.W.fnOf "__init__" "Disk.__init__" (defArgs s_Disk___init__) (defBody s_Disk___init__) (defScope s_Disk___init__) .none kV_Disk___init__ dc_Disk___init__ pm_Disk___init__ an_Disk___init__ cd_Disk___init__ ct_Disk___init__), sl_Disk___init__⟩)
    (c_Disk___init__ : PySem.W.codeIn K cd_Disk___init__ "Disk.__init__" = true)
    (k_Disk___init__ : PySem.W.keepIn K (.ref f_Disk___init__) = true)
    (a_Disk_log_rows : PySem.W.findIn K (.ref CDisk) "log_rows" = some (some (.ref f_Disk_log_rows)))
    (i_Disk_log_rows : PySem.W.isFn K (.ref f_Disk_log_rows) = true)
    (l_Disk_log_rows : K.lookup f_Disk_log_rows = some ⟨oc_Disk_log_rows, od_Disk_log_rows, .func (PySem.W.fnOf "log_rows" "Disk.log_rows" (defArgs s_Disk_log_rows) (defBody s_Disk_log_rows) (defScope s_Disk_log_rows) .none kV_Disk_log_rows dc_Disk_log_rows pm_Disk_log_rows an_Disk_log_rows cd_Disk_log_rows ct_Disk_log_rows), sl_Disk_log_rows⟩)
    (c_Disk_log_rows : PySem.W.codeIn K cd_Disk_log_rows "Disk.log_rows" = true)
    (k_Disk_log_rows : PySem.W.keepIn K (.ref f_Disk_log_rows) = true)
    (a_Disk_page : PySem.W.findIn K (.ref CDisk) "page" = some (some (.ref f_Disk_page)))
    (i_Disk_page : PySem.W.isFn K (.ref f_Disk_page) = true)
    (l_Disk_page : K.lookup f_Disk_page = some ⟨oc_Disk_page, od_Disk_page, .func (PySem.W.fnOf "page" "Disk.page" (defArgs s_Disk_page) (defBody s_Disk_page) (defScope s_Disk_page) .none kV_Disk_page dc_Disk_page pm_Disk_page an_Disk_page cd_Disk_page ct_Disk_page), sl_Disk_page⟩)
    (c_Disk_page : PySem.W.codeIn K cd_Disk_page "Disk.page" = true)
    (k_Disk_page : PySem.W.keepIn K (.ref f_Disk_page) = true)
    (a_Disk_writes : PySem.W.findIn K (.ref CDisk) "writes" = some (some (.ref f_Disk_writes)))
    (i_Disk_writes : PySem.W.isFn K (.ref f_Disk_writes) = true)
    (l_Disk_writes : K.lookup f_Disk_writes = some ⟨oc_Disk_writes, od_Disk_writes, .func (PySem.W.fnOf "writes" "Disk.writes" (defArgs s_Disk_writes) (defBody s_Disk_writes) (defScope s_Disk_writes) .none kV_Disk_writes dc_Disk_writes pm_Disk_writes an_Disk_writes cd_Disk_writes ct_Disk_writes), sl_Disk_writes⟩)
    (c_Disk_writes : PySem.W.codeIn K cd_Disk_writes "Disk.writes" = true)
    (k_Disk_writes : PySem.W.keepIn K (.ref f_Disk_writes) = true)
    (a_Disk_fall_at : PySem.W.findIn K (.ref CDisk) "fall_at" = some (some (.ref f_Disk_fall_at)))
    (i_Disk_fall_at : PySem.W.isFn K (.ref f_Disk_fall_at) = true)
    (l_Disk_fall_at : K.lookup f_Disk_fall_at = some ⟨oc_Disk_fall_at, od_Disk_fall_at, .func (PySem.W.fnOf "fall_at" "Disk.fall_at" (defArgs s_Disk_fall_at) (defBody s_Disk_fall_at) (defScope s_Disk_fall_at) .none kV_Disk_fall_at dc_Disk_fall_at pm_Disk_fall_at an_Disk_fall_at cd_Disk_fall_at ct_Disk_fall_at), sl_Disk_fall_at⟩)
    (c_Disk_fall_at : PySem.W.codeIn K cd_Disk_fall_at "Disk.fall_at" = true)
    (k_Disk_fall_at : PySem.W.keepIn K (.ref f_Disk_fall_at) = true)
    (a_Disk_power : PySem.W.findIn K (.ref CDisk) "power" = some (some (.ref f_Disk_power)))
    (i_Disk_power : PySem.W.isFn K (.ref f_Disk_power) = true)
    (l_Disk_power : K.lookup f_Disk_power = some ⟨oc_Disk_power, od_Disk_power, .func (PySem.W.fnOf "power" "Disk.power" (defArgs s_Disk_power) (defBody s_Disk_power) (defScope s_Disk_power) .none kV_Disk_power dc_Disk_power pm_Disk_power an_Disk_power cd_Disk_power ct_Disk_power), sl_Disk_power⟩)
    (c_Disk_power : PySem.W.codeIn K cd_Disk_power "Disk.power" = true)
    (k_Disk_power : PySem.W.keepIn K (.ref f_Disk_power) = true)
    (a_Disk_coming : PySem.W.findIn K (.ref CDisk) "coming" = some (some (.ref f_Disk_coming)))
    (i_Disk_coming : PySem.W.isFn K (.ref f_Disk_coming) = true)
    (l_Disk_coming : K.lookup f_Disk_coming = some ⟨oc_Disk_coming, od_Disk_coming, .func (PySem.W.fnOf "coming" "Disk.coming" (defArgs s_Disk_coming) (defBody s_Disk_coming) (defScope s_Disk_coming) .none kV_Disk_coming dc_Disk_coming pm_Disk_coming an_Disk_coming cd_Disk_coming ct_Disk_coming), sl_Disk_coming⟩)
    (c_Disk_coming : PySem.W.codeIn K cd_Disk_coming "Disk.coming" = true)
    (k_Disk_coming : PySem.W.keepIn K (.ref f_Disk_coming) = true)
    (a_Disk_add_row : PySem.W.findIn K (.ref CDisk) "add_row" = some (some (.ref f_Disk_add_row)))
    (i_Disk_add_row : PySem.W.isFn K (.ref f_Disk_add_row) = true)
    (l_Disk_add_row : K.lookup f_Disk_add_row = some ⟨oc_Disk_add_row, od_Disk_add_row, .func (PySem.W.fnOf "add_row" "Disk.add_row" (defArgs s_Disk_add_row) (defBody s_Disk_add_row) (defScope s_Disk_add_row) .none kV_Disk_add_row dc_Disk_add_row pm_Disk_add_row an_Disk_add_row cd_Disk_add_row ct_Disk_add_row), sl_Disk_add_row⟩)
    (c_Disk_add_row : PySem.W.codeIn K cd_Disk_add_row "Disk.add_row" = true)
    (k_Disk_add_row : PySem.W.keepIn K (.ref f_Disk_add_row) = true)
    (a_Disk_put_page : PySem.W.findIn K (.ref CDisk) "put_page" = some (some (.ref f_Disk_put_page)))
    (i_Disk_put_page : PySem.W.isFn K (.ref f_Disk_put_page) = true)
    (l_Disk_put_page : K.lookup f_Disk_put_page = some ⟨oc_Disk_put_page, od_Disk_put_page, .func (PySem.W.fnOf "put_page" "Disk.put_page" (defArgs s_Disk_put_page) (defBody s_Disk_put_page) (defScope s_Disk_put_page) .none kV_Disk_put_page dc_Disk_put_page pm_Disk_put_page an_Disk_put_page cd_Disk_put_page ct_Disk_put_page), sl_Disk_put_page⟩)
    (c_Disk_put_page : PySem.W.codeIn K cd_Disk_put_page "Disk.put_page" = true)
    (k_Disk_put_page : PySem.W.keepIn K (.ref f_Disk_put_page) = true)
    (a_Disk_cut_to : PySem.W.findIn K (.ref CDisk) "cut_to" = some (some (.ref f_Disk_cut_to)))
    (i_Disk_cut_to : PySem.W.isFn K (.ref f_Disk_cut_to) = true)
    (l_Disk_cut_to : K.lookup f_Disk_cut_to = some ⟨oc_Disk_cut_to, od_Disk_cut_to, .func (PySem.W.fnOf "cut_to" "Disk.cut_to" (defArgs s_Disk_cut_to) (defBody s_Disk_cut_to) (defScope s_Disk_cut_to) .none kV_Disk_cut_to dc_Disk_cut_to pm_Disk_cut_to an_Disk_cut_to cd_Disk_cut_to ct_Disk_cut_to), sl_Disk_cut_to⟩)
    (c_Disk_cut_to : PySem.W.codeIn K cd_Disk_cut_to "Disk.cut_to" = true)
    (k_Disk_cut_to : PySem.W.keepIn K (.ref f_Disk_cut_to) = true)
    (a_Disk_cut_tail : PySem.W.findIn K (.ref CDisk) "cut_tail" = some (some (.ref f_Disk_cut_tail)))
    (i_Disk_cut_tail : PySem.W.isFn K (.ref f_Disk_cut_tail) = true)
    (l_Disk_cut_tail : K.lookup f_Disk_cut_tail = some ⟨oc_Disk_cut_tail, od_Disk_cut_tail, .func (PySem.W.fnOf "cut_tail" "Disk.cut_tail" (defArgs s_Disk_cut_tail) (defBody s_Disk_cut_tail) (defScope s_Disk_cut_tail) .none kV_Disk_cut_tail dc_Disk_cut_tail pm_Disk_cut_tail an_Disk_cut_tail cd_Disk_cut_tail ct_Disk_cut_tail), sl_Disk_cut_tail⟩)
    (c_Disk_cut_tail : PySem.W.codeIn K cd_Disk_cut_tail "Disk.cut_tail" = true)
    (k_Disk_cut_tail : PySem.W.keepIn K (.ref f_Disk_cut_tail) = true)
    (a_Disk_cut_head : PySem.W.findIn K (.ref CDisk) "cut_head" = some (some (.ref f_Disk_cut_head)))
    (i_Disk_cut_head : PySem.W.isFn K (.ref f_Disk_cut_head) = true)
    (l_Disk_cut_head : K.lookup f_Disk_cut_head = some ⟨oc_Disk_cut_head, od_Disk_cut_head, .func (PySem.W.fnOf "cut_head" "Disk.cut_head" (defArgs s_Disk_cut_head) (defBody s_Disk_cut_head) (defScope s_Disk_cut_head) .none kV_Disk_cut_head dc_Disk_cut_head pm_Disk_cut_head an_Disk_cut_head cd_Disk_cut_head ct_Disk_cut_head), sl_Disk_cut_head⟩)
    (c_Disk_cut_head : PySem.W.codeIn K cd_Disk_cut_head "Disk.cut_head" = true)
    (k_Disk_cut_head : PySem.W.keepIn K (.ref f_Disk_cut_head) = true)
    (a_Disk_copied : PySem.W.findIn K (.ref CDisk) "copied" = some (some (.ref f_Disk_copied)))
    (i_Disk_copied : PySem.W.isFn K (.ref f_Disk_copied) = true)
    (l_Disk_copied : K.lookup f_Disk_copied = some ⟨oc_Disk_copied, od_Disk_copied, .func (PySem.W.fnOf "copied" "Disk.copied" (defArgs s_Disk_copied) (defBody s_Disk_copied) (defScope s_Disk_copied) .none kV_Disk_copied dc_Disk_copied pm_Disk_copied an_Disk_copied cd_Disk_copied ct_Disk_copied), sl_Disk_copied⟩)
    (c_Disk_copied : PySem.W.codeIn K cd_Disk_copied "Disk.copied" = true)
    (k_Disk_copied : PySem.W.keepIn K (.ref f_Disk_copied) = true)
    (a_law_cell : PySem.W.nsIn K mainGlobals "_law_cell" = some (some (.ref f_law_cell)))
    (l_law_cell : K.lookup f_law_cell = some ⟨oc_law_cell, od_law_cell, .func (PySem.W.fnOf "_law_cell" "_law_cell" (defArgs s_law_cell) (defBody s_law_cell) (defScope s_law_cell) .none kV_law_cell dc_law_cell pm_law_cell an_law_cell cd_law_cell ct_law_cell), sl_law_cell⟩)
    (c_law_cell : PySem.W.codeIn K cd_law_cell "_law_cell" = true)
    (k_law_cell : PySem.W.keepIn K (.ref f_law_cell) = true)
    (a_law_draw : PySem.W.nsIn K mainGlobals "_law_draw" = some (some (.ref f_law_draw)))
    (l_law_draw : K.lookup f_law_draw = some ⟨oc_law_draw, od_law_draw, .func (PySem.W.fnOf "_law_draw" "_law_draw" (defArgs s_law_draw) (defBody s_law_draw) (defScope s_law_draw) .none kV_law_draw dc_law_draw pm_law_draw an_law_draw cd_law_draw ct_law_draw), sl_law_draw⟩)
    (c_law_draw : PySem.W.codeIn K cd_law_draw "_law_draw" = true)
    (k_law_draw : PySem.W.keepIn K (.ref f_law_draw) = true)
    (a_law_text : PySem.W.nsIn K mainGlobals "_law_text" = some (some (.ref f_law_text)))
    (l_law_text : K.lookup f_law_text = some ⟨oc_law_text, od_law_text, .func (PySem.W.fnOf "_law_text" "_law_text" (defArgs s_law_text) (defBody s_law_text) (defScope s_law_text) .none kV_law_text dc_law_text pm_law_text an_law_text cd_law_text ct_law_text), sl_law_text⟩)
    (c_law_text : PySem.W.codeIn K cd_law_text "_law_text" = true)
    (k_law_text : PySem.W.keepIn K (.ref f_law_text) = true)
    (a_law_deed : PySem.W.nsIn K mainGlobals "_law_deed" = some (some (.ref f_law_deed)))
    (l_law_deed : K.lookup f_law_deed = some ⟨oc_law_deed, od_law_deed, .func (PySem.W.fnOf "_law_deed" "_law_deed" (defArgs s_law_deed) (defBody s_law_deed) (defScope s_law_deed) .none kV_law_deed dc_law_deed pm_law_deed an_law_deed cd_law_deed ct_law_deed), sl_law_deed⟩)
    (c_law_deed : PySem.W.codeIn K cd_law_deed "_law_deed" = true)
    (k_law_deed : PySem.W.keepIn K (.ref f_law_deed) = true)
    (a_law_told : PySem.W.nsIn K mainGlobals "_law_told" = some (some (.ref f_law_told)))
    (l_law_told : K.lookup f_law_told = some ⟨oc_law_told, od_law_told, .func (PySem.W.fnOf "_law_told" "_law_told" (defArgs s_law_told) (defBody s_law_told) (defScope s_law_told) .none kV_law_told dc_law_told pm_law_told an_law_told cd_law_told ct_law_told), sl_law_told⟩)
    (c_law_told : PySem.W.codeIn K cd_law_told "_law_told" = true)
    (k_law_told : PySem.W.keepIn K (.ref f_law_told) = true)
    (a_law_done : PySem.W.nsIn K mainGlobals "_law_done" = some (some (.ref f_law_done)))
    (l_law_done : K.lookup f_law_done = some ⟨oc_law_done, od_law_done, .func (PySem.W.fnOf "_law_done" "_law_done" (defArgs s_law_done) (defBody s_law_done) (defScope s_law_done) .none kV_law_done dc_law_done pm_law_done an_law_done cd_law_done ct_law_done), sl_law_done⟩)
    (c_law_done : PySem.W.codeIn K cd_law_done "_law_done" = true)
    (k_law_done : PySem.W.keepIn K (.ref f_law_done) = true)
    (a_law_new : PySem.W.nsIn K mainGlobals "_law_new" = some (some (.ref f_law_new)))
    (l_law_new : K.lookup f_law_new = some ⟨oc_law_new, od_law_new, .func (PySem.W.fnOf "_law_new" "_law_new" (defArgs s_law_new) (defBody s_law_new) (defScope s_law_new) .none kV_law_new dc_law_new pm_law_new an_law_new cd_law_new ct_law_new), sl_law_new⟩)
    (c_law_new : PySem.W.codeIn K cd_law_new "_law_new" = true)
    (k_law_new : PySem.W.keepIn K (.ref f_law_new) = true)
    (a_law_stands : PySem.W.nsIn K mainGlobals "_law_stands" = some (some (.ref f_law_stands)))
    (l_law_stands : K.lookup f_law_stands = some ⟨oc_law_stands, od_law_stands, .func (PySem.W.fnOf "_law_stands" "_law_stands" (defArgs s_law_stands) (defBody s_law_stands) (defScope s_law_stands) .none kV_law_stands dc_law_stands pm_law_stands an_law_stands cd_law_stands ct_law_stands), sl_law_stands⟩)
    (c_law_stands : PySem.W.codeIn K cd_law_stands "_law_stands" = true)
    (k_law_stands : PySem.W.keepIn K (.ref f_law_stands) = true)
    (a_law_copied : PySem.W.nsIn K mainGlobals "_law_copied" = some (some (.ref f_law_copied)))
    (l_law_copied : K.lookup f_law_copied = some ⟨oc_law_copied, od_law_copied, .func (PySem.W.fnOf "_law_copied" "_law_copied" (defArgs s_law_copied) (defBody s_law_copied) (defScope s_law_copied) .none kV_law_copied dc_law_copied pm_law_copied an_law_copied cd_law_copied ct_law_copied), sl_law_copied⟩)
    (c_law_copied : PySem.W.codeIn K cd_law_copied "_law_copied" = true)
    (k_law_copied : PySem.W.keepIn K (.ref f_law_copied) = true)
    (a_law_write : PySem.W.nsIn K mainGlobals "_law_write" = some (some (.ref f_law_write)))
    (l_law_write : K.lookup f_law_write = some ⟨oc_law_write, od_law_write, .func (PySem.W.fnOf "_law_write" "_law_write" (defArgs s_law_write) (defBody s_law_write) (defScope s_law_write) .none kV_law_write dc_law_write pm_law_write an_law_write cd_law_write ct_law_write), sl_law_write⟩)
    (c_law_write : PySem.W.codeIn K cd_law_write "_law_write" = true)
    (k_law_write : PySem.W.keepIn K (.ref f_law_write) = true)
    (a_law : PySem.W.nsIn K mainGlobals "law" = some (some (.ref f_law)))
    (l_law : K.lookup f_law = some ⟨oc_law, od_law, .func (PySem.W.fnOf "law" "law" (defArgs s_law) (defBody s_law) (defScope s_law) .none kV_law dc_law pm_law an_law cd_law ct_law), sl_law⟩)
    (c_law : PySem.W.codeIn K cd_law "law" = true)
    (k_law : PySem.W.keepIn K (.ref f_law) = true)
    (xF_Fell : PySem.W.excIn K CFell [.type "ValueError", .type "Exception", .type "BaseException", .type "object"] "ValueError.__new__" = true)
    (kc_Fell : PySem.W.keepIn K (.ref CFell) = true)
    (xg_Fell : PySem.W.findIn K (.ref CFell) "__getattribute__" = some (some (.builtin "BaseException.__getattribute__")))
    (xk_Fell : PySem.W.findIn K (.ref CFell) "__getattr__" = some none)
    (xd_Fell : PySem.W.hasDictIn K CFell = true)
    (xa_Fell : PySem.W.findIn K (.ref CFell) "__class__" = some (some (.builtin "object.__class__")))
    (xm_Fell : PySem.W.mroIn K CFell (.type "object") = some true)
    (sb_Fell : PySem.W.subIn K (.ref CFell) (.type "BaseException") = some true)
    (cb_Fell : PySem.W.isClsIn K CFell = true)
    (tb_Fell : PySem.W.typeIn K (.ref CFell) = some (.type "type"))
    (sb_StoreError : PySem.W.subIn K (.ref CStoreError) (.type "BaseException") = some true)
    (cb_StoreError : PySem.W.isClsIn K CStoreError = true)
    (tb_StoreError : PySem.W.typeIn K (.ref CStoreError) = some (.type "type"))
    (sb_TooMany : PySem.W.subIn K (.ref CTooMany) (.type "BaseException") = some true)
    (cb_TooMany : PySem.W.isClsIn K CTooMany = true)
    (tb_TooMany : PySem.W.typeIn K (.ref CTooMany) = some (.type "type"))
    (sb_NoTable : PySem.W.subIn K (.ref CNoTable) (.type "BaseException") = some true)
    (cb_NoTable : PySem.W.isClsIn K CNoTable = true)
    (tb_NoTable : PySem.W.typeIn K (.ref CNoTable) = some (.type "type"))
    (xn : PySem.W.specialIn K (.builtin "object.__class__") "__get__" = some (some (.builtin "getset_descriptor.__get__")))
    (xt : PySem.W.takesIn K (.builtin "object.__class__") = some true)
    (sub_Fell_StoreError : PySem.W.subIn K (.ref CFell) (.ref CStoreError) = some true)
    (sub_Fell_TooMany : PySem.W.subIn K (.ref CFell) (.ref CTooMany) = some false)
    (sub_Fell_NoTable : PySem.W.subIn K (.ref CFell) (.ref CNoTable) = some false)
    (sub_TooMany_TooMany : PySem.W.subIn K (.ref CTooMany) (.ref CTooMany) = some true)
    (sub_NoTable_NoTable : PySem.W.subIn K (.ref CNoTable) (.ref CNoTable) = some true)
    (z_int : PySem.W.nsIn K mainGlobals "int" = some none)
    (z_isinstance : PySem.W.nsIn K mainGlobals "isinstance" = some none)
    (z_len : PySem.W.nsIn K mainGlobals "len" = some none)
    (z_list : PySem.W.nsIn K mainGlobals "list" = some none)
    (z_max : PySem.W.nsIn K mainGlobals "max" = some none)
    (z_min : PySem.W.nsIn K mainGlobals "min" = some none)
    (z_range : PySem.W.nsIn K mainGlobals "range" = some none)
    (z_repr : PySem.W.nsIn K mainGlobals "repr" = some none)
    (z_str : PySem.W.nsIn K mainGlobals "str" = some none)
    (u_MOST_SLOTS : PySem.W.nsIn K mainGlobals "MOST_SLOTS" = some (some (.int (8) t_MOST_SLOTS)))
    : ∃ fd : FuncData, (∀ (s : Shared) (v : Value), BindsTo s fd ⟨[v], []⟩ [("_law_script", v)]) ∧ ∀ base : Heap, K.In base → base.Ns mainGlobals mg → FnOk l.prog w K mg base CX0 6 fa fd ["_law_script"] (spLaw K) := by
  have e := hfa.symm.trans (PySem.W.mg_of X G a_law)
  cases e
  have T : Txt K mg { Disk := CDisk, StoreError := CStoreError, TooMany := CTooMany, Fell := CFell, NoTable := CNoTable, f_Disk___init__ := f_Disk___init__, f_Disk_log_rows := f_Disk_log_rows, f_Disk_page := f_Disk_page, f_Disk_writes := f_Disk_writes, f_Disk_fall_at := f_Disk_fall_at, f_Disk_power := f_Disk_power, f_Disk_coming := f_Disk_coming, f_Disk_add_row := f_Disk_add_row, f_Disk_put_page := f_Disk_put_page, f_Disk_cut_to := f_Disk_cut_to, f_Disk_cut_tail := f_Disk_cut_tail, f_Disk_cut_head := f_Disk_cut_head, f_Disk_copied := f_Disk_copied, f_law_cell := f_law_cell, f_law_draw := f_law_draw, f_law_text := f_law_text, f_law_deed := f_law_deed, f_law_told := f_law_told, f_law_done := f_law_done, f_law_new := f_law_new, f_law_stands := f_law_stands, f_law_copied := f_law_copied, f_law_write := f_law_write, f_law := fa } := { c_Disk := ⟨pg_Disk, hd_Disk, po_Disk, sa_Disk⟩, g_Disk := PySem.W.mg_of X G a_Disk, n_Disk_held_rows := n_Disk_held_rows, n_Disk_held_pages := n_Disk_held_pages, n_Disk_many_writes := n_Disk_many_writes, n_Disk_due := n_Disk_due, n_Disk_is_down := n_Disk_is_down, g_StoreError := PySem.W.mg_of X G a_StoreError, g_TooMany := PySem.W.mg_of X G a_TooMany, g_Fell := PySem.W.mg_of X G a_Fell, g_NoTable := PySem.W.mg_of X G a_NoTable, d_Disk___init__ := ⟨_, fun_mk (st := s_Disk___init__) l_Disk___init__ c_Disk___init__ k_Disk___init__, (fun_mk (st := s_Disk___init__) l_Disk___init__ c_Disk___init__ k_Disk___init__).binds (ps := ["self"]) fun _ _ _ _ _ _ us hl => match us, hl with | [_], _ => rfl⟩, mk_Disk := ⟨mk_Disk, a_Disk___init__, i_Disk___init__, kc_Disk⟩, d_Disk_log_rows := ⟨_, fun_mk (st := s_Disk_log_rows) l_Disk_log_rows c_Disk_log_rows k_Disk_log_rows, (fun_mk (st := s_Disk_log_rows) l_Disk_log_rows c_Disk_log_rows k_Disk_log_rows).binds (ps := ["self"]) fun _ _ _ _ _ _ us hl => match us, hl with | [_], _ => rfl⟩, m_Disk_log_rows := ⟨a_Disk_log_rows, i_Disk_log_rows, k_Disk_log_rows⟩, d_Disk_page := ⟨_, fun_mk (st := s_Disk_page) l_Disk_page c_Disk_page k_Disk_page, (fun_mk (st := s_Disk_page) l_Disk_page c_Disk_page k_Disk_page).binds (ps := ["self", "slot"]) fun _ _ _ _ _ _ us hl => match us, hl with | [_, _], _ => rfl⟩, m_Disk_page := ⟨a_Disk_page, i_Disk_page, k_Disk_page⟩, d_Disk_writes := ⟨_, fun_mk (st := s_Disk_writes) l_Disk_writes c_Disk_writes k_Disk_writes, (fun_mk (st := s_Disk_writes) l_Disk_writes c_Disk_writes k_Disk_writes).binds (ps := ["self"]) fun _ _ _ _ _ _ us hl => match us, hl with | [_], _ => rfl⟩, m_Disk_writes := ⟨a_Disk_writes, i_Disk_writes, k_Disk_writes⟩, d_Disk_fall_at := ⟨_, fun_mk (st := s_Disk_fall_at) l_Disk_fall_at c_Disk_fall_at k_Disk_fall_at, (fun_mk (st := s_Disk_fall_at) l_Disk_fall_at c_Disk_fall_at k_Disk_fall_at).binds (ps := ["self", "after", "signs"]) fun _ _ _ _ _ _ us hl => match us, hl with | [_, _, _], _ => rfl⟩, m_Disk_fall_at := ⟨a_Disk_fall_at, i_Disk_fall_at, k_Disk_fall_at⟩, d_Disk_power := ⟨_, fun_mk (st := s_Disk_power) l_Disk_power c_Disk_power k_Disk_power, (fun_mk (st := s_Disk_power) l_Disk_power c_Disk_power k_Disk_power).binds (ps := ["self"]) fun _ _ _ _ _ _ us hl => match us, hl with | [_], _ => rfl⟩, m_Disk_power := ⟨a_Disk_power, i_Disk_power, k_Disk_power⟩, d_Disk_coming := ⟨_, fun_mk (st := s_Disk_coming) l_Disk_coming c_Disk_coming k_Disk_coming, (fun_mk (st := s_Disk_coming) l_Disk_coming c_Disk_coming k_Disk_coming).binds (ps := ["self"]) fun _ _ _ _ _ _ us hl => match us, hl with | [_], _ => rfl⟩, m_Disk_coming := ⟨a_Disk_coming, i_Disk_coming, k_Disk_coming⟩, d_Disk_add_row := ⟨_, fun_mk (st := s_Disk_add_row) l_Disk_add_row c_Disk_add_row k_Disk_add_row, (fun_mk (st := s_Disk_add_row) l_Disk_add_row c_Disk_add_row k_Disk_add_row).binds (ps := ["self", "text"]) fun _ _ _ _ _ _ us hl => match us, hl with | [_, _], _ => rfl⟩, m_Disk_add_row := ⟨a_Disk_add_row, i_Disk_add_row, k_Disk_add_row⟩, d_Disk_put_page := ⟨_, fun_mk (st := s_Disk_put_page) l_Disk_put_page c_Disk_put_page k_Disk_put_page, (fun_mk (st := s_Disk_put_page) l_Disk_put_page c_Disk_put_page k_Disk_put_page).binds (ps := ["self", "slot", "text"]) fun _ _ _ _ _ _ us hl => match us, hl with | [_, _, _], _ => rfl⟩, m_Disk_put_page := ⟨a_Disk_put_page, i_Disk_put_page, k_Disk_put_page⟩, d_Disk_cut_to := ⟨_, fun_mk (st := s_Disk_cut_to) l_Disk_cut_to c_Disk_cut_to k_Disk_cut_to, (fun_mk (st := s_Disk_cut_to) l_Disk_cut_to c_Disk_cut_to k_Disk_cut_to).binds (ps := ["self", "rows"]) fun _ _ _ _ _ _ us hl => match us, hl with | [_, _], _ => rfl⟩, m_Disk_cut_to := ⟨a_Disk_cut_to, i_Disk_cut_to, k_Disk_cut_to⟩, d_Disk_cut_tail := ⟨_, fun_mk (st := s_Disk_cut_tail) l_Disk_cut_tail c_Disk_cut_tail k_Disk_cut_tail, (fun_mk (st := s_Disk_cut_tail) l_Disk_cut_tail c_Disk_cut_tail k_Disk_cut_tail).binds (ps := ["self", "many"]) fun _ _ _ _ _ _ us hl => match us, hl with | [_, _], _ => rfl⟩, m_Disk_cut_tail := ⟨a_Disk_cut_tail, i_Disk_cut_tail, k_Disk_cut_tail⟩, d_Disk_cut_head := ⟨_, fun_mk (st := s_Disk_cut_head) l_Disk_cut_head c_Disk_cut_head k_Disk_cut_head, (fun_mk (st := s_Disk_cut_head) l_Disk_cut_head c_Disk_cut_head k_Disk_cut_head).binds (ps := ["self", "many"]) fun _ _ _ _ _ _ us hl => match us, hl with | [_, _], _ => rfl⟩, m_Disk_cut_head := ⟨a_Disk_cut_head, i_Disk_cut_head, k_Disk_cut_head⟩, d_Disk_copied := ⟨_, fun_mk (st := s_Disk_copied) l_Disk_copied c_Disk_copied k_Disk_copied, (fun_mk (st := s_Disk_copied) l_Disk_copied c_Disk_copied k_Disk_copied).binds (ps := ["self"]) fun _ _ _ _ _ _ us hl => match us, hl with | [_], _ => rfl⟩, m_Disk_copied := ⟨a_Disk_copied, i_Disk_copied, k_Disk_copied⟩, d_law_cell := ⟨_, fun_mk (st := s_law_cell) l_law_cell c_law_cell k_law_cell, (fun_mk (st := s_law_cell) l_law_cell c_law_cell k_law_cell).binds (ps := ["_law_script", "_law_k"]) fun _ _ _ _ _ _ us hl => match us, hl with | [_, _], _ => rfl⟩, g_law_cell := PySem.W.mg_of X G a_law_cell, d_law_draw := ⟨_, fun_mk (st := s_law_draw) l_law_draw c_law_draw k_law_draw, (fun_mk (st := s_law_draw) l_law_draw c_law_draw k_law_draw).binds (ps := ["_law_cell_here", "_law_k"]) fun _ _ _ _ _ _ us hl => match us, hl with | [_, _], _ => rfl⟩, g_law_draw := PySem.W.mg_of X G a_law_draw, d_law_text := ⟨_, fun_mk (st := s_law_text) l_law_text c_law_text k_law_text, (fun_mk (st := s_law_text) l_law_text c_law_text k_law_text).binds (ps := ["_law_cell_here", "_law_at"]) fun _ _ _ _ _ _ us hl => match us, hl with | [_, _], _ => rfl⟩, g_law_text := PySem.W.mg_of X G a_law_text, d_law_deed := ⟨_, fun_mk (st := s_law_deed) l_law_deed c_law_deed k_law_deed, (fun_mk (st := s_law_deed) l_law_deed c_law_deed k_law_deed).binds (ps := ["_law_cell_here"]) fun _ _ _ _ _ _ us hl => match us, hl with | [_], _ => rfl⟩, g_law_deed := PySem.W.mg_of X G a_law_deed, d_law_told := ⟨_, fun_mk (st := s_law_told) l_law_told c_law_told k_law_told, (fun_mk (st := s_law_told) l_law_told c_law_told k_law_told).binds (ps := ["_law_disk", "_law_deed_here"]) fun _ _ _ _ _ _ us hl => match us, hl with | [_, _], _ => rfl⟩, g_law_told := PySem.W.mg_of X G a_law_told, d_law_done := ⟨_, fun_mk (st := s_law_done) l_law_done c_law_done k_law_done, (fun_mk (st := s_law_done) l_law_done c_law_done k_law_done).binds (ps := ["_law_model", "_law_deed_here", "_law_signs"]) fun _ _ _ _ _ _ us hl => match us, hl with | [_, _, _], _ => rfl⟩, g_law_done := PySem.W.mg_of X G a_law_done, d_law_new := ⟨_, fun_mk (st := s_law_new) l_law_new c_law_new k_law_new, (fun_mk (st := s_law_new) l_law_new c_law_new k_law_new).binds (ps := []) fun _ _ _ _ _ _ us hl => match us, hl with | [], _ => rfl⟩, g_law_new := PySem.W.mg_of X G a_law_new, d_law_stands := ⟨_, fun_mk (st := s_law_stands) l_law_stands c_law_stands k_law_stands, (fun_mk (st := s_law_stands) l_law_stands c_law_stands k_law_stands).binds (ps := ["_law_disk", "_law_model"]) fun _ _ _ _ _ _ us hl => match us, hl with | [_, _], _ => rfl⟩, g_law_stands := PySem.W.mg_of X G a_law_stands, d_law_copied := ⟨_, fun_mk (st := s_law_copied) l_law_copied c_law_copied k_law_copied, (fun_mk (st := s_law_copied) l_law_copied c_law_copied k_law_copied).binds (ps := ["_law_model"]) fun _ _ _ _ _ _ us hl => match us, hl with | [_], _ => rfl⟩, g_law_copied := PySem.W.mg_of X G a_law_copied, d_law_write := ⟨_, fun_mk (st := s_law_write) l_law_write c_law_write k_law_write, (fun_mk (st := s_law_write) l_law_write c_law_write k_law_write).binds (ps := ["_law_disk", "_law_model", "_law_deed_here"]) fun _ _ _ _ _ _ us hl => match us, hl with | [_, _, _], _ => rfl⟩, g_law_write := PySem.W.mg_of X G a_law_write, d_law := ⟨_, fun_mk (st := s_law) l_law c_law k_law, (fun_mk (st := s_law) l_law c_law k_law).binds (ps := ["_law_script"]) fun _ _ _ _ _ _ us hl => match us, hl with | [_], _ => rfl⟩, g_law := PySem.W.mg_of X G a_law, xF_Fell := xF_Fell, kc_Fell := kc_Fell, xg_Fell := xg_Fell, xk_Fell := xk_Fell, xd_Fell := xd_Fell, xa_Fell := xa_Fell, xm_Fell := xm_Fell, sb_Fell := sb_Fell, cb_Fell := cb_Fell, tb_Fell := tb_Fell, sb_StoreError := sb_StoreError, cb_StoreError := cb_StoreError, tb_StoreError := tb_StoreError, sb_TooMany := sb_TooMany, cb_TooMany := cb_TooMany, tb_TooMany := tb_TooMany, sb_NoTable := sb_NoTable, cb_NoTable := cb_NoTable, tb_NoTable := tb_NoTable, xn := xn, xt := xt, sub_Fell_StoreError := sub_Fell_StoreError, sub_Fell_TooMany := sub_Fell_TooMany, sub_Fell_NoTable := sub_Fell_NoTable, sub_TooMany_TooMany := sub_TooMany_TooMany, sub_NoTable_NoTable := sub_NoTable_NoTable, b_int := PySem.W.mg_none_of X G z_int, b_isinstance := PySem.W.mg_none_of X G z_isinstance, b_len := PySem.W.mg_none_of X G z_len, b_list := PySem.W.mg_none_of X G z_list, b_max := PySem.W.mg_none_of X G z_max, b_min := PySem.W.mg_none_of X G z_min, b_range := PySem.W.mg_none_of X G z_range, b_repr := PySem.W.mg_none_of X G z_repr, b_str := PySem.W.mg_none_of X G z_str, v_MOST_SLOTS := ⟨t_MOST_SLOTS, PySem.W.mg_of X G u_MOST_SLOTS⟩ }
  exact ⟨_, fun s v => .of_eq rfl, fun base _ _ => ok_law (fun_mk (st := s_law) l_law c_law k_law) T⟩
theorem walk {l : PySem.W.OpenLaw} {q : Program} {loose : List Str} {XP : (Str → Option Value) → Heap → Prop} {YP : World → Heap → Prop} {d : DefRec} {K : Params → PySem.W.Frag} (hn : l.most = some 63) (hdf : d.params.defaults = [])
    (hY : ∀ (w : World) (h : Heap), YP w h → (K w.params).In h)
    (F : ∀ (w : World) (mg : Str → Option Value) (fa : Addr) (h : Heap), (K w.params).In h → h.Ns mainGlobals mg → mg d.name = some (.ref fa) →
      ∃ fd : FuncData, (∀ (s : Shared) (u : Value), BindsTo s fd ⟨[u], []⟩ [("_law_script", u)]) ∧ ∀ base : Heap, (K w.params).In base → base.Ns mainGlobals mg → FnOk l.prog w (K w.params) mg base CX0 6 fa fd ["_law_script"] (spLaw (K w.params))) :
    PySem.W.WalkO q loose XP YP l.row.toRowW d [] (fun f vs => PySem.call f vs) :=
  L2.walk_of (n := 63) (k := 6) (x := "_law_script") (CX := fun _ => CX0) (sp := fun w => spLaw (K w.params)) hn (by decide) hdf ⟨rfl, by decide, by decide⟩ hY F (fun _ _ a ns hl _ hS => ⟨a, ns, rfl, hS, hl, fun _ => rfl⟩) fun _ _ _ _ _ z => z
end Toy
open PySem PySem.W PyProof.Rows in
set_option maxRecDepth 100000 in
set_option maxHeartbeats 0 in
theorem PySem.Challenge.cw_planstore_k19_falls_holds : PySem.Challenge.rw_planstore_k19_falls.Holds := by
  w_on; o_law; k_head; (case hw => w_witness2)
  k_fill
  refine Toy.walk (l := PySem.Challenge.rw_planstore_k19_falls) rfl rfl (fun w h Y => PySem.W.kIn_of Y) ?F
  case F =>
    intro w mg fa h KX G hmg
    refine' Toy.all_mk KX G hmg ?a_Disk ?pg_Disk ?hd_Disk ?po_Disk ?sa_Disk ?mk_Disk ?kc_Disk ?n_Disk_held_rows ?n_Disk_held_pages ?n_Disk_many_writes ?n_Disk_due ?n_Disk_is_down ?a_StoreError ?a_TooMany ?a_Fell ?a_NoTable ?a_Disk___init__ ?i_Disk___init__ ?l_Disk___init__ ?c_Disk___init__ ?k_Disk___init__ ?a_Disk_log_rows ?i_Disk_log_rows ?l_Disk_log_rows ?c_Disk_log_rows ?k_Disk_log_rows ?a_Disk_page ?i_Disk_page ?l_Disk_page ?c_Disk_page ?k_Disk_page ?a_Disk_writes ?i_Disk_writes ?l_Disk_writes ?c_Disk_writes ?k_Disk_writes ?a_Disk_fall_at ?i_Disk_fall_at ?l_Disk_fall_at ?c_Disk_fall_at ?k_Disk_fall_at ?a_Disk_power ?i_Disk_power ?l_Disk_power ?c_Disk_power ?k_Disk_power ?a_Disk_coming ?i_Disk_coming ?l_Disk_coming ?c_Disk_coming ?k_Disk_coming ?a_Disk_add_row ?i_Disk_add_row ?l_Disk_add_row ?c_Disk_add_row ?k_Disk_add_row ?a_Disk_put_page ?i_Disk_put_page ?l_Disk_put_page ?c_Disk_put_page ?k_Disk_put_page ?a_Disk_cut_to ?i_Disk_cut_to ?l_Disk_cut_to ?c_Disk_cut_to ?k_Disk_cut_to ?a_Disk_cut_tail ?i_Disk_cut_tail ?l_Disk_cut_tail ?c_Disk_cut_tail ?k_Disk_cut_tail ?a_Disk_cut_head ?i_Disk_cut_head ?l_Disk_cut_head ?c_Disk_cut_head ?k_Disk_cut_head ?a_Disk_copied ?i_Disk_copied ?l_Disk_copied ?c_Disk_copied ?k_Disk_copied ?a_law_cell ?l_law_cell ?c_law_cell ?k_law_cell ?a_law_draw ?l_law_draw ?c_law_draw ?k_law_draw ?a_law_text ?l_law_text ?c_law_text ?k_law_text ?a_law_deed ?l_law_deed ?c_law_deed ?k_law_deed ?a_law_told ?l_law_told ?c_law_told ?k_law_told ?a_law_done ?l_law_done ?c_law_done ?k_law_done ?a_law_new ?l_law_new ?c_law_new ?k_law_new ?a_law_stands ?l_law_stands ?c_law_stands ?k_law_stands ?a_law_copied ?l_law_copied ?c_law_copied ?k_law_copied ?a_law_write ?l_law_write ?c_law_write ?k_law_write ?a_law ?l_law ?c_law ?k_law ?xF_Fell ?kc_Fell ?xg_Fell ?xk_Fell ?xd_Fell ?xa_Fell ?xm_Fell ?sb_Fell ?cb_Fell ?tb_Fell ?sb_StoreError ?cb_StoreError ?tb_StoreError ?sb_TooMany ?cb_TooMany ?tb_TooMany ?sb_NoTable ?cb_NoTable ?tb_NoTable ?xn ?xt ?sub_Fell_StoreError ?sub_Fell_TooMany ?sub_Fell_NoTable ?sub_TooMany_TooMany ?sub_NoTable_NoTable ?z_int ?z_isinstance ?z_len ?z_list ?z_max ?z_min ?z_range ?z_repr ?z_str ?u_MOST_SLOTS
    (case a_Disk => k_is)
    (case pg_Disk => k_is)
    (case hd_Disk => k_is)
    (case po_Disk => k_is)
    (case sa_Disk => k_is)
    (case mk_Disk => k_is)
    (case kc_Disk => k_is)
    (case n_Disk_held_rows => k_is)
    (case n_Disk_held_pages => k_is)
    (case n_Disk_many_writes => k_is)
    (case n_Disk_due => k_is)
    (case n_Disk_is_down => k_is)
    (case a_StoreError => k_is)
    (case a_TooMany => k_is)
    (case a_Fell => k_is)
    (case a_NoTable => k_is)
    (case a_Disk___init__ => k_is)
    (case i_Disk___init__ => k_is)
    (case l_Disk___init__ => k_is)
    (case c_Disk___init__ => k_is)
    (case k_Disk___init__ => k_is)
    (case a_Disk_log_rows => k_is)
    (case i_Disk_log_rows => k_is)
    (case l_Disk_log_rows => k_is)
    (case c_Disk_log_rows => k_is)
    (case k_Disk_log_rows => k_is)
    (case a_Disk_page => k_is)
    (case i_Disk_page => k_is)
    (case l_Disk_page => k_is)
    (case c_Disk_page => k_is)
    (case k_Disk_page => k_is)
    (case a_Disk_writes => k_is)
    (case i_Disk_writes => k_is)
    (case l_Disk_writes => k_is)
    (case c_Disk_writes => k_is)
    (case k_Disk_writes => k_is)
    (case a_Disk_fall_at => k_is)
    (case i_Disk_fall_at => k_is)
    (case l_Disk_fall_at => k_is)
    (case c_Disk_fall_at => k_is)
    (case k_Disk_fall_at => k_is)
    (case a_Disk_power => k_is)
    (case i_Disk_power => k_is)
    (case l_Disk_power => k_is)
    (case c_Disk_power => k_is)
    (case k_Disk_power => k_is)
    (case a_Disk_coming => k_is)
    (case i_Disk_coming => k_is)
    (case l_Disk_coming => k_is)
    (case c_Disk_coming => k_is)
    (case k_Disk_coming => k_is)
    (case a_Disk_add_row => k_is)
    (case i_Disk_add_row => k_is)
    (case l_Disk_add_row => k_is)
    (case c_Disk_add_row => k_is)
    (case k_Disk_add_row => k_is)
    (case a_Disk_put_page => k_is)
    (case i_Disk_put_page => k_is)
    (case l_Disk_put_page => k_is)
    (case c_Disk_put_page => k_is)
    (case k_Disk_put_page => k_is)
    (case a_Disk_cut_to => k_is)
    (case i_Disk_cut_to => k_is)
    (case l_Disk_cut_to => k_is)
    (case c_Disk_cut_to => k_is)
    (case k_Disk_cut_to => k_is)
    (case a_Disk_cut_tail => k_is)
    (case i_Disk_cut_tail => k_is)
    (case l_Disk_cut_tail => k_is)
    (case c_Disk_cut_tail => k_is)
    (case k_Disk_cut_tail => k_is)
    (case a_Disk_cut_head => k_is)
    (case i_Disk_cut_head => k_is)
    (case l_Disk_cut_head => k_is)
    (case c_Disk_cut_head => k_is)
    (case k_Disk_cut_head => k_is)
    (case a_Disk_copied => k_is)
    (case i_Disk_copied => k_is)
    (case l_Disk_copied => k_is)
    (case c_Disk_copied => k_is)
    (case k_Disk_copied => k_is)
    (case a_law_cell => k_is)
    (case l_law_cell => k_is)
    (case c_law_cell => k_is)
    (case k_law_cell => k_is)
    (case a_law_draw => k_is)
    (case l_law_draw => k_is)
    (case c_law_draw => k_is)
    (case k_law_draw => k_is)
    (case a_law_text => k_is)
    (case l_law_text => k_is)
    (case c_law_text => k_is)
    (case k_law_text => k_is)
    (case a_law_deed => k_is)
    (case l_law_deed => k_is)
    (case c_law_deed => k_is)
    (case k_law_deed => k_is)
    (case a_law_told => k_is)
    (case l_law_told => k_is)
    (case c_law_told => k_is)
    (case k_law_told => k_is)
    (case a_law_done => k_is)
    (case l_law_done => k_is)
    (case c_law_done => k_is)
    (case k_law_done => k_is)
    (case a_law_new => k_is)
    (case l_law_new => k_is)
    (case c_law_new => k_is)
    (case k_law_new => k_is)
    (case a_law_stands => k_is)
    (case l_law_stands => k_is)
    (case c_law_stands => k_is)
    (case k_law_stands => k_is)
    (case a_law_copied => k_is)
    (case l_law_copied => k_is)
    (case c_law_copied => k_is)
    (case k_law_copied => k_is)
    (case a_law_write => k_is)
    (case l_law_write => k_is)
    (case c_law_write => k_is)
    (case k_law_write => k_is)
    (case a_law => k_is)
    (case l_law => k_is)
    (case c_law => k_is)
    (case k_law => k_is)
    (case xF_Fell => k_exc)
    (case kc_Fell => k_is)
    (case xg_Fell => k_is)
    (case xk_Fell => k_is)
    (case xd_Fell => k_is)
    (case xa_Fell => k_is)
    (case xm_Fell => k_is)
    (case sb_Fell => k_is)
    (case cb_Fell => k_is)
    (case tb_Fell => k_is)
    (case sb_StoreError => k_is)
    (case cb_StoreError => k_is)
    (case tb_StoreError => k_is)
    (case sb_TooMany => k_is)
    (case cb_TooMany => k_is)
    (case tb_TooMany => k_is)
    (case sb_NoTable => k_is)
    (case cb_NoTable => k_is)
    (case tb_NoTable => k_is)
    (case xn => k_is)
    (case xt => k_is)
    (case sub_Fell_StoreError => k_is)
    (case sub_Fell_TooMany => k_is)
    (case sub_Fell_NoTable => k_is)
    (case sub_TooMany_TooMany => k_is)
    (case sub_NoTable_NoTable => k_is)
    (case z_int => k_is)
    (case z_isinstance => k_is)
    (case z_len => k_is)
    (case z_list => k_is)
    (case z_max => k_is)
    (case z_min => k_is)
    (case z_range => k_is)
    (case z_repr => k_is)
    (case z_str => k_is)
    (case u_MOST_SLOTS => k_is)
