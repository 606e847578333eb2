import PyProof.Rows.All
import Wide.All
import OpenK.AllK
import Wide.FinOn
import HandS.ForMost
import HandS.WideBits
import HandS.RaiseMore
import HandS.IsInst
import HandS.TryOnly
import HandS.Exc
import HandS.Evl
import HandS.TupLe
import HandS.TupAny
import HandS.Walk
import HandS.Deep
import HandS.ListItems
import HandS.Conv
import HandS.Defaults
import HandS.Zip
import HandS.More
import HandS.ExcOwn
import HandS.ExcIs
import HandS.WordsExc
import HandS.ExcInit
import HandS.ExcField
import HandS.TryMany
import HandS.ExcValue
import KE.KExcIs
import HandS.Text
import HandS.StrSplit
import PySem.Challenge.RW_planstore_k24_newest_and_late
set_option Elab.async false
set_option linter.all false
set_option maxRecDepth 100000
set_option maxHeartbeats 40000000
/-! ### the state of a def: blocks of objects that are ours, over a frame that stands still -/
namespace Z
open PySem L2
structure Hs (L : List (Addr × HO)) (F H : Hp) : Prop where
  nd : (L.map (·.1)).Nodup
  own : ∀ p o, (p, o) ∈ L → H p = some o ∧ F p = none
  fr : ∀ b o, F b = some o → H b = some o
/-- every cell of the block stands -/
def Sees (b : List (Addr × HO)) (H : Hp) : Prop := ∀ p o, (p, o) ∈ b → H p = some o
theorem Sees.same {b : List (Addr × HO)} {H H' : Hp} (s : Sees b H) (e : Same H H') : Sees b H' := fun p o m => e p o (s p o m)
theorem Sees.at {b : List (Addr × HO)} {H : Hp} (s : Sees b H) (i : Nat) {p : Addr} {o : HO} (h : b[i]? = some (p, o)) : H p = some o := s p o (List.mem_of_getElem? h)
section
variable {L L1 L2 : List (Addr × HO)} {F H H' : Hp} {p : Addr} {o o' : HO}
theorem Hs.same (S : Hs L F H) : Same F H := S.fr
theorem Hs.sees (S : Hs L F H) : Sees L H := fun p o m => (S.own p o m).1
theorem Hs.at (S : Hs L F H) (i : Nat) (h : L[i]? = some (p, o)) : H p = some o := S.sees.at i h
theorem Hs.nil : Hs [] H H := ⟨List.nodup_nil, fun _ _ m => (nomatch m), fun _ _ e => e⟩
theorem Hs.ext (S : Hs L F H) (e : Same H H') : Hs L F H' := ⟨S.nd, fun p o m => ⟨e p o (S.own p o m).1, (S.own p o m).2⟩, fun b o q => e b o (S.fr b o q)⟩
theorem Hs.fresh (S : Hs L F H) (hp : H p = none) : p ∉ L.map (·.1) ∧ F p = none := by
  refine ⟨fun m => ?_, ?_⟩
  · obtain ⟨⟨q, u⟩, m, e⟩ := List.mem_map.mp m
    have h := (S.own q u m).1
    have e' : q = p := e
    rw [e', hp] at h
    cases h
  · cases h : F p with
    | none => rfl
    | some u => rw [S.fr p u h] at hp; cases hp
theorem same_new (hp : H p = none) : Same H (upd H p o) := fun b u e => by rw [upd_ne (ne_of_none e hp)]; exact e
theorem Hs.add (S : Hs L F H) (e : Same H H') (hp : H p = none) (h : H' p = some o) : Hs ((p, o) :: L) F H' := by
  obtain ⟨h1, h2⟩ := S.fresh hp
  refine ⟨List.nodup_cons.mpr ⟨h1, S.nd⟩, fun q u m => ?_, fun b u q => e b u (S.fr b u q)⟩
  rcases List.mem_cons.mp m with m | m
  · cases m
    exact ⟨h, h2⟩
  · exact ⟨e q u (S.own q u m).1, (S.own q u m).2⟩
theorem Hs.new (S : Hs L F H) (hp : H p = none) : Hs ((p, o) :: L) F (upd H p o) := S.add (same_new hp) hp upd_same
theorem Hs.head (S : Hs ((p, o) :: L) F H) (o' : HO) : Hs ((p, o') :: L) F (upd H p o') := by
  have nd := S.nd
  rw [List.map_cons, List.nodup_cons] at nd
  refine ⟨by rw [List.map_cons, List.nodup_cons]; exact nd, fun q u m => ?_, fun b u q => ?_⟩
  · rcases List.mem_cons.mp m with m | m
    · cases m
      exact ⟨upd_same, (S.own p o List.mem_cons_self).2⟩
    · have hne : q ≠ p := fun e => nd.1 (List.mem_map.mpr ⟨(q, u), m, e⟩)
      have h := S.own q u (List.mem_cons_of_mem _ m)
      exact ⟨by rw [upd_ne hne]; exact h.1, h.2⟩
  · have hne : b ≠ p := fun e => by
      have := (S.own p o List.mem_cons_self).2
      rw [e, this] at q
      cases q
    rw [upd_ne hne]
    exact S.fr b u q
theorem Hs.perm (S : Hs L F H) (e : L.Perm L1) : Hs L1 F H := ⟨(e.map _).nodup_iff.mp S.nd, fun p o m => S.own p o (e.mem_iff.mpr m), S.fr⟩
theorem set_perm : ∀ {L : List (Addr × HO)} {i : Nat} {x : Addr × HO}, L[i]? = some x → ∀ y, (L.set i y).Perm (y :: L.eraseIdx i)
  | [], i, x, h, y => by simp at h
  | a :: r, 0, x, h, y => List.Perm.refl _
  | a :: r, i + 1, x, h, y => by
    have ih := set_perm (L := r) (i := i) (x := x) (by simpa using h) y
    exact (List.Perm.cons a ih).trans (List.Perm.swap _ _ _)
theorem self_perm {L : List (Addr × HO)} {i : Nat} {x : Addr × HO} (h : L[i]? = some x) : L.Perm (x :: L.eraseIdx i) := by
  have e := set_perm h x
  have : L.set i x = L := by
    obtain ⟨h1, h2⟩ := List.getElem?_eq_some_iff.mp h
    rw [← h2]
    exact List.set_getElem_self h1
  rw [this] at e
  exact e
theorem Hs.set (S : Hs L F H) (i : Nat) (h : L[i]? = some (p, o)) (o' : HO) : Hs (L.set i (p, o')) F (upd H p o') :=
  ((S.perm (self_perm h)).head o').perm (set_perm h (p, o')).symm
theorem Hs.sub (S : Hs L F H) (e : L1.Sublist L) : Hs L1 F H := ⟨(e.map _).nodup S.nd, fun p o m => S.own p o (e.subset m), S.fr⟩
/-- some cells, by their places, in any order -/
theorem Hs.pick (S : Hs L F H) : ∀ (is : List Nat) {L' : List (Addr × HO)}, is.Nodup → is.map (fun i => L[i]?) = L'.map some → Hs L' F H
  | is, L', hn, h => by
    have mem : ∀ x ∈ L', ∃ i ∈ is, L[i]? = some x := fun x hx => by
      have : some x ∈ is.map (fun i => L[i]?) := by rw [h]; exact List.mem_map.mpr ⟨x, hx, rfl⟩
      obtain ⟨i, hi, e⟩ := List.mem_map.mp this
      exact ⟨i, hi, e⟩
    refine ⟨?_, fun p o m => ?_, S.fr⟩
    · clear mem
      induction is generalizing L' with
      | nil =>
        cases L' with
        | nil => exact List.nodup_nil
        | cons a r => cases h
      | cons i is ih =>
        cases L' with
        | nil => cases h
        | cons a r =>
          rw [List.map_cons, List.map_cons, List.cons.injEq] at h
          obtain ⟨h1, h2⟩ := h
          rw [List.nodup_cons] at hn
          rw [List.map_cons, List.nodup_cons]
          refine ⟨fun m => ?_, ih r hn.2 h2⟩
          obtain ⟨b, hb, e⟩ := List.mem_map.mp m
          have : some b ∈ is.map (fun i => L[i]?) := by rw [h2]; exact List.mem_map.mpr ⟨b, hb, rfl⟩
          obtain ⟨j, hj, e2⟩ := List.mem_map.mp this
          have f1 : (L.map (·.1))[i]? = some a.1 := by rw [List.getElem?_map, h1]; rfl
          have f2 : (L.map (·.1))[j]? = some b.1 := by rw [List.getElem?_map]; show Option.map _ (L[j]?) = _; rw [e2]; rfl
          rw [e] at f2
          have : i = j := nd_ix S.nd f1 f2
          rw [this] at hn
          exact hn.1 hj
    · obtain ⟨i, _, e⟩ := mem _ m
      exact S.own p o (List.mem_of_getElem? e)
/-- what stands beside L1 goes into the frame, and comes back behind -/
theorem Hs.split (S : Hs (L1 ++ L2) F H) : ∃ F', Hs L1 F' H ∧ (Same F F' ∧ Sees L2 F') ∧ ∀ L' H', Hs L' F' H' → Hs (L' ++ L2) F H' := by
  have nd := S.nd
  rw [List.map_append, List.nodup_append] at nd
  obtain ⟨n1, n2, n3⟩ := nd
  have key : ∀ p o, (p, o) ∈ L2 → List.lookup p L2 = some o := by
    clear S n3
    induction L2 with
    | nil => intro p o m; cases m
    | cons a r ih =>
      intro p o m
      rw [List.map_cons, List.nodup_cons] at n2
      obtain ⟨q, u⟩ := a
      rcases List.mem_cons.mp m with m | m
      · cases m
        simp [List.lookup]
      · have hne : p ≠ q := fun e => n2.1 (List.mem_map.mpr ⟨(p, o), m, e⟩)
        have hb : (p == q) = false := by simpa using hne
        simp only [List.lookup, hb]
        exact ih n2.2 p o m
  have back : ∀ p o, List.lookup p L2 = some o → (p, o) ∈ L2 := by
    clear S n3 n2 key
    induction L2 with
    | nil => intro p o m; cases m
    | cons a r ih =>
      intro p o m
      obtain ⟨q, u⟩ := a
      by_cases e : p = q
      · subst e
        simp [List.lookup] at m
        subst m
        exact List.mem_cons_self
      · have hb : (p == q) = false := by simpa using e
        simp only [List.lookup, hb] at m
        exact List.mem_cons_of_mem _ (ih p o m)
  refine ⟨fun b => (List.lookup b L2).or (F b), ⟨n1, fun p o m => ⟨(S.own p o (List.mem_append_left _ m)).1, ?_⟩, fun b o q => ?_⟩, ⟨fun b o q => ?_, fun p o m => by simp [key p o m]⟩, fun L' H' S' => ⟨?_, fun p o m => ?_, fun b o q => ?_⟩⟩
  · cases h : List.lookup p L2 with
    | none => exact (S.own p o (List.mem_append_left _ m)).2
    | some u => exact absurd rfl (n3 p (List.mem_map.mpr ⟨_, m, rfl⟩) p (List.mem_map.mpr ⟨_, back p u h, rfl⟩))
  · cases h : List.lookup b L2 with
    | none =>
      have q' : F b = some o := by simpa [h] using q
      exact S.fr b o q'
    | some u =>
      have q' : u = o := by simpa [h] using q
      subst q'
      exact (S.own b u (List.mem_append_right _ (back b u h))).1
  · show (List.lookup b L2).or (F b) = some o
    cases h : List.lookup b L2 with
    | none => exact q
    | some u => rw [(S.own b u (List.mem_append_right _ (back b u h))).2] at q; cases q
  · rw [List.map_append, List.nodup_append]
    refine ⟨S'.nd, n2, fun a ha b hb e => ?_⟩
    subst e
    obtain ⟨⟨q, u⟩, m, rfl⟩ := List.mem_map.mp ha
    obtain ⟨⟨q', u'⟩, m', e⟩ := List.mem_map.mp hb
    have e' : q' = q := e
    subst e'
    have h := (S'.own _ u m).2
    simp [key _ u' m'] at h
  · rcases List.mem_append.mp m with m | m
    · obtain ⟨h1, h2⟩ := S'.own p o m
      refine ⟨h1, ?_⟩
      cases h : List.lookup p L2 with
      | none => simpa [h] using h2
      | some u => simp [h] at h2
    · exact ⟨S'.fr p o (by simp [key p o m]), (S.own p o (List.mem_append_right _ m)).2⟩
  · refine S'.fr b o ?_
    show (List.lookup b L2).or (F b) = some o
    cases h : List.lookup b L2 with
    | none => exact q
    | some u => rw [(S.own b u (List.mem_append_right _ (back b u h))).2] at q; cases q
theorem flat_perm : ∀ {Ls : List (List (Addr × HO))} {i : Nat} {b : List (Addr × HO)}, Ls[i]? = some b → ∀ c, (Ls.set i c).flatten.Perm (c ++ (Ls.eraseIdx i).flatten)
  | [], i, b, h, c => by simp at h
  | a :: r, 0, b, h, c => List.Perm.refl _
  | a :: r, i + 1, b, h, c => by
    have ih := flat_perm (Ls := r) (i := i) (b := b) (by simpa using h) c
    show (a ++ (r.set i c).flatten).Perm (c ++ (a ++ (r.eraseIdx i).flatten))
    refine (List.Perm.append_left a ih).trans ?_
    rw [← List.append_assoc, ← List.append_assoc]
    exact List.Perm.append_right _ List.perm_append_comm
theorem set_self {α : Type} {Ls : List α} {i : Nat} {b : α} (h : Ls[i]? = some b) : Ls.set i b = Ls := by
  obtain ⟨h1, h2⟩ := List.getElem?_eq_some_iff.mp h
  rw [← h2]
  exact List.set_getElem_self h1
/-- the i-th block taken out, changed, put back -/
theorem Hs.block {Ls : List (List (Addr × HO))} (S : Hs Ls.flatten F H) (i : Nat) {b : List (Addr × HO)} (h : Ls[i]? = some b) :
    ∃ F', Hs b F' H ∧ (Same F F' ∧ Sees (Ls.eraseIdx i).flatten F') ∧ ∀ c H', Hs c F' H' → Hs (Ls.set i c).flatten F H' := by
  have p := flat_perm h b
  rw [set_self h] at p
  obtain ⟨F', S', sm, k⟩ := (S.perm p).split
  exact ⟨F', S', sm, fun c H' q => (k c H' q).perm (flat_perm h c).symm⟩
/-- another block in the stead of the i-th -/
theorem Hs.swap {Ls : List (List (Addr × HO))} {c : List (Addr × HO)} (S : Hs (c ++ Ls.flatten) F H) (i : Nat) {b : List (Addr × HO)} (h : Ls[i]? = some b) : Hs (Ls.set i c).flatten F H := by
  have p := flat_perm h b
  rw [set_self h] at p
  have S1 : Hs (c ++ (b ++ (Ls.eraseIdx i).flatten)) F H := S.perm (List.Perm.append_left c p)
  exact (S1.sub (List.Sublist.append_left (List.sublist_append_right _ _) c)).perm (flat_perm h c).symm
theorem Hs.join {new : List (Addr × HO)} (N : Hs new H H') (S : Hs L F H) : Hs (new ++ L) F H' := by
  refine ⟨?_, fun p o m => ?_, fun b o q => N.fr b o (S.fr b o q)⟩
  · rw [List.map_append, List.nodup_append]
    refine ⟨N.nd, S.nd, fun a ha b hb e => ?_⟩
    subst e
    obtain ⟨⟨q, u⟩, m, rfl⟩ := List.mem_map.mp ha
    obtain ⟨⟨q', u'⟩, m', e⟩ := List.mem_map.mp hb
    have e' : q' = q := e
    subst e'
    have h1 := (N.own _ u m).2
    rw [(S.own _ u' m').1] at h1
    cases h1
  · rcases List.mem_append.mp m with m | m
    · obtain ⟨h1, h2⟩ := N.own p o m
      refine ⟨h1, ?_⟩
      cases h : F p with
      | none => rfl
      | some u => rw [S.fr p u h] at h2; cases h2
    · obtain ⟨h1, h2⟩ := S.own p o m
      exact ⟨N.fr p o h1, h2⟩
theorem Hs.base {F0 : Hp} (S : Hs L F H) (e : Same F0 F) : Hs L F0 H := ⟨S.nd, fun p o m => ⟨(S.own p o m).1, e.free (S.own p o m).2⟩, fun b o q => S.fr b o (e b o q)⟩
/-- all else into the frame -/
theorem Hs.all (S : Hs L F H) : ∃ F', Hs L F' H ∧ (∀ b o, b ∉ L.map (·.1) → H b = some o → F' b = some o) ∧ Same F F' := by
  refine ⟨fun b => if b ∈ L.map (·.1) then none else H b, ⟨S.nd, fun p o m => ⟨(S.own p o m).1, if_pos (List.mem_map.mpr ⟨_, m, rfl⟩)⟩, fun b o q => ?_⟩, fun b o h q => (if_neg h).trans q, fun b o q => ?_⟩
  · by_cases h : b ∈ L.map (·.1)
    · rw [if_pos h] at q; cases q
    · rwa [if_neg h] at q
  · have h : b ∉ L.map (·.1) := fun h => by
      obtain ⟨⟨p, u⟩, m, e⟩ := List.mem_map.mp h
      have e' : p = b := e
      rw [← e', (S.own p u m).2] at q
      cases q
    exact (if_neg h).trans (S.fr b o q)
theorem Hs.blk {Ls : List (List (Addr × HO))} (S : Hs Ls.flatten F H) (i : Nat) {b : List (Addr × HO)} (h : Ls[i]? = some b) : Sees b H := fun p o m =>
  (S.own p o (List.mem_flatten.mpr ⟨b, List.mem_of_getElem? h, m⟩)).1
end
end Z
/-! ### readings, one word a construct -/
namespace Z
open PySem L2
/-- one of several readings, chosen where it is asked -/
def tEx {ι : Type} (p : ι → Prop) (t : ι → TE) : TE := fun σ H Q => ∃ i, p i ∧ t i σ H Q
/-- a new list, a new tuple of these values -/
abbrev rLst (xs : List V) (H : Hp) (Q : VK) : Prop := xs.length ≤ sizeLine ∧ ∀ p, H p = none → Q (.ref p) (upd H p (.lst xs))
abbrev rTup (xs : List V) (H : Hp) (Q : VK) : Prop := xs.length ≤ sizeLine ∧ ∀ p, H p = none → Q (.ref p) (upd H p (.tup xs))
/-- C(), no __init__ but object's -/
def tMakeO (C : Addr) : TE := fun _ H Q => ∀ a dx, H a = none → H dx = none → dx ≠ a → Q (.ref a) (upd (upd H dx (.own a)) a (.ins C dx []))
/-- a slice's part that may be None -/
def tPartN (t : TE) : TO := fun σ H Q => t σ H fun x H1 => (x = .non ∧ Q none H1) ∨ ∃ i, x = .int i ∧ Q (some i) H1
section
variable {σ : L2.St} {H : Hp} {Q : VK} {QB : Bool → Hp → Prop} {D : Ends} {t1 t2 ts tu : TS} {te ta tb tv tx : TE} {tt t u : TT} {v x y : V} {i : Nat} {K : PySem.W.Frag} {R : List V → Hp → Prop} {tA tr : TA}
theorem seq (h : t1 { D with nx := t2 D } σ H) : tSeq t1 t2 D σ H := h
theorem next (h : D.nx σ H) : tNext D σ H := h
theorem var (h : σ[i]? = some (some v)) (k : Q v H) : tVar i σ H Q := ⟨v, h, k⟩
theorem con (k : Q v H) : tC v σ H Q := k
theorem asg (h : te σ H fun x H1 => D.nx (σ.set i (some x)) H1) : tAsg te (gName i) D σ H := h
theorem drop (h : te σ H fun _ H1 => D.nx σ H1) : tDrop te D σ H := h
theorem ret (h : te σ H D.rt) : tRet te D σ H := h
theorem retN (h : D.rt .non H) : tRetN D σ H := h
theorem ifS (h : tt σ H fun b H1 => if b = true then t1 D σ H1 else t2 D σ H1) : tIfS tt t1 t2 D σ H := h
theorem op {r : R2} (h : ta σ H fun x H1 => tb σ H1 fun y H2 => r x y H2 Q) : tOp r ta tb σ H Q := h
theorem un {r : V → Hp → VK → Prop} (h : ta σ H fun x H1 => r x H1 Q) : tUn r ta σ H Q := h
theorem i0 {g : Int → Int → V} {a b : Int} (k : Q (g a b) H) : rI0 g (.int a) (.int b) H Q := ⟨a, b, rfl, rfl, k⟩
theorem ic {C : Int → Int → Prop} {g : Int → Int → V} {a b : Int} (c : C a b) (k : Q (g a b) H) : rI C g (.int a) (.int b) H Q := ⟨a, b, rfl, rfl, c, k⟩
theorem eqS (h : scal x y = true) (k : Q (.bl (decide (x = y))) H) : rEq x y H Q := ⟨h, k⟩
theorem neS (h : scal x y = true) (k : Q (.bl (!decide (x = y))) H) : rNe x y H Q := ⟨h, k⟩
theorem test {b : Bool} (h : te σ H fun x H' => ∃ k, x = .bl k ∧ QB k H') : tTest te σ H QB := h
theorem tstB {b : Bool} (k : QB b H) : ∃ k, (V.bl b) = .bl k ∧ QB k H := ⟨b, rfl, k⟩
theorem bB (h : te σ H fun x H1 => ∃ c, x = .bl c ∧ QB c H1) : tB te σ H QB := h
theorem andT (h : t σ H fun c H1 => if c = true then u σ H1 QB else QB false H1) : tAnd t u σ H QB := h
theorem orT (h : t σ H fun c H1 => if c = true then QB true H1 else u σ H1 QB) : tOr t u σ H QB := h
theorem notT (h : t σ H fun c H1 => QB (!c) H1) : tNot t σ H QB := h
theorem andV (h : ta σ H fun x H1 => ∃ c, x = .bl c ∧ if c = true then tb σ H1 Q else Q (.bl false) H1) : tAndV ta tb σ H Q := h
theorem orV (h : ta σ H fun x H1 => ∃ c, x = .bl c ∧ if c = true then Q (.bl true) H1 else tb σ H1 Q) : tOrV ta tb σ H Q := h
theorem notV (h : ta σ H fun x H1 => ∃ c, x = .bl c ∧ Q (.bl (!c)) H1) : tNotV ta σ H Q := h
theorem ifE (h : tt σ H fun c H1 => if c = true then ta σ H1 Q else tb σ H1 Q) : tIf tt ta tb σ H Q := h
theorem blE {b : Bool} {P : Bool → Prop} (k : P b) : ∃ c, (V.bl b) = .bl c ∧ P c := ⟨b, rfl, k⟩
theorem nil (k : R [] H) : tNil σ H R := k
theorem cons (h : ta σ H fun x H1 => tr σ H1 fun xs H2 => R (x :: xs) H2) : tCons ta tr σ H R := h
theorem fld {f : Str} (h : ta σ H fun x H1 => ∃ a C dx fs v, x = .ref a ∧ H1 a = some (.ins C dx fs) ∧ Cls K C ∧ NoAttr K C f ∧ fs.lookup f = some v ∧ Q v H1) : tFld K ta f σ H Q := h
theorem fldE {a C dx : Addr} {fs : List (Str × V)} {f : Str} {R : V → Prop} (ho : H a = some (.ins C dx fs)) (c : Cls K C) (n : NoAttr K C f) (l : fs.lookup f = some v) (k : R v) :
    ∃ a' C dx fs v, (V.ref a) = .ref a' ∧ H a' = some (.ins C dx fs) ∧ Cls K C ∧ NoAttr K C f ∧ fs.lookup f = some v ∧ R v := ⟨a, C, dx, fs, v, rfl, ho, c, n, l, k⟩
theorem sfld {f : Str} (h : tv σ H fun y H1 => ta σ H1 fun x H2 => ∃ a C dx fs, x = .ref a ∧ H2 a = some (.ins C dx fs) ∧ Cls K C ∧ NoAttr K C f ∧ fs.length < 1000 ∧ D.nx σ (upd H2 a (.ins C dx (putF f y fs)))) : sFld K ta tv f D σ H := h
theorem sfldE {a C dx : Addr} {fs : List (Str × V)} {f : Str} {R : Addr → Addr → Addr → List (Str × V) → Prop} (ho : H a = some (.ins C dx fs)) (c : Cls K C) (n : NoAttr K C f) (l : fs.length < 1000) (k : R a C dx fs) :
    ∃ a' C dx fs, (V.ref a) = .ref a' ∧ H a' = some (.ins C dx fs) ∧ Cls K C ∧ NoAttr K C f ∧ fs.length < 1000 ∧ R a' C dx fs := ⟨a, C, dx, fs, rfl, ho, c, n, l, k⟩
theorem aug {f : Str} {rd : V → V → Hp → VK → Prop} (h : ta σ H fun x H1 => ∃ a C dx fs v, x = .ref a ∧ H1 a = some (.ins C dx fs) ∧ Cls K C ∧ NoAttr K C f ∧ fs.lookup f = some v ∧
    tv σ H1 fun y H2 => rd v y H2 fun z H3 => ∃ dx' fs', H3 a = some (.ins C dx' fs') ∧ fs'.length < 1000 ∧ D.nx σ (upd H3 a (.ins C dx' (putF f z fs')))) : sFldAug K ta tv rd f D σ H := h
theorem augE {a C dx : Addr} {fs : List (Str × V)} {R : Addr → List (Str × V) → Prop} (ho : H a = some (.ins C dx fs)) (l : fs.length < 1000) (k : R dx fs) :
    ∃ dx fs, H a = some (.ins C dx fs) ∧ fs.length < 1000 ∧ R dx fs := ⟨dx, fs, ho, l, k⟩
theorem augV {a C dx : Addr} {fs : List (Str × V)} {f : Str} {R : Addr → Addr → V → Prop} (ho : H a = some (.ins C dx fs)) (c : Cls K C) (n : NoAttr K C f) (l : fs.lookup f = some v) (k : R a C v) :
    ∃ a' C dx fs v, (V.ref a) = .ref a' ∧ H a' = some (.ins C dx fs) ∧ Cls K C ∧ NoAttr K C f ∧ fs.lookup f = some v ∧ R a' C v := ⟨a, C, dx, fs, v, rfl, ho, c, n, l, k⟩
theorem rAddE {a b : Int} {R : V → Hp → Prop} (k : R (.int (a + b)) H) : rAdd (.int a) (.int b) H R := ⟨a, b, rfl, rfl, k⟩
theorem isN {P : Prop} (k : P) : (V.non = .non) ∧ P := ⟨rfl, k⟩
theorem lstE {vs : List V} (hz : vs.length ≤ 1000) (k : ∀ p, H p = none → Q (.ref p) (upd H p (.lst vs))) : vs.length ≤ sizeLine ∧ ∀ p, H p = none → Q (.ref p) (upd H p (.lst vs)) := ⟨Nat.le_trans hz (by decide), k⟩
theorem lst (h : tA σ H fun xs H1 => rLst xs H1 Q) : tLst tA σ H Q := h
theorem tup (h : tA σ H fun xs H1 => rTup xs H1 Q) : tTup tA σ H Q := h
theorem call {sp : Sp} {E : XK} (h : tA σ H fun vs H1 => sp (vs ++ []) H1 Q E) : tCall sp [] E tA σ H Q := h
theorem iteD {p A B : Prop} [Decidable p] (h1 : p → A) (h2 : ¬ p → B) : if decide p = true then A else B := by
  by_cases h : p
  · rw [if_pos (decide_eq_true h)]; exact h1 h
  · rw [if_neg (by rw [decide_eq_false h]; exact Bool.false_ne_true)]; exact h2 h
theorem iteN {p A B : Prop} [Decidable p] (h1 : ¬ p → A) (h2 : p → B) : if (!decide p) = true then A else B := by
  by_cases h : p
  · rw [if_neg (by rw [decide_eq_true h]; exact Bool.false_ne_true)]; exact h2 h
  · rw [if_pos (by rw [decide_eq_false h]; rfl)]; exact h1 h
theorem iteSelf {α : Type} {a : α} {A B : Prop} [Decidable (a = a)] (k : A) : if decide (a = a) = true then A else B := by rw [if_pos (decide_eq_true rfl)]; exact k
theorem iteNSelf {α : Type} {a : α} {A B : Prop} [Decidable (a = a)] (k : B) : if (!decide (a = a)) = true then A else B := by rw [if_neg (by rw [decide_eq_true rfl]; exact Bool.false_ne_true)]; exact k
theorem setLE {p : Addr} {xs : List V} {i : Nat} {v : V} {R : Hp → Prop} (ho : H p = some (.lst xs)) (hi : i < xs.length) (k : R (upd H p (.lst (xs.set i v)))) : rSetL (.ref p) (.int i) v H R :=
  ⟨p, xs, i, i, rfl, rfl, ho, by unfold ixN; rw [if_pos (by omega), if_pos (by omega)]; simp, k⟩
theorem m0 {r : V → List V → Hp → VK → Prop} (h : ta σ H fun x H1 => (∃ a, x = .str a) ∧ r x [] H1 Q) : tM0 r ta σ H Q := h
theorem m1 {r : V → List V → Hp → VK → Prop} (h : ta σ H fun x H1 => (∃ a, x = .str a) ∧ te σ H1 fun y H2 => r x [y] H2 Q) : tM1 r ta te σ H Q := h
theorem lenSeq {p : Addr} {xs : List V} {R : List V → Prop} (h : SqL K H p xs) (k : R xs) : ∃ q ys, [V.ref p] = [.ref q] ∧ (SqL K H q ys ∨ SqT K H q ys) ∧ R ys := ⟨p, xs, rfl, .inl h, k⟩
theorem ixAll {p : Addr} {xs : List V} {z : Int} {G : V → Prop} (h : SqL K H p xs) (h0 : 0 ≤ z) (h1 : z < xs.length) (hp : ∀ x ∈ xs, G x) (k : ∀ v, G v → xs[z.toNat]? = some v → Q v H) : rIxL K (.ref p) (.int z) H Q := by
  have hz : z.toNat < xs.length := by omega
  have e : xs[z.toNat]? = some xs[z.toNat] := List.getElem?_eq_getElem hz
  refine ⟨p, xs, z, xs[z.toNat], rfl, rfl, h, ?_, k _ (hp _ (List.getElem_mem hz)) e⟩
  have e2 := atI_nat e
  have e3 : ((z.toNat : Nat) : Int) = z := by omega
  rwa [e3] at e2
theorem ixL {p : Addr} {xs : List V} {i : Nat} {v : V} (h : SqL K H p xs) (e : xs[i]? = some v) (k : Q v H) : rIxL K (.ref p) (.int i) H Q := ⟨p, xs, i, v, rfl, rfl, h, atI_nat e, k⟩
theorem iteTd {b : Bool} {A B : Prop} (h : b = true) (k : A) : if b = true then A else B := by rw [if_pos h]; exact k
theorem iteFd {b : Bool} {A B : Prop} (h : b = false) (k : B) : if b = true then A else B := by rw [if_neg (by rw [h]; exact Bool.false_ne_true)]; exact k
theorem gcons {t : TG} {u : TGs} {v : V} {r : List V} {R : L2.St → Hp → Prop} (h : t v σ H fun σ' H' => u r σ' H' R) : gCons t u (v :: r) σ H R := ⟨v, r, rfl, h⟩
theorem gnil {R : L2.St → Hp → Prop} (k : R σ H) : gNil [] σ H R := ⟨rfl, k⟩
theorem gname {v : V} {R : L2.St → Hp → Prop} (k : R (σ.set i (some v)) H) : gName i v σ H R := k
theorem partN {R : Option Int → Hp → Prop} (h : te σ H fun x H1 => (x = .non ∧ R none H1) ∨ ∃ i, x = .int i ∧ R (some i) H1) : tPartN te σ H R := h
theorem forR1 {g : TG} (h : tA σ H fun vs H1 => ∃ j : Int, vs = [.int j] ∧ -(2 ^ 62) ≤ j ∧ j < 2 ^ 62 ∧ ∃ W : Nat → Nat → L2.St → Hp → Prop, (∃ m, W 0 m σ H1) ∧ ∀ i m σ H, W i m σ H →
      ((Itr 0 j.toNat).stop i H ∧ D.nx σ H) ∨ ((Itr 0 j.toNat).go i H ∧ ∃ N : L2.St → Hp → Prop, (∀ σ' H', N σ' H' → ∃ m', m' < m ∧ W (i + 1) m' σ' H') ∧ ∀ x H', (Itr 0 j.toNat).yld i H x H' → g x σ H' fun σ2 H2 => ts { D with nx := N, ct := N, bk := D.nx } σ2 H2)) :
    tFor (iRng1 tA) g ts D σ H := h
theorem forL {tl : TE} {g : TG} (h : tl σ H fun x H1 => ∃ a, x = .ref a ∧ (∃ xs, SqL K H1 a xs) ∧ ∃ W : Nat → Nat → L2.St → Hp → Prop, (∃ m, W 0 m σ H1) ∧ ∀ i m σ H, W i m σ H →
      ((Itl K a).stop i H ∧ D.nx σ H) ∨ ((Itl K a).go i H ∧ ∃ N : L2.St → Hp → Prop, (∀ σ' H', N σ' H' → ∃ m', m' < m ∧ W (i + 1) m' σ' H') ∧ ∀ x H', (Itl K a).yld i H x H' → g x σ H' fun σ2 H2 => ts { D with nx := N, ct := N, bk := D.nx } σ2 H2)) :
    tFor (iList K tl) g ts D σ H := h
theorem rng {n : Nat} {P : Nat → Prop} (hn : n ≤ 100000) (k : P n) : ∃ j : Int, [V.int (n : Int)] = [.int j] ∧ -(2 ^ 62) ≤ j ∧ j < 2 ^ 62 ∧ P j.toNat := ⟨n, rfl, by omega, by omega, by rw [Int.toNat_natCast]; exact k⟩
theorem cut {M : L2.St → Hp → Prop} (h : tu { D with nx := M } σ H) (k : ∀ σ' H', M σ' H' → ts D σ' H') : Evl.tCut tu ts D σ H := ⟨M, h, k⟩
theorem meth {C : Addr} {m : Str} {sp : Sp} {dvs : List V} {E : XK} (h : ta σ H fun x H1 => ∃ a dx fs, x = .ref a ∧ H1 a = some (.ins C dx fs) ∧ fs.lookup m = none ∧ tA σ H1 fun vs H2 => sp (x :: (vs ++ dvs)) H2 Q E) : tMeth C m sp dvs E ta tA σ H Q := h
theorem methE {C a dx : Addr} {fs : List (Str × V)} {m : Str} {P : Prop} (ho : H a = some (.ins C dx fs)) (l : fs.lookup m = none) (k : P) :
    ∃ a' dx fs, (V.ref a) = .ref a' ∧ H a' = some (.ins C dx fs) ∧ fs.lookup m = none ∧ P := ⟨a, dx, fs, rfl, ho, l, k⟩
theorem make {C : Addr} {sp : Sp} {dvs : List V} {E : XK} (h : tA σ H fun vs H1 => ∀ x dx, H1 x = none → H1 dx = none → dx ≠ x →
    sp (.ref x :: (vs ++ dvs)) (upd (upd H1 dx (.own x)) x (.ins C dx [])) (fun v H2 => v = .non ∧ Q (.ref x) H2) E) : tMake C sp dvs E tA σ H Q := h
theorem makeO {C : Addr} (h : ∀ a dx, H a = none → H dx = none → dx ≠ a → Q (.ref a) (upd (upd H dx (.own a)) a (.ins C dx []))) : tMakeO C σ H Q := h
theorem mkO {L : List (Addr × HO)} {F : Hp} {a dx C : Addr} (S : Hs L F H) (h1 : H a = none) (h2 : H dx = none) (h3 : dx ≠ a) : Hs ((a, .ins C dx []) :: L) F (upd (upd H dx (.own a)) a (.ins C dx [])) :=
  (S.ext (same_new h2)).new (by rw [upd_ne (Ne.symm h3)]; exact h1)
theorem sl {r : V → Option Int → Option Int → Hp → VK → Prop} {tl th : TO} (h : te σ H fun x H1 => tl σ H1 fun l H2 => th σ H2 fun u H3 => r x l u H3 Q) : tSl r te tl th σ H Q := h
theorem noPart {R : Option Int → Hp → Prop} (k : R none H) : tNoPart σ H R := k
theorem part {R : Option Int → Hp → Prop} (h : te σ H fun x H1 => ∃ i, x = .int i ∧ R (some i) H1) : tPart te σ H R := h
theorem partE {i : Int} {P : Int → Prop} (k : P i) : ∃ j, (V.int i) = .int j ∧ P j := ⟨i, rfl, k⟩
theorem slS {z : Str} {lo hi : Option Int} (hz : z.length ≤ 10000) (k : Q (.str (cutS z lo hi)) H) : rSlS (.str z) lo hi H Q := ⟨z, rfl, Nat.le_trans hz (by decide), k⟩
theorem bm {T : String} {r : V → List V → Hp → VK → Prop} (h : ta σ H fun x H1 => tyV K T x H1 ∧ tA σ H1 fun xs H2 => r x xs H2 Q) : tBM K T r ta tA σ H Q := h
theorem bm0 {T : String} {r : V → List V → Hp → VK → Prop} (h : ta σ H fun x H1 => tyV K T x H1 ∧ r x [] H1 Q) : tBM0 K T r ta σ H Q := h
theorem asgG {g : TG} (h : te σ H fun x H1 => g x σ H1 D.nx) : tAsg te g D σ H := h
theorem gsub {to ti : TE} {t : TSet} {v : V} {R : L2.St → Hp → Prop} (h : to σ H fun o H1 => ti σ H1 fun i H2 => t o i v H2 fun H3 => R σ H3) : gSub to ti t v σ H R := h
theorem dget {td ty : TE} (h : td σ H fun x H1 => ty σ H1 fun y H2 => ∃ a v, x = .ref a ∧ DGet H2 a y (some v) ∧ Q v H2) : tDGet td ty σ H Q := h
theorem dgetE {a : Addr} {kvs : List (Key × V)} {k : Key} {v : V} {R : V → Prop} (ho : H a = some (.dK kvs)) (e : valV kvs k = some v) (q : R v) : ∃ a' v, (V.ref a) = .ref a' ∧ DGet H a' (kV k) (some v) ∧ R v := ⟨a, v, rfl, e ▸ DGet.k ho, q⟩
theorem dgetS {a : Addr} {kvs : List (Key × V)} {k : Str} {v : V} {R : V → Prop} (ho : H a = some (.dK kvs)) (e : valV kvs (Sum.inr k) = some v) (q : R v) : ∃ a' v, (V.ref a) = .ref a' ∧ DGet H a' (.str k) (some v) ∧ R v := ⟨a, v, rfl, e ▸ DGet.k (k := Sum.inr k) ho, q⟩
theorem dput {td ty : TE} (h : tv σ H fun v H1 => td σ H1 fun x H2 => ty σ H2 fun y H3 => ∃ a H4, x = .ref a ∧ DPut H3 a y v H4 ∧ D.nx σ H4) : sDPut td ty tv D σ H := h
theorem dputS {a : Addr} {kvs kvs' : List (Key × V)} {k : Str} {v : V} {R : Hp → Prop} (ho : H a = some (.dK kvs)) (l : kvs.length < 1000) (e : putK kvs (Sum.inr k) v = kvs') (q : R (upd H a (.dK kvs'))) :
    ∃ a' H4, (V.ref a) = .ref a' ∧ DPut H a' (.str k) v H4 ∧ R H4 := ⟨a, _, rfl, DPut.k (k := Sum.inr k) ho (Nat.lt_of_lt_of_le l (by decide)), by rw [e]; exact q⟩
theorem pairsN {R : List (V × V) → Hp → Prop} (k : R [] H) : tPairs [] σ H R := k
theorem pairsC {tk : TE} {r : List (TE × TE)} {R : List (V × V) → Hp → Prop} (h : tk σ H fun x H1 => tv σ H1 fun y H2 => tPairs r σ H2 fun ps H3 => R ((x, y) :: ps) H3) : tPairs ((tk, tv) :: r) σ H R := h
theorem yes {R : Bool → Hp → Prop} (k : R true H) : tYes σ H R := k
theorem addS {a b : Str} {R : Str → Str → Prop} (hz : a.length + b.length ≤ 100000) (k : R a b) : ∃ i j, (V.str a) = .str i ∧ (V.str b) = .str j ∧ i.length + j.length ≤ sizeLine ∧ R i j := ⟨a, b, rfl, rfl, Nat.le_trans hz (by decide), k⟩
theorem cb {r : List V → Hp → VK → Prop} (h : tA σ H fun vs H1 => r vs H1 Q) : tCB r tA σ H Q := h
end
theorem look_ne {f g : Str} {v : V} {r : List (Str × V)} (h : decide (f = g) = false) : List.lookup f ((g, v) :: r) = List.lookup f r := by
  have hb : (f == g) = false := by simpa using h
  simp only [List.lookup, hb]
theorem look_eq {f : Str} {v : V} {r : List (Str × V)} : List.lookup f ((f, v) :: r) = some v := by simp [List.lookup]
theorem put_ne {f g : Str} {v w : V} {r : List (Str × V)} (h : decide (g = f) = false) : putF f v ((g, w) :: r) = (g, w) :: putF f v r := by
  have hb : ¬ g = f := by simpa using h
  rw [putF, if_neg hb]
theorem put_eq {f : Str} {v w : V} {r : List (Str × V)} : putF f v ((f, w) :: r) = (f, v) :: r := by rw [putF, if_pos rfl]
theorem put_nil {f : Str} {v : V} : putF f v [] = [(f, v)] := rfl
section
open PyProof.Rows
variable {X : Cx} {x : Str} {i : Int} {z : Str} {t : Tok} {pos : Pos}
theorem pe_gint (hg : Gl X x) (hm : ∃ t, X.mg x = some (.int i t)) (hd : (x == ("__debug__" : Str)) = false := by decide) : PE X (.Name x pos) (tC (.int i)) := let ⟨_, h⟩ := hm; pe_glob hg h ⟨_, rfl⟩ hd
theorem kit_self {K : PySem.W.Frag} {C : Addr} : PySem.W.kitOne K (.ref C) (.ref C) = some true := by
  unfold PySem.W.kitOne
  rw [if_pos (by simp)]
theorem kit_yes {K : PySem.W.Frag} {C R : Addr} (h1 : PySem.W.isClsIn K R = true) (h2 : PySem.W.typeIn K (.ref R) = some (.type "type")) (h3 : PySem.W.subIn K (.ref C) (.ref R) = some true) : PySem.W.kitOne K (.ref C) (.ref R) = some true := by
  unfold PySem.W.kitOne
  by_cases e : (Value.ref C == Value.ref R) = true
  · rw [if_pos e]
  · rw [if_neg e]
    unfold PySem.W.kitCls
    have h1' : (PySem.W.clsIn K R).isSome = true := h1
    have e2 : ((PySem.W.clsIn K R).isSome && PySem.W.typeIn K (.ref R) == some (.type "type")) = true := by rw [h1', h2] <;> rfl
    show (if ((PySem.W.clsIn K R).isSome && PySem.W.typeIn K (.ref R) == some (.type "type")) = true then PySem.W.subIn K (.ref C) (.ref R) else none) = some true
    rw [if_pos e2]
    exact h3
theorem kit_no {K : PySem.W.Frag} {C R : Addr} (h1 : PySem.W.isClsIn K R = true) (h2 : PySem.W.typeIn K (.ref R) = some (.type "type")) (h3 : PySem.W.subIn K (.ref C) (.ref R) = some false) (hne : C ≠ R) : PySem.W.kitOne K (.ref C) (.ref R) = some false := by
  unfold PySem.W.kitOne
  rw [if_neg (by simpa using hne)]
  unfold PySem.W.kitCls
  have h1' : (PySem.W.clsIn K R).isSome = true := h1
  have e2 : ((PySem.W.clsIn K R).isSome && PySem.W.typeIn K (.ref R) == some (.type "type")) = true := by rw [h1', h2] <;> rfl
  show (if ((PySem.W.clsIn K R).isSome && PySem.W.typeIn K (.ref R) == some (.type "type")) = true then PySem.W.subIn K (.ref C) (.ref R) else none) = some false
  rw [if_pos e2]
  exact h3
theorem pe_ex {X : Cx} {e : Expr} {ι : Type} {p : ι → Prop} {t : ι → TE} (h : ∀ i, p i → PE X e (t i)) : PE X e (tEx p t) := ⟨fun pins s σ H Q I ⟨i, hp, hq⟩ => (h i hp).run pins s σ H Q I hq⟩
theorem pe_makeO {X : Cx} {C : Addr} {x : Str} {p pos : Pos} (hmk : PySem.W.makesIn X.K C = true) (hi : PySem.W.findIn X.K (.ref C) "__init__" = some (some (.builtin "object.__init__"))) (kp : PySem.W.keepIn X.K (.ref C) = true) (hg : Gl X x) (hm : X.mg x = some (.ref C))
    (hdb : (x == ("__debug__" : Str)) = false := by decide) : PE X (.Call (.Name x p) [] [] pos) (tMakeO C) := by
  refine ⟨fun pins s σ H Q I h => ?_⟩
  refine wpAny_Call_Name_kw (ld_glob I hg hm ?_ hdb)
  refine PySem.W.callWith_K0 I.kIn kp ?_
  show wpAny _ _ (PySem.call (Value.ref C) []) _ _ _
  refine wpAny_call ?_
  have hq := h (s.heap.objs.size + 1) s.heap.objs.size (I.hok.fresh (Nat.le_succ _)) (I.hok.fresh (Nat.le_refl _)) (Nat.ne_of_lt (Nat.lt_succ_self _))
  have I2 := Inv.made (C := C) I
  have Y := PySem.W.makes_of (M := model X.prog X.w) I.kIn hmk
  have L0 := PySem.W.looks_findIn (M := model X.prog X.w) I.kIn hi
  obtain ⟨hh, g, d, t, os⟩ := s
  refine PySem.W.make_core Y L0 (fun self => PySem.W.Looks.of_pure (PySem.W.oi_bind self)) (.inr ⟨rfl, rfl⟩) ?_
  have e2 : ((hh.push PySem.W.emptyDict).push (PySem.W.instObj C hh.objs.size)).get? (hh.objs.size + 1) = some (PySem.W.instObj C hh.objs.size) := by
    have := Heap.get?_push_size (hh.push PySem.W.emptyDict) (o := PySem.W.instObj C hh.objs.size) rfl
    rwa [Heap.size_push] at this
  have t1 : PySem.W.Looks (model X.prog X.w) ((hh.push PySem.W.emptyDict).push (PySem.W.instObj C hh.objs.size)) (typeOf (.ref (hh.objs.size + 1))) (.ref C) := (PySem.W.Looks.ld e2).andThen .now
  have t2 : PySem.W.Looks (model X.prog X.w) ((hh.push PySem.W.emptyDict).push (PySem.W.instObj C hh.objs.size)) (isInstance (.ref (hh.objs.size + 1)) (.type "object")) true := t1.andThen (Y.top.keeps fun b o e => Heap.get?_push_of_some _ (Heap.get?_push_of_some _ e))
  refine codeAny_call_builtin PySem.W.oi_plain PySem.W.entry_oi (@PySem.W.check_slot (model X.prog X.w) _ _ _ "object.__init__" "object" "__init__" (.ref (hh.objs.size + 1)) [] [] _ PySem.W.oi_kind PySem.W.oi_split t2 (PySem.W.oi_args (.ref (hh.objs.size + 1))) ?_)
  rw [PySem.W.oi_run]
  exact wpAny_pure (And.intro rfl ⟨V.ref _, _, I2, rfl, hq⟩)
theorem pe_gstr (hg : Gl X x) (hm : ∃ t, X.mg x = some (.str z t)) (hd : (x == ("__debug__" : Str)) = false := by decide) : PE X (.Name x pos) (tC (.str z)) := let ⟨_, h⟩ := hm; pe_glob hg h ⟨_, rfl⟩ hd
end
end Z
/-! ### further rules -/
namespace Z
open PySem L2 PyProof.Rows
/-- a text times an int -/
def rRepS : R2 := fun x y H Q => ∃ (z : Str) (n : Int), x = .str z ∧ y = .int n ∧ z.length ≤ 1000 ∧ 0 ≤ n ∧ n ≤ 1000 ∧ ∀ r : Str, r = Txt.mul z n → r.length ≤ z.length * n.toNat → Q (.str r) H
theorem mul_len (z : Str) (n : Int) : (Txt.mul z n).length ≤ z.length * n.toNat := by
  unfold Txt.mul
  by_cases h : n < 1
  · rw [if_pos h]
    exact Nat.zero_le _
  · rw [if_neg h]
    by_cases h2 : (n == 1 || z.length == 0) = true
    · rw [if_pos h2]
      have : 1 ≤ n.toNat := by omega
      exact Nat.le_mul_of_pos_right _ this
    · rw [if_neg h2]
      have gen : ∀ (k : Nat) (a : Array Nat), ((List.replicate k z.cps).foldl (· ++ ·) a).size = a.size + k * z.cps.size := by
        intro k
        induction k with
        | zero => intro a; simp
        | succ k ih =>
          intro a
          rw [List.replicate_succ, List.foldl_cons, ih, Array.size_append, Nat.succ_mul]
          omega
      show ((List.replicate n.toNat z.cps).foldl (· ++ ·) #[]).size ≤ z.cps.size * n.toNat
      rw [gen, Nat.mul_comm]
      simp
theorem op_repS {X : Cx} : OpR X (binaryOp .Mult) rRepS := by
  intro pins s σ H x y v u Q I rx ry h
  obtain ⟨z, n, rfl, rfl, hz, h0, h1, q⟩ := h
  obtain ⟨t, rfl⟩ := rx
  obtain ⟨t', rfl⟩ := ry
  refine SB.mul ⟨?_, fun _ _ => ?_, fun _ _ => ?_⟩ fun t2 k => ⟨.str (Txt.mul z n), H, I.tok _, ⟨_, rfl⟩, q _ rfl (mul_len z n)⟩
  · rw [Bool.or_eq_false_iff]
    exact ⟨decide_eq_false (by omega), decide_eq_false (by omega)⟩
  · have hn : 1 ≤ n := by omega
    have : (z.length : Int) ≤ (2 ^ 63 - 1) / n := by
      refine Int.le_ediv_of_mul_le (by omega) ?_
      have h2 : (z.length : Int) * n ≤ 1000 * 1000 := Int.mul_le_mul (by omega) h1 (by omega) (by omega)
      omega
    omega
  · show decide (z.length * n.toNat > sizeLine) = false
    refine decide_eq_false ?_
    have h2 : z.length * n.toNat ≤ 1000 * 1000 := Nat.mul_le_mul hz (by omega)
    rw [sizeLine_eq]
    omega
theorem po_val {X : Cx} {e : Expr} {te : TE} (h : PE X e te) : PO X (some e) (tPartN te) := by
  refine ⟨fun pins s σ H Q I hw => ?_⟩
  rw [evalPart_some]
  refine thn (h.run pins s σ H _ I hw) fun u s1 ⟨x, H1, I1, r1, q1⟩ => ?_
  rcases q1 with ⟨rfl, q⟩ | ⟨i, rfl, q⟩
  · cases r1
    exact ⟨none, H1, I1, .none, q⟩
  · obtain ⟨t, rfl⟩ := r1
    exact ⟨some i, H1, I1, .int i t, q⟩
def cutT (xs : List Str) (lo hi : Option Int) : List Str := (xs.drop (HT.sIx xs.length 0 lo)).take (HT.sIx xs.length xs.length hi - HT.sIx xs.length 0 lo)
theorem cutV_str (xs : List Str) (lo hi : Option Int) : cutV (xs.map V.str) lo hi = (cutT xs lo hi).map V.str := by
  unfold cutV cutT
  rw [List.length_map, List.map_take, List.map_drop]
theorem cutT_len (xs : List Str) (lo hi : Option Int) : (cutT xs lo hi).length ≤ xs.length := by
  unfold cutT
  rw [List.length_take, List.length_drop]
  omega
theorem dp_strs {K : PySem.W.Frag} {H : Hp} : ∀ xs : List Str, DpAll K H (xs.map V.str) (xs.map PyData.str)
  | [] => .nil
  | x :: r => .cons (.str x) (dp_strs r)
theorem lay_strs : ∀ xs : List Str, (∀ x ∈ xs, PyData.strOk x = true) → PyData.canLayAll0 (xs.map PyData.str) = true
  | [], _ => by simp [PyData.canLayAll0]
  | x :: r, h => by
    rw [List.map_cons, PyData.canLayAll0, lay_strs r fun y hy => h y (List.mem_cons_of_mem _ hy), Bool.and_true, PyData.canLay0]
    exact h x List.mem_cons_self
theorem depth_strs : ∀ xs : List Str, PyData.depthAll (xs.map PyData.str) = 0
  | [] => by simp [PyData.depthAll]
  | x :: r => by rw [List.map_cons, PyData.depthAll, depth_strs r]; simp [PyData.depth]
theorem shaped_strs {xs : List Str} (h : ∀ x ∈ xs, PyData.strOk x = true) : SeqAt.shaped (.list (xs.map PyData.str)) = true := by
  unfold SeqAt.shaped
  rw [Bool.and_eq_true]
  refine ⟨by rw [PyData.canLay0]; exact lay_strs xs h, decide_eq_true ?_⟩
  rw [PyData.depth, depth_strs]
  decide
theorem eqv_strs : ∀ xs : List Str, PyData.eqvAll (xs.map PyData.str) (xs.map PyData.str) = true
  | [] => by simp [PyData.eqvAll]
  | x :: r => by rw [List.map_cons, PyData.eqvAll, eqv_strs r]; simp [PyData.eqv]
theorem ok_app {x y : Str} (h1 : PyData.strOk x = true) (h2 : PyData.strOk y = true) : PyData.strOk (x ++ y) = true := by
  unfold PyData.strOk at *
  show (x.cps ++ y.cps).all _ = true
  rw [Array.all_append, h1, h2]
  rfl
theorem ok_cut {z : Str} {lo hi : Option Int} (h : PyData.strOk z = true) : PyData.strOk (cutS z lo hi) = true := by
  unfold PyData.strOk cutS at *
  rw [List.all_toArray, List.all_eq_true]
  intro x hx
  rw [Array.all_eq_true_iff_forall_mem] at h
  exact h x (by simpa using List.mem_of_mem_drop (List.mem_of_mem_take hx))
theorem ixS {z : Str} {i : Int} {Q : VK} {H : Hp} (hz : z.length ≤ 100000) (h0 : 0 ≤ i) (h1 : i < z.length) (k : ∀ c, z.cps.toList[i.toNat]? = some c → Q (.str ⟨#[c]⟩) H) : rIxS (.str z) (.int i) H Q := by
  have hl : i.toNat < z.cps.toList.length := by
    rw [Array.length_toList]
    have : z.length = z.cps.size := rfl
    omega
  have e := List.getElem?_eq_getElem hl
  refine ⟨z, i, _, rfl, rfl, Nat.le_trans hz (by decide), ?_, k _ e⟩
  have e2 := atI_nat e
  have e3 : ((i.toNat : Nat) : Int) = i := by omega
  rwa [e3] at e2
section
variable {K : PySem.W.Frag} {H : Hp} {Q : VK} {a b : Addr} {xs : List Str}
/-- two lists of the same texts -/
theorem eqStrs (ha : SqL K H a (xs.map V.str)) (hb : SqL K H b (xs.map V.str)) (h : ∀ x ∈ xs, PyData.strOk x = true) (k : Q (.bl true) H) : rEqD K (.ref a) (.ref b) H Q :=
  ⟨_, _, .lst ha (dp_strs xs), .lst hb (dp_strs xs), shaped_strs h, shaped_strs h, by rw [PyData.eqv, eqv_strs]; exact k⟩
theorem neStrs (ha : SqL K H a (xs.map V.str)) (hb : SqL K H b (xs.map V.str)) (h : ∀ x ∈ xs, PyData.strOk x = true) (k : Q (.bl false) H) : rNeD K (.ref a) (.ref b) H Q :=
  ⟨_, _, .lst ha (dp_strs xs), .lst hb (dp_strs xs), shaped_strs h, shaped_strs h, by rw [PyData.eqv, eqv_strs]; exact k⟩
end
end Z
local macro_rules | `(tactic| walk_at "z ne") => `(tactic| first | assumption | (refine Ne.symm ?_; assumption))
local macro_rules | `(tactic| walk_at "z hp") => `(tactic| first | assumption | (with_reducible exact L2.upd_same) | (refine (L2.upd_ne ?_).trans ?_; (walk_at "z ne"); walk_at "z hp"))
local macro_rules | `(tactic| walk_at "z ic") => `(tactic| first | decide | (show (0 : Int) < _; first | decide | omega) | (show (0 : Int) ≤ _; first | decide | omega) | exact ⟨by decide, by decide⟩ | exact ⟨by decide, by decide, by decide⟩ | exact .inl ⟨by omega, by omega⟩ | exact .inr ⟨by omega, by omega⟩ | exact ⟨by omega, by omega⟩)
local macro_rules | `(tactic| walk_at "z small") => `(tactic| (first | decide | (simp only [List.length_cons, List.length_nil]; decide) | omega))
local macro_rules | `(tactic| walk_at "z no") => `(tactic| rfl)
/-- a slot, an expression, a statement: as far as nothing is asked -/
local macro_rules | `(tactic| walk_at "z1") => `(tactic| first
  | (with_reducible refine Z.seq ?_) | (with_reducible refine Z.asg ?_) | (with_reducible refine Z.ret ?_) | (with_reducible refine Z.retN ?_) | (with_reducible refine Z.drop ?_) | (with_reducible refine Z.next ?_)
  | (with_reducible refine Z.ifS ?_) | (with_reducible refine Z.op ?_) | (with_reducible refine Z.un ?_) | (with_reducible refine Z.con ?_) | ((with_reducible refine' Z.var ?hv ?_); (case hv => exact rfl))
  | (with_reducible refine Z.i0 ?_) | ((with_reducible refine Z.eqS ?hs ?_); (case hs => exact rfl)) | ((with_reducible refine Z.neS ?hs ?_); (case hs => exact rfl))
  | (with_reducible refine Z.test (b := true) ?_) | (with_reducible refine Z.tstB ?_) | (with_reducible refine Z.bB ?_) | (with_reducible refine Z.andT ?_) | (with_reducible refine Z.orT ?_) | (with_reducible refine Z.notT ?_)
  | (with_reducible refine Z.andV ?_) | (with_reducible refine Z.orV ?_) | (with_reducible refine Z.notV ?_) | (with_reducible refine Z.ifE ?_) | (with_reducible refine Z.blE ?_)
  | (with_reducible refine Z.nil ?_) | (with_reducible refine Z.cons ?_) | (with_reducible refine Z.fld ?_) | (with_reducible refine Z.sfld ?_) | (with_reducible refine Z.aug ?_) | (with_reducible refine Z.rAddE ?_)
  | ((with_reducible refine' Z.fldE ?ho ?hc ?hn ?hl ?_); (case ho => walk_at "z hp"); (case hc => walk_at "z cls"); (case hn => walk_at "z attr"); (case hl => walk_at "z look"))
  | ((with_reducible refine' Z.augV ?ho ?hc ?hn ?hl ?_); (case ho => walk_at "z hp"); (case hc => walk_at "z cls"); (case hn => walk_at "z attr"); (case hl => walk_at "z look"))
  | ((with_reducible refine' Z.sfldE ?ho ?hc ?hn ?hl ?_); (case ho => walk_at "z hp"); (case hc => walk_at "z cls"); (case hn => walk_at "z attr"); (case hl => walk_at "z small"); walk_at "z put")
  | ((with_reducible refine' Z.augE ?ho ?hl ?_); (case ho => walk_at "z hp"); (case hl => walk_at "z small"); walk_at "z put")
  | (with_reducible refine Z.meth ?_) | ((with_reducible refine' Z.methE ?ho ?hl ?_); (case ho => walk_at "z hp"); (case hl => walk_at "z no"))
  | (with_reducible refine Z.make ?_) | (with_reducible refine Z.makeO ?_) | (with_reducible refine Z.m0 ?_) | (with_reducible refine Z.m1 ?_) | (with_reducible refine Z.sl ?_) | (with_reducible refine Z.noPart ?_) | (with_reducible refine Z.part ?_) | (with_reducible refine Z.partE ?_) | (with_reducible refine Z.bm ?_) | (with_reducible refine Z.bm0 ?_)
  | (with_reducible refine Z.pairsC ?_) | (with_reducible refine Z.pairsN ?_) | (with_reducible refine Z.yes ?_)
  | (with_reducible refine Z.gcons ?_) | (with_reducible refine Z.gnil ?_) | (with_reducible refine Z.gname ?_) | (with_reducible refine Z.partN ?_) | (with_reducible refine Z.forR1 ?_) | (with_reducible refine Z.forL ?_)
  | (with_reducible refine Z.asgG ?_) | (with_reducible refine Z.gsub ?_) | (with_reducible refine Z.dget ?_) | (with_reducible refine Z.dput ?_)
  | ((with_reducible refine' Z.dgetS ?ho ?he ?_); (case ho => walk_at "z hp"); (case he => walk_at "z val"))
  | ((with_reducible refine' Z.dputS ?ho ?hl ?he ?_); (case ho => walk_at "z hp"); (case hl => walk_at "z small"); (case he => walk_at "z putK"))
  | (with_reducible refine Z.lst ?_) | (with_reducible refine Z.tup ?_) | (with_reducible refine Z.call ?_) | (with_reducible refine Z.cb ?_) | ((with_reducible refine Z.ic ?hc ?_); (case hc => walk_at "z ic")))
local macro_rules | `(tactic| walk_at "z dec") => `(tactic| first | (refine Z.iteTd (by decide +kernel) ?_) | (refine Z.iteFd (by decide +kernel) ?_) | skip)
/-- .. and the tests whose answer stands there -/
theorem Z.iteId {b : Bool} {A B : Prop} (h : if b = true then A else B) : if b = true then A else B := h
local macro_rules | `(tactic| walk_at "z") => `(tactic| repeat (first | walk_at "z1" | ((with_reducible refine Z.iteId ?_); first | (refine L2.iteT ?_) | (refine L2.iteF ?_)) | (with_reducible refine Z.isN ?_) | (with_reducible refine Z.iteSelf ?_) | (with_reducible refine Z.iteNSelf ?_)))

/-! ### raising, catching -/
namespace Z
open PySem PySem.Spec L2 PyProof.Rows
section
variable {X : Cx} {C : Addr} {bmB : List Value} {B newId initId : String}
/-- X(), X an own exception class without own __init__ -/
theorem pmk_own0 {x : Str} {p pos : Pos} (F : ExcBaseFacts B newId initId bmB) (q : PySem.W.excIn X.K C bmB newId = true) (gC : X.mg x = some (.ref C)) (kC : PySem.W.keepIn X.K (.ref C) = true) (r : Raises X (.ref C)) (hg : Gl X x := by rfl)
    (hdb : (x == ("__debug__" : Str)) = false := by decide) : PMk X (.Call (.Name x p) [] [] pos) (fun _ H Q => Q (.ref C) none H) := by
  intro pins s σ H Q I h
  refine wpAny_Call_Name_kw (ld_glob I hg gC ?_ hdb)
  refine PySem.W.callWith_K0 I.kIn kC ?_
  show wpAny _ _ (PySem.call (Value.ref C) []) _ _ _
  obtain ⟨bm, N, nm, qn, bs, hdct, sn, sub, ab, col, dd, k0, k1, k2, k3, k5, mN, hC, hN, hni, T⟩ := exc_obj I.kIn q
  refine wpAny_call_exc_subT F T hC hN hni (fun h' e hm => ?_) (Nat.zero_le _)
  exact mk_of I hm r h (I.hok.gone hm.new)
/-- isinstance(e, c), e what the suite holds, of the class cls -/
def rIsG (K : PySem.W.Frag) (cls : Value) (d : Option Addr) (a : Addr) : List V → Hp → VK → Prop := fun xs H Q => ∃ (D : Addr) (c : V) (cv : Value) (b : Bool), cls = .ref D ∧ d = none ∧ ExcC K D ∧ xs = [.ref a, c] ∧ ClsV c cv ∧ PySem.W.kitOne K (.ref D) cv = some b ∧ Q (.bl b) H
theorem call_isG {a : Addr} {cls : Value} {d : Option Addr} {oe : Obj} {pn : List (Addr × Obj)} (hz : Zc cls d oe) (hf : ∃ vs, oe.data = .fields vs) : CallR (X.suite a ((a, oe) :: pn)) (.builtin "isinstance") (rIsG X.K cls d a) := by
  intro pins s σ H xs us Q I r h
  obtain ⟨D, c, cv, b, rfl, rfl, C, rfl, hc, e, q⟩ := h
  exact call_isE C hz hf pins s σ H _ us Q I r ⟨c, cv, b, rfl, fun u ru => hc.eq ru, e, q⟩
def rIsGT (K : PySem.W.Frag) (cls : Value) (d : Option Addr) (a : Addr) : List V → Hp → VK → Prop := fun xs H Q => ∃ (D tp : Addr) (cs : List V) (ws : List Value) (b : Bool), cls = .ref D ∧ d = none ∧ ExcC K D ∧ xs = [.ref a, .ref tp] ∧ H tp = some (.tup cs) ∧ Paired ClsV cs ws ∧
  PySem.W.kitAny K (.ref D) ws = some b ∧ Q (.bl b) H
theorem call_isGT {a : Addr} {cls : Value} {d : Option Addr} {oe : Obj} {pn : List (Addr × Obj)} (hz : Zc cls d oe) (hf : ∃ vs, oe.data = .fields vs) : CallR (X.suite a ((a, oe) :: pn)) (.builtin "isinstance") (rIsGT X.K cls d a) := by
  intro pins s σ H xs us Q I r h
  obtain ⟨D, tp, cs, ws, b, rfl, rfl, C, rfl, hT, k, e, q⟩ := h
  obtain ⟨u1, u2, rfl, r1, r2⟩ := vals2 r
  cases (show u1 = Value.ref a from r1)
  cases (show u2 = Value.ref tp from r2)
  obtain ⟨hget, _⟩ := I.pin (a, oe) (List.mem_append.mpr (.inl List.mem_cons_self))
  obtain ⟨vs, hv⟩ := hf
  have J : PySem.W.InstAt s.heap a oe D none := by
    obtain ⟨oc, od, oda, osl⟩ := oe
    obtain ⟨h1, h2⟩ := hz
    dsimp only at h1 h2 hv
    subst h1 h2 hv
    exact ⟨hget, rfl, rfl, trivial⟩
  obtain ⟨_, its, rv, o, h1, h2, n, h3⟩ := (show ObjOk _ _ H s.heap tp (.tup cs) from I.hok tp _ hT)
  have e3 := ClsV.all k rv
  subst e3
  obtain ⟨oc, od, dt, sl⟩ := o
  simp only at h2 h3
  subst h2 h3
  exact PySem.W.kia_tup (PySem.W.handS_kitx_exc C.hg C.hk C.hs C.hd C.ha C.hn C.ht C.hm) I.kIn J h1 e (fun z => nomatch z) fun tk => ⟨.bl b, H, I.kept (t' := tk) fun _ _ z => z, rfl, q⟩
theorem exm_of {K : PySem.W.Frag} {D S : Addr} {b : Bool} (h1 : PySem.W.subIn K (.ref S) (.type "BaseException") = some true) (h2 : PySem.W.isClsIn K S = true) (h3 : PySem.W.typeIn K (.ref S) = some (.type "type")) (h4 : PySem.W.subIn K (.ref D) (.ref S) = some b) :
    PySem.W.exmOne K (.ref D) (.ref S) = some b := by
  have e1 : (PySem.W.subIn K (.ref S) (.type "BaseException") == some true) = true := by rw [h1] <;> rfl
  have e2 : ((PySem.W.clsIn K S).isSome && PySem.W.typeIn K (.ref S) == some (.type "type")) = true := by
    have h2' : (PySem.W.clsIn K S).isSome = true := h2
    rw [h2', h3] <;> rfl
  show (if (PySem.W.subIn K (.ref S) (.type "BaseException") == some true) = true then (if ((PySem.W.clsIn K S).isSome && PySem.W.typeIn K (.ref S) == some (.type "type")) = true then PySem.W.subIn K (.ref D) (.ref S) else none) else none) = some b
  rw [if_pos e1, if_pos e2]
  exact h4
end
section
variable {X : Cx} {CX : CXT} {k : Nat} {f C : Addr} {fd : FuncData} {ps : List Str} {sp : Sp} {E : L2.St → XK} {x m : Str} {p pos apos : Pos} {e o : Expr} {es : List Expr} {ta : TE} {t : TA}
/-- o.m(..) that may raise, within a try: what is raised is wished for at the slots -/
def tMethX (C : Addr) (m : Str) (sp : Sp) (E : L2.St → XK) (ta : TE) (t : TA) : TE := fun σ H Q => ta σ H fun x H1 => ∃ a dx fs, x = .ref a ∧ H1 a = some (.ins C dx fs) ∧ fs.lookup m = none ∧ t σ H1 fun vs H2 => sp (x :: vs) H2 Q (E σ)
theorem pe_methX {pl : Sem Bool} (he : PE X o ta) (c : Cls X.K C) (hm : Meth X.K C m f) (F : FnOk X.prog X.w X.K X.mg X.base CX k f fd ps sp) (hr : Room k X.A) (hb : Binds X.K fd ps []) (hx : ∀ σ, PassesAt CX X σ (E σ)) (ha : PA X (e :: es) t)
    (hst : starEach (e :: es) X.env = (false, eval e X.env) :: starEach es X.env := by rfl) (hpl : (backTo pos (starEach es X.env)).any (·.1) = false := by rfl)
    (ht : eval (.Call (.Attribute o m apos) (e :: es) [] pos) X.env = (do
      let ov ← eval o X.env
      standAt apos.atName
      let (f, first) ← holding [ov] (getMethod ov m pl)
      callWith pos f first (backTo pos (starEach (e :: es) X.env)) (backToKw pos (keywordEach [] X.env))) := by rfl) :
    PE X (.Call (.Attribute o m apos) (e :: es) [] pos) (tMethX C m sp E ta t) := by
  refine ⟨fun pins s σ H Q I h => ?_⟩
  refine PySem.W.methodCall_KW (pl := pl) (thn (he.run pins s σ H _ I h) fun u s1 ⟨x, H1, I1, rx, a, dx, fs, ex, ea, l, q⟩ => ?_) ht
  subst ex
  obtain rfl : u = Value.ref a := rx
  refine getmeth_ok I1 ea c hm l ?_
  refine PySem.W.callWith_K (first := [.ref a]) (h₀ := X.base) I.ok.mod.kin hm.kp (thn (ha.run pos pins s1 σ H1 _ I1 q) fun us s2 ⟨vs, H2, I2, r, q2⟩ => ⟨I2.kIn, ?_⟩) hst hpl
  exact run_fnS (us := .ref a :: us) (vs := .ref a :: vs) F hr hb (hx σ) I2 (.cons rfl r) q2
variable {σ : L2.St} {H : Hp} {Q : VK}
theorem methX {E : L2.St → XK} (h : ta σ H fun x H1 => ∃ a dx fs, x = .ref a ∧ H1 a = some (.ins C dx fs) ∧ fs.lookup m = none ∧ t σ H1 fun vs H2 => sp (x :: vs) H2 Q (E σ)) : tMethX C m sp E ta t σ H Q := h
end
end Z
local macro_rules | `(tactic| walk_at "z1") => `(tactic| (with_reducible refine Z.methX ?_))

/-! ### data that stands: what is known (F) within a heap (H); both grow -/
namespace Z
open PySem L2
section
variable {K : PySem.W.Frag} {F F' G H H' H0 F0 F1 H1 F2 H2 : Hp} {p : Addr} {o o' : HO} {L L1 : List (Addr × HO)}
theorem seqT {a : Addr} {xs : List V} (e : Same H H') (h : SqT K H a xs) : SqT K H' a xs := by
  rcases h with h | h
  · rcases h with h | ⟨o, h⟩
    · exact .inl (.inl (e _ _ h))
    · exact .inl (.inr ⟨o, e _ _ h⟩)
  · exact .inr h
theorem dp_same {v : V} {d : PyData} (e : Same H H') (h : Dp K H v d) : Dp K H' v d :=
  Dp.rec (motive_1 := fun v d _ => Dp K H' v d) (motive_2 := fun vs ds _ => DpAll K H' vs ds) .non .bl .int .str (fun h _ k => .lst (e.seq h) k) (fun h _ k => .tup (seqT e h) k) .nil (fun _ _ a b => .cons a b) h
theorem dpa_same {vs : List V} {ds : List PyData} (e : Same H H') (h : DpAll K H vs ds) : DpAll K H' vs ds :=
  DpAll.rec (motive_1 := fun v d _ => Dp K H' v d) (motive_2 := fun vs ds _ => DpAll K H' vs ds) .non .bl .int .str (fun h _ k => .lst (e.seq h) k) (fun h _ k => .tup (seqT e h) k) .nil (fun _ _ a b => .cons a b) h
theorem dp_int {v : V} {i : Int} (h : Dp K H v (.int i)) : v = .int i := by cases h; rfl
theorem dp_str {v : V} {z : Str} (h : Dp K H v (.str z)) : v = .str z := by cases h; rfl
theorem dp_bool {v : V} {b : Bool} (h : Dp K H v (.bool b)) : v = .bl b := by cases h; rfl
theorem dp_none {v : V} (h : Dp K H v .none) : v = .non := by cases h; rfl
theorem dp_tup {v : V} {ds : List PyData} (h : Dp K H v (.tuple ds)) : ∃ a vs, v = .ref a ∧ SqT K H a vs ∧ DpAll K H vs ds := by
  cases h with
  | tup h1 h2 => exact ⟨_, _, rfl, h1, h2⟩
theorem dp_lst {v : V} {ds : List PyData} (h : Dp K H v (.list ds)) : ∃ a vs, v = .ref a ∧ SqL K H a vs ∧ DpAll K H vs ds := by
  cases h with
  | lst h1 h2 => exact ⟨_, _, rfl, h1, h2⟩
theorem dpa_len : ∀ {vs : List V} {ds : List PyData}, DpAll K H vs ds → vs.length = ds.length
  | _, _, .nil => rfl
  | _, _, .cons _ r => by rw [List.length_cons, List.length_cons, dpa_len r]
theorem dpa_get : ∀ {vs : List V} {ds : List PyData} {i : Nat} {d : PyData}, DpAll K H vs ds → ds[i]? = some d → ∃ v, vs[i]? = some v ∧ Dp K H v d
  | _, _, i, _, .nil, e => by simp at e
  | _, _, 0, _, .cons h _, e => by cases e; exact ⟨_, rfl, h⟩
  | _, _, i + 1, _, .cons _ r, e => by
    obtain ⟨v, e1, e2⟩ := dpa_get (i := i) r (by simpa using e)
    exact ⟨v, by simpa using e1, e2⟩
theorem dpa_ix : ∀ {vs : List V} {ds : List PyData} {i : Nat} {v : V}, DpAll K H vs ds → vs[i]? = some v → ∃ d, ds[i]? = some d ∧ Dp K H v d
  | _, _, i, _, .nil, e => by simp at e
  | _, _, 0, _, .cons h _, e => by cases e; exact ⟨_, rfl, h⟩
  | _, _, i + 1, _, .cons _ r, e => by
    obtain ⟨v, e1, e2⟩ := dpa_ix (i := i) r (by simpa using e)
    exact ⟨v, by simpa using e1, e2⟩
theorem dpa_app : ∀ {vs ws : List V} {ds es : List PyData}, DpAll K H vs ds → DpAll K H ws es → DpAll K H (vs ++ ws) (ds ++ es)
  | _, _, _, _, .nil, k => k
  | _, _, _, _, .cons h r, k => .cons h (dpa_app r k)
theorem dpa_snoc {vs : List V} {ds : List PyData} {v : V} {d : PyData} (h : DpAll K H vs ds) (k : Dp K H v d) : DpAll K H (vs ++ [v]) (ds ++ [d]) := dpa_app h (.cons k .nil)
theorem dpa_drop : ∀ {vs : List V} {ds : List PyData} (n : Nat), DpAll K H vs ds → DpAll K H (vs.drop n) (ds.drop n)
  | _, _, 0, h => h
  | _, _, _ + 1, .nil => .nil
  | _, _, n + 1, .cons _ r => dpa_drop n r
theorem dpa_take : ∀ {vs : List V} {ds : List PyData} (n : Nat), DpAll K H vs ds → DpAll K H (vs.take n) (ds.take n)
  | _, _, 0, _ => .nil
  | _, _, _ + 1, .nil => .nil
  | _, _, n + 1, .cons h r => .cons h (dpa_take n r)
theorem dpa_eraseIdx : ∀ {vs : List V} {ds : List PyData} (n : Nat), DpAll K H vs ds → DpAll K H (vs.eraseIdx n) (ds.eraseIdx n)
  | _, _, 0, .nil => .nil
  | _, _, _ + 1, .nil => .nil
  | _, _, 0, .cons _ r => r
  | _, _, n + 1, .cons h r => .cons h (dpa_eraseIdx n r)
theorem dpa_strs : ∀ {vs : List V} {zs : List Str}, DpAll K H vs (zs.map PyData.str) → vs = zs.map V.str
  | _, [], .nil => rfl
  | _, z :: r, .cons h k => by rw [dp_str h, dpa_strs k]; rfl
theorem dpa_ints : ∀ {vs : List V} {zs : List Int}, DpAll K H vs (zs.map PyData.int) → vs = zs.map V.int
  | _, [], .nil => rfl
  | _, z :: r, .cons h k => by rw [dp_int h, dpa_ints k]; rfl
theorem dpa_of_strs : ∀ (zs : List Str), DpAll K H (zs.map V.str) (zs.map PyData.str)
  | [] => .nil
  | z :: r => .cons (.str z) (dpa_of_strs r)
theorem dpa_of_ints : ∀ (zs : List Int), DpAll K H (zs.map V.int) (zs.map PyData.int)
  | [] => .nil
  | z :: r => .cons (.int z) (dpa_of_ints r)
def cutD (xs : List PyData) (lo hi : Option Int) : List PyData := (xs.drop (HT.sIx xs.length 0 lo)).take (HT.sIx xs.length xs.length hi - HT.sIx xs.length 0 lo)
theorem dpa_cut {vs : List V} {ds : List PyData} {lo hi : Option Int} (h : DpAll K H vs ds) : DpAll K H (cutV vs lo hi) (cutD ds lo hi) := by
  unfold cutV cutD
  rw [dpa_len h]
  exact dpa_take _ (dpa_drop _ h)
/-- from (F0, H0) to (F, H): what is known grows within what stands; new knowledge is of new places -/
structure Gr (F0 H0 F H : Hp) : Prop where
  f : Same F0 F
  h : Same H0 H
  fh : Same F H
  nw : ∀ b o, F b = some o → F0 b = some o ∨ H0 b = none
theorem Gr.refl (e : Same F H) : Gr F H F H := ⟨Same.refl _, Same.refl _, e, fun _ _ h => .inl h⟩
theorem Gr.trans (a : Gr F0 H0 F1 H1) (b : Gr F1 H1 F2 H2) : Gr F0 H0 F2 H2 := ⟨a.f.trans b.f, a.h.trans b.h, b.fh, fun c o e => (b.nw c o e).elim (a.nw c o) fun n => .inr (a.h.free n)⟩
/-- the state of a def that changes nothing of its caller's: own cells L, all new -/
structure Ws (L : List (Addr × HO)) (F0 H0 F H : Hp) : Prop where
  g : Gr F0 H0 F H
  nd : (L.map (·.1)).Nodup
  own : ∀ p o, (p, o) ∈ L → H p = some o ∧ F p = none ∧ H0 p = none
theorem Ws.init (e : Same F H) : Ws [] F H F H := ⟨Gr.refl e, List.nodup_nil, fun _ _ m => nomatch m⟩
theorem Ws.fh (W : Ws L F0 H0 F H) : Same F H := W.g.fh
theorem Ws.f0 (W : Ws L F0 H0 F H) : Same F0 F := W.g.f
theorem Ws.sees (W : Ws L F0 H0 F H) : Sees L H := fun p o m => (W.own p o m).1
theorem Ws.at (W : Ws L F0 H0 F H) (i : Nat) (h : L[i]? = some (p, o)) : H p = some o := W.sees.at i h
theorem Ws.same (W : Ws L F0 H0 F H) : Same H0 H := W.g.h
theorem Ws.freeF (W : Ws L F0 H0 F H) (hp : H p = none) : F p = none := W.fh.free hp
theorem Ws.fresh (W : Ws L F0 H0 F H) (hp : H p = none) : p ∉ L.map (·.1) := fun m => by
  obtain ⟨⟨q, u⟩, m, e⟩ := List.mem_map.mp m
  have h := (W.own q u m).1
  have e' : q = p := e
  rw [e', hp] at h
  cases h
/-- an own cell made -/
theorem Ws.new (W : Ws L F0 H0 F H) (hp : H p = none) : Ws ((p, o) :: L) F0 H0 F (upd H p o) := by
  refine ⟨⟨W.g.f, W.g.h.trans (same_new hp), W.g.fh.trans (same_new hp), W.g.nw⟩, List.nodup_cons.mpr ⟨W.fresh hp, W.nd⟩, fun q u m => ?_⟩
  rcases List.mem_cons.mp m with m | m
  · cases m
    exact ⟨upd_same, W.freeF hp, W.g.h.free hp⟩
  · obtain ⟨a, b, c⟩ := W.own q u m
    exact ⟨same_new hp q u a, b, c⟩
/-- a piece of data made -/
theorem Ws.dat (W : Ws L F0 H0 F H) (hp : H p = none) : Ws L F0 H0 (upd F p o) (upd H p o) := by
  have fp := W.freeF hp
  refine ⟨⟨W.g.f.trans (same_new fp), W.g.h.trans (same_new hp), fun b u e => ?_, fun b u e => ?_⟩, W.nd, fun q u m => ?_⟩
  · by_cases h : b = p
    · subst h; rw [upd_same] at e ⊢; exact e
    · rw [upd_ne h] at e ⊢; exact W.g.fh b u e
  · by_cases h : b = p
    · subst h; exact .inr (W.g.h.free hp)
    · rw [upd_ne h] at e; exact W.g.nw b u e
  · obtain ⟨a, b, c⟩ := W.own q u m
    have hne : q ≠ p := ne_of_none a hp
    exact ⟨by rw [upd_ne hne]; exact a, by rw [upd_ne hne]; exact b, c⟩
theorem Ws.perm (W : Ws L F0 H0 F H) (e : L.Perm L1) : Ws L1 F0 H0 F H := ⟨W.g, (e.map _).nodup_iff.mp W.nd, fun p o m => W.own p o (e.mem_iff.mpr m)⟩
theorem Ws.head (W : Ws ((p, o) :: L) F0 H0 F H) (o' : HO) : Ws ((p, o') :: L) F0 H0 F (upd H p o') := by
  obtain ⟨a, b, c⟩ := W.own p o List.mem_cons_self
  have nd := W.nd
  rw [List.map_cons, List.nodup_cons] at nd
  refine ⟨⟨W.g.f, fun q u e => ?_, fun q u e => ?_, W.g.nw⟩, by rw [List.map_cons, List.nodup_cons]; exact nd, fun q u m => ?_⟩
  · have hne : q ≠ p := fun h => by rw [h, c] at e; cases e
    rw [upd_ne hne]; exact W.g.h q u e
  · have hne : q ≠ p := fun h => by rw [h, b] at e; cases e
    rw [upd_ne hne]; exact W.g.fh q u e
  · rcases List.mem_cons.mp m with m | m
    · cases m
      exact ⟨upd_same, b, c⟩
    · have hne : q ≠ p := fun e => nd.1 (List.mem_map.mpr ⟨(q, u), m, e⟩)
      obtain ⟨x, y, z⟩ := W.own q u (List.mem_cons_of_mem _ m)
      exact ⟨by rw [upd_ne hne]; exact x, y, z⟩
theorem Ws.set (W : Ws L F0 H0 F H) (i : Nat) (h : L[i]? = some (p, o)) (o' : HO) : Ws (L.set i (p, o')) F0 H0 F (upd H p o') :=
  ((W.perm (self_perm h)).head o').perm (set_perm h (p, o')).symm
theorem Ws.sub (W : Ws L F0 H0 F H) (e : L1.Sublist L) : Ws L1 F0 H0 F H := ⟨W.g, (e.map _).nodup W.nd, fun p o m => W.own p o (e.subset m)⟩
/-- an own cell becomes data -/
theorem Ws.frz1 (W : Ws ((p, o) :: L) F0 H0 F H) : Ws L F0 H0 (upd F p o) H := by
  obtain ⟨a, b, c⟩ := W.own p o List.mem_cons_self
  have nd := W.nd
  rw [List.map_cons, List.nodup_cons] at nd
  refine ⟨⟨W.g.f.trans (same_new b), W.g.h, fun q u e => ?_, fun q u e => ?_⟩, nd.2, fun q u m => ?_⟩
  · by_cases h : q = p
    · subst h; rw [upd_same] at e; cases e; exact a
    · rw [upd_ne h] at e; exact W.g.fh q u e
  · by_cases h : q = p
    · subst h; exact .inr c
    · rw [upd_ne h] at e; exact W.g.nw q u e
  · have hne : q ≠ p := fun e => nd.1 (List.mem_map.mpr ⟨(q, u), m, e⟩)
    obtain ⟨x, y, z⟩ := W.own q u (List.mem_cons_of_mem _ m)
    exact ⟨x, by rw [upd_ne hne]; exact y, z⟩
theorem Ws.frz (W : Ws L F0 H0 F H) (i : Nat) (h : L[i]? = some (p, o)) : ∃ F', Ws (L.eraseIdx i) F0 H0 F' H ∧ Same F F' ∧ F' p = some o := by
  have W1 := W.perm (self_perm h)
  exact ⟨_, W1.frz1, same_new (W1.own p o List.mem_cons_self).2.1, upd_same⟩
/-- behind a def that changed nothing -/
theorem Ws.ext (W : Ws L F0 H0 F H) (g : Gr F H F' H') : Ws L F0 H0 F' H' := by
  refine ⟨W.g.trans g, W.nd, fun p o m => ?_⟩
  obtain ⟨a, b, c⟩ := W.own p o m
  refine ⟨g.h p o a, ?_, c⟩
  cases e : F' p with
  | none => rfl
  | some u =>
    rcases g.nw p u e with h | h
    · rw [b] at h; cases h
    · rw [a] at h; cases h
theorem Ws.exts (W : Ws L F0 H0 F H) (g : Same H H') : Ws L F0 H0 F H' := ⟨⟨W.g.f, W.g.h.trans g, W.g.fh.trans g, W.g.nw⟩, W.nd, fun p o m => let ⟨a, b, c⟩ := W.own p o m; ⟨g p o a, b, c⟩⟩
end
section
variable {K : PySem.W.Frag} {F H F0 H0 : Hp} {L : List (Addr × HO)} {Q : VK} {vs xs : List V} {ds es : List PyData} {d : PyData} {v : V} {a p : Addr}
theorem lstW (W : Ws L F0 H0 F H) (k : ∀ p H', Ws ((p, .lst vs) :: L) F0 H0 F H' → Q (.ref p) H') (hz : vs.length ≤ 100000 := by first | decide | (simp only [List.length_cons, List.length_nil]; decide)) : rLst vs H Q :=
  ⟨Nat.le_trans hz (by decide), fun p hp => k p _ (W.new hp)⟩
/-- a list that nobody changes any more -/
theorem lstD (W : Ws L F0 H0 F H) (hd : DpAll K F vs ds) (k : ∀ v F' H', Ws L F0 H0 F' H' → Same F F' → Dp K F' v (.list ds) → Q v H') (hz : vs.length ≤ 100000 := by first | decide | (simp only [List.length_cons, List.length_nil]; decide)) : rLst vs H Q :=
  ⟨Nat.le_trans hz (by decide), fun p hp => k _ _ _ (W.dat hp) (same_new (W.freeF hp)) (.lst (SqL.of upd_same) (dpa_same (same_new (W.freeF hp)) hd))⟩
theorem tupD (W : Ws L F0 H0 F H) (hd : DpAll K F vs ds) (k : ∀ v F' H', Ws L F0 H0 F' H' → Same F F' → Dp K F' v (.tuple ds) → Q v H') (hz : vs.length ≤ 100000 := by first | decide | (simp only [List.length_cons, List.length_nil]; decide)) : rTup vs H Q :=
  ⟨Nat.le_trans hz (by decide), fun p hp => k _ _ _ (W.dat hp) (same_new (W.freeF hp)) (.tup (SqT.of upd_same) (dpa_same (same_new (W.freeF hp)) hd))⟩
/-- xs.append(e) of an own list -/
theorem appW (W : Ws L F0 H0 F H) (i : Nat) (h : L[i]? = some (p, .lst xs)) (k : ∀ H', Ws (L.set i (p, .lst (xs ++ [v]))) F0 H0 F H' → Q .non H') (hz : xs.length < 100000) : rAppend (.ref p) [v] H Q :=
  ⟨p, xs, v, rfl, rfl, W.at i h, Nat.lt_of_lt_of_le hz (by decide), k _ (W.set i h _)⟩
end
end Z
/-! ### readings over data -/
namespace Z
open PySem PySem.Spec L2 PyProof.Rows
theorem Ws.hs {L : List (Addr × HO)} {F0 H0 F H : Hp} (W : Ws L F0 H0 F H) : Hs L F H := ⟨W.nd, fun p o m => ⟨(W.own p o m).1, (W.own p o m).2.1⟩, W.fh⟩
theorem Ws.hs0 {L : List (Addr × HO)} {F0 H0 F H : Hp} (W : Ws L F0 H0 F H) : Hs L H0 H := ⟨W.nd, fun p o m => ⟨(W.own p o m).1, (W.own p o m).2.2⟩, W.same⟩
theorem Ws.pick {L L' : List (Addr × HO)} {F0 H0 F H : Hp} (W : Ws L F0 H0 F H) (is : List Nat) (hn : is.Nodup) (h : is.map (fun i => L[i]?) = L'.map some) : Ws L' F0 H0 F H :=
  ⟨W.g, (W.hs.pick is hn h).nd, fun p o m => ⟨((W.hs.pick is hn h).own p o m).1, ((W.hs.pick is hn h).own p o m).2, ((W.hs0.pick is hn h).own p o m).2⟩⟩
theorem Ws.join {L N : List (Addr × HO)} {F0 H0 F H F' H' : Hp} (W : Ws L F0 H0 F H) (M : Ws N F H F' H') : Ws (N ++ L) F0 H0 F' H' := by
  have W1 := W.ext M.g
  refine ⟨W1.g, ?_, fun p o m => ?_⟩
  · rw [List.map_append, List.nodup_append]
    refine ⟨M.nd, W1.nd, fun a ha b hb e => ?_⟩
    subst e
    obtain ⟨⟨q, u⟩, m, rfl⟩ := List.mem_map.mp ha
    obtain ⟨⟨q', u'⟩, m', e⟩ := List.mem_map.mp hb
    have e' : q' = q := e
    subst e'
    have h1 := (M.own _ u m).2.2
    rw [(W.own _ u' m').1] at h1
    cases h1
  · rcases List.mem_append.mp m with m | m
    · obtain ⟨h1, h2, h3⟩ := M.own p o m
      exact ⟨h1, h2, W.g.h.free h3⟩
    · exact W1.own p o m
theorem Ws.many {L : List (Addr × HO)} {F0 H0 F H H' : Hp} (W : Ws L F0 H0 F H) (s : Same H H') {ts : List Addr} (hts : ∀ t ∈ ts, H t = none) : ∃ F', Ws L F0 H0 F' H' ∧ Same F F' ∧ ∀ t ∈ ts, F' t = H' t := by
  have fno : ∀ b o, F b = some o → b ∉ ts := fun b o e m => by
    have := W.fh b o e
    rw [hts b m] at this
    cases this
  refine ⟨fun b => if b ∈ ts then H' b else F b, ⟨⟨fun b o e => ?_, W.g.h.trans s, fun b o e => ?_, fun b o e => ?_⟩, W.nd, fun p o m => ?_⟩, fun b o e => ?_, fun t ht => if_pos ht⟩
  · have := W.g.f b o e
    exact (if_neg (fno b o this)).trans this
  · by_cases h : b ∈ ts
    · have e' : H' b = some o := (if_pos h).symm.trans e
      exact e'
    · have e' : F b = some o := (if_neg h).symm.trans e
      exact s b o (W.g.fh b o e')
  · by_cases h : b ∈ ts
    · exact .inr (W.g.h.free (hts b h))
    · exact W.g.nw b o ((if_neg h).symm.trans e)
  · obtain ⟨a, b, c⟩ := W.own p o m
    have hn : p ∉ ts := fun h => by rw [hts p h] at a; cases a
    exact ⟨s p o a, (if_neg hn).trans b, c⟩
  · exact (if_neg (fno b o e)).trans e
theorem Ws.add {L : List (Addr × HO)} {F0 H0 F H H' : Hp} {p : Addr} {o : HO} (W : Ws L F0 H0 F H) (e : Same H H') (hp : H p = none) (h : H' p = some o) : Ws ((p, o) :: L) F0 H0 F H' := by
  have W1 := W.exts e
  refine ⟨W1.g, List.nodup_cons.mpr ⟨W.fresh hp, W1.nd⟩, fun q u m => ?_⟩
  rcases List.mem_cons.mp m with m | m
  · cases m
    exact ⟨h, W.freeF hp, W.g.h.free hp⟩
  · exact W1.own q u m
section
variable {K : PySem.W.Frag} {F F' H H' F0 H0 : Hp} {L : List (Addr × HO)} {Q : VK} {vs xs : List V} {ds es : List PyData} {d e : PyData} {v w x : V} {a p : Addr} {σ : L2.St} {i : Nat}
/-- the word of a comprehension that makes data -/
def LcP (K : PySem.W.Frag) (D : Addr) (L : List (Addr × HO)) (F0 H0 F : Hp) (ds : List PyData) (i : Nat) (H : Hp) : Prop := ∃ F' vs, Ws ((D, .lst vs) :: L) F0 H0 F' H ∧ Same F F' ∧ DpAll K F' vs (ds.take i)
theorem lc0 {D : Addr} (W : Ws L F0 H0 F H) (hD : H D = none) : LcP K D L F0 H0 F ds 0 (upd H D (.lst [])) := ⟨F, [], W.new hD, Same.refl _, by rw [List.take_zero]; exact .nil⟩
theorem lcS {D : Addr} {F1 : Hp} (W : Ws ((D, .lst vs) :: L) F0 H0 F1 H) (s : Same F F1) (ha : DpAll K F1 vs (ds.take i)) (hi : ds[i]? = some d) (hv : Dp K F1 v d) (hz : ds.length ≤ 100000) :
    ∃ acc, H D = some (.lst acc) ∧ acc.length < sizeLine ∧ LcP K D L F0 H0 F ds (i + 1) (upd H D (.lst (acc ++ [v]))) := by
  have hlt := (List.getElem?_eq_some_iff.mp hi).1
  refine ⟨vs, W.at 0 rfl, ?_, F1, vs ++ [v], W.set 0 rfl _, s, ?_⟩
  · rw [dpa_len ha, List.length_take]
    exact Nat.lt_of_lt_of_le (show min i ds.length < 100001 by omega) (by decide)
  · rw [List.take_add_one, hi]
    exact dpa_snoc ha hv
theorem ixT (h : Dp K F v (.tuple ds)) (s : Same F H) (i : Nat) (e : ds[i]? = some d) (k : ∀ w, Dp K F w d → Q w H) : rIxT K v (.int (i : Int)) H Q := by
  obtain ⟨a, vs, rfl, h1, h2⟩ := dp_tup h
  obtain ⟨w, e1, e2⟩ := dpa_get h2 e
  exact ⟨a, vs, i, w, rfl, rfl, seqT s h1, atI_nat e1, k w e2⟩
theorem ixD (h : Dp K F v (.list ds)) (s : Same F H) (i : Nat) (e : ds[i]? = some d) (k : ∀ w, Dp K F w d → Q w H) : rIxL K v (.int (i : Int)) H Q := by
  obtain ⟨a, vs, rfl, h1, h2⟩ := dp_lst h
  obtain ⟨w, e1, e2⟩ := dpa_get h2 e
  exact ⟨a, vs, i, w, rfl, rfl, s.seq h1, atI_nat e1, k w e2⟩
theorem gtupD {n : Nat} {t : TGs} {R : L2.St → Hp → Prop} (h : Dp K F v (.tuple ds)) (s : Same F H) (k : ∀ vs, DpAll K F vs ds → t vs σ H R) (hn : ds.length = n := by rfl) : gTup K n t v σ H R := by
  obtain ⟨a, vs, rfl, h1, h2⟩ := dp_tup h
  exact ⟨a, vs, rfl, seqT s h1, (dpa_len h2).trans hn, k vs h2⟩
theorem dpa2 {d1 d2 : PyData} (h : DpAll K F vs [d1, d2]) : ∃ v1 v2, vs = [v1, v2] ∧ Dp K F v1 d1 ∧ Dp K F v2 d2 := by
  cases h with
  | cons h1 h2 =>
    cases h2 with
    | cons h2 h3 =>
      cases h3
      exact ⟨_, _, rfl, h1, h2⟩
theorem dpa1 {d1 : PyData} (h : DpAll K F vs [d1]) : ∃ v1, vs = [v1] ∧ Dp K F v1 d1 := by
  cases h with
  | cons h1 h2 =>
    cases h2
    exact ⟨_, rfl, h1⟩
theorem eqD (h1 : Dp K F v d) (h2 : Dp K F w e) (s : Same F H) (o1 : SeqAt.shaped d = true) (o2 : SeqAt.shaped e = true) (k : Q (.bl (PyData.eqv d e)) H) : rEqD K v w H Q := ⟨d, e, dp_same s h1, dp_same s h2, o1, o2, k⟩
theorem neD (h1 : Dp K F v d) (h2 : Dp K F w e) (s : Same F H) (o1 : SeqAt.shaped d = true) (o2 : SeqAt.shaped e = true) (k : Q (.bl (!PyData.eqv d e)) H) : rNeD K v w H Q := ⟨d, e, dp_same s h1, dp_same s h2, o1, o2, k⟩
/-- t + u -/
theorem catD (W : Ws L F0 H0 F H) (h1 : Dp K F v (.tuple ds)) (h2 : Dp K F w (.tuple es)) (hz : ds.length + es.length ≤ 100000) (k : ∀ r F' H', Ws L F0 H0 F' H' → Same F F' → Dp K F' r (.tuple (ds ++ es)) → Q r H') : rCatA K v w H Q := by
  obtain ⟨a, vs, rfl, a1, a2⟩ := dp_tup h1
  obtain ⟨b, ws, rfl, b1, b2⟩ := dp_tup h2
  refine ⟨a, b, vs, ws, rfl, rfl, seqT W.fh a1, seqT W.fh b1, by rw [dpa_len a2, dpa_len b2]; exact Nat.le_trans hz (by decide), fun e => ?_, fun e1 e2 => ?_, fun e1 e2 p hp => ?_⟩
  · subst e
    have := dpa_len a2
    have e : ds = [] := List.length_eq_zero_iff.mp this.symm
    subst e
    exact k _ _ _ W (Same.refl _) h2
  · subst e2
    have := dpa_len b2
    have e : es = [] := List.length_eq_zero_iff.mp this.symm
    subst e
    rw [List.append_nil] at k
    exact k _ _ _ W (Same.refl _) h1
  · have s := same_new (o := .tup (vs ++ ws)) (W.freeF hp)
    exact k _ _ _ (W.dat hp) s (.tup (SqT.of upd_same) (dpa_app (dpa_same s a2) (dpa_same s b2)))
/-- t[lo:hi] -/
theorem slT {lo hi : Option Int} (W : Ws L F0 H0 F H) (h1 : Dp K F v (.tuple ds)) (k : ∀ r F' H', Ws L F0 H0 F' H' → Same F F' → Dp K F' r (.tuple (cutD ds lo hi)) → Q r H') : rSlA K v lo hi H Q := by
  obtain ⟨a, vs, rfl, a1, a2⟩ := dp_tup h1
  refine ⟨a, vs, rfl, seqT W.fh a1, fun e => ?_, fun e p hp => ?_⟩
  · have hw : cutD ds lo hi = ds := by
      unfold cutD
      rw [dpa_len a2] at e
      rw [e.1, e.2]
      simp
    rw [hw] at k
    exact k _ _ _ W (Same.refl _) h1
  · have s := same_new (o := .tup (cutV vs lo hi)) (W.freeF hp)
    exact k _ _ _ (W.dat hp) s (.tup (SqT.of upd_same) (dpa_same s (dpa_cut a2)))
theorem slD {lo hi : Option Int} (W : Ws L F0 H0 F H) (h1 : Dp K F v (.list ds)) (k : ∀ r F' H', Ws L F0 H0 F' H' → Same F F' → Dp K F' r (.list (cutD ds lo hi)) → Q r H') : rSlL K v lo hi H Q := by
  obtain ⟨a, vs, rfl, a1, a2⟩ := dp_lst h1
  refine ⟨a, vs, rfl, W.fh.seq a1, fun p hp => ?_⟩
  have s := same_new (o := .lst (cutV vs lo hi)) (W.freeF hp)
  exact k _ _ _ (W.dat hp) s (.lst (SqL.of upd_same) (dpa_same s (dpa_cut a2)))
/-! isinstance over data -/
def tyN : PyData → String
  | .none => "NoneType"
  | .bool _ => "bool"
  | .int _ => "int"
  | .str _ => "str"
  | .list _ => "list"
  | .tuple _ => "tuple"
  | .dict _ => "dict"
theorem ty_dp (h : Dp K H v d) : TyX K H v (.type (tyN d)) := by
  cases h with
  | non => exact .base .non
  | bl b => exact .base (.bl b)
  | int i => exact .base (.int i)
  | str z => exact .base (.str z)
  | lst h _ =>
    rcases h with (h | ⟨o, h⟩) | ⟨o, its, n, h, hc, _⟩
    · exact .base (.lst h)
    · exact .base (.frz h)
    · exact .kList h hc
  | tup h _ =>
    rcases h with (h | ⟨o, h⟩) | ⟨o, its, n, h, hc, _⟩
    · exact .base (.tup h)
    · exact .fTuple h
    · exact .kTuple h hc
end
end Z

/-! ### isinstance, in, for over data; tuple(d.items()) -/
namespace Z
open PySem PySem.Spec L2 PyProof.Rows
section
variable {K : PySem.W.Frag} {F F' H H' F0 H0 : Hp} {L : List (Addr × HO)} {Q : VK} {vs xs : List V} {ds es : List PyData} {d e : PyData} {v w x : V} {a p : Addr} {σ : L2.St} {i : Nat}
def isTy (T : String) (d : PyData) : Bool := tyN d == T || (T == "int" && tyN d == "bool")
theorem kitN : ∀ n ∈ ["NoneType", "bool", "int", "str", "list", "tuple", "dict"], ∀ T ∈ ["str", "int", "bool", "list", "tuple"], kitB n T = some (n == T || (T == "int" && n == "bool")) := by decide +kernel
theorem tyN_in (d : PyData) : tyN d ∈ ["NoneType", "bool", "int", "str", "list", "tuple", "dict"] := by cases d <;> simp [tyN]
theorem kitD {T : String} (hT : T ∈ ["str", "int", "bool", "list", "tuple"]) : PySem.W.kitOne K (.type (tyN d)) (.type T) = some (isTy T d) := kit_ty (kitN _ (tyN_in d) T hT)
theorem isiD {T : String} (h : Dp K F v d) (s : Same F H) (hT : T ∈ ["str", "int", "bool", "list", "tuple"]) (k : Q (.bl (isTy T d)) H) : rIsi K [v, .ty T] H Q := ⟨v, .ty T, _, .type T, _, rfl, .ty T, ty_dp (dp_same s h), kitD hT, k⟩
theorem kitSeq : PySem.W.kitAny K (.type (tyN d)) [.type "list", .type "tuple"] = some (isTy "list" d || isTy "tuple" d) :=
  kitAny_cons (kitD (by simp)) (fun e => kitAny_cons (kitD (by simp)) (fun e2 => by rw [e, e2]; exact kitAny_nil) (fun e2 => by rw [e2]; simp)) (fun e => by rw [e]; rfl)
theorem isiSeq (h : Dp K F v d) (s : Same F H) (hp : H p = some (.tup [.ty "list", .ty "tuple"])) (k : Q (.bl (isTy "list" d || isTy "tuple" d)) H) : rIsiT K [v, .ref p] H Q :=
  ⟨v, p, _, _, _, _, rfl, hp, .cons (.ty "list") (.cons (.ty "tuple") .nil), ty_dp (dp_same s h), kitSeq, k⟩
def rInDT (K : PySem.W.Frag) : R2 := fun x y H Q => ∃ d ds, Dp K H x d ∧ Dp K H y (.tuple ds) ∧ SeqAt.shaped d = true ∧ SeqAt.shaped (.tuple ds) = true ∧ Q (.bl (ds.any fun z => PyData.eqv z d)) H
theorem op_inDT {X : Cx} (hu : X.A.units + 65 < cLine) : OpR X (compareOp .In) (rInDT X.K) := by
  intro pins s σ H x y v u Q I rx ry h
  obtain ⟨d, ds, hd, he, sd, se, q⟩ := h
  obtain ⟨as, r1⟩ := Dp.reads I d x v hd rx
  obtain ⟨bs, r2⟩ := Dp.reads I (.tuple ds) y u he ry
  exact SeqAt.in_tuple_reads r2 r1 (SeqAt.canLay_of_shaped se) (SeqAt.canLay_of_shaped sd) (room_in_shaped sd hu) ⟨.bl _, H, I, rfl, q⟩
theorem hu65 {k : Nat} {A : Around} (r : Room k A) : A.units + 65 < cLine := by have := r.un; omega
theorem din {ty td : TE} (h : ty σ H fun y H1 => td σ H1 fun x H2 => ∃ a o, x = .ref a ∧ DGet H2 a y o ∧ Q (.bl o.isSome) H2) : tDIn ty td σ H Q := h
theorem dnotin {ty td : TE} (h : ty σ H fun y H1 => td σ H1 fun x H2 => ∃ a o, x = .ref a ∧ DGet H2 a y o ∧ Q (.bl (!o.isSome)) H2) : tDNotIn ty td σ H Q := h
theorem lcE {wi : TI} {g : TG} {tt : TT} {te : TE} {ws : List Nat} (h : wi σ H fun J H1 => ∀ D, H1 D = none → ∃ W : Nat → Nat → Hp → Prop, (∃ m, W 0 m (upd H1 D (.lst []))) ∧ ∀ i m H, W i m H →
  (J.stop i H ∧ Q (.ref D) H) ∨ (J.go i H ∧ ∃ Nx : Hp → Prop, (∀ H', Nx H' → ∃ m', m' < m ∧ W (i + 1) m' H') ∧ ∀ x H', J.yld i H x H' → g x (wipe σ ws) H' fun σ2 H2 => wipe σ2 ws = wipe σ ws ∧ tt σ2 H2 fun b H3 =>
    if b = true then te σ2 H3 fun y H4 => ∃ acc, H4 D = some (.lst acc) ∧ acc.length < sizeLine ∧ Nx (upd H4 D (.lst (acc ++ [y]))) else Nx H3)) : tLc wi g tt te ws σ H Q := h
theorem iTupE {te : TE} {R : It → Hp → Prop} (h : te σ H fun x H1 => ∃ a, x = .ref a ∧ (∃ xs, SqT K H1 a xs) ∧ R (Itt K a) H1) : iTup K te σ H R := h
theorem iListE {te : TE} {R : It → Hp → Prop} (h : te σ H fun x H1 => ∃ a, x = .ref a ∧ (∃ xs, SqL K H1 a xs) ∧ R (Itl K a) H1) : iList K te σ H R := h
theorem iEnumE {ta : TA} {R : It → Hp → Prop} (h : ta σ H fun vs H1 => ∃ a xs, vs = [.ref a] ∧ SqL K H1 a xs ∧ R (Ite K a) H1) : iEnum K ta σ H R := h
theorem iZipAE {ta : TA} {R : It → Hp → Prop} (h : ta σ H fun vs H1 => ∃ a b xs ys, vs = [.ref a, .ref b] ∧ ((SqL K H1 a xs ∧ SqL K H1 b ys ∧ R (Itz K a b) H1) ∨ (SqT K H1 a xs ∧ SqT K H1 b ys ∧ R (RZ.ItzT K a b) H1))) : RZ.iZipA K ta σ H R := h
theorem forE {wi : TI} {g : TG} {ts : TS} {D : Ends} (h : wi σ H fun J H1 => ∃ W : Nat → Nat → L2.St → Hp → Prop, (∃ m, W 0 m σ H1) ∧ ∀ i m σ H, W i m σ H →
      (J.stop i H ∧ D.nx σ H) ∨ (J.go i H ∧ ∃ N : L2.St → Hp → Prop, (∀ σ' H', N σ' H' → ∃ m', m' < m ∧ W (i + 1) m' σ' H') ∧ ∀ x H', J.yld i H x H' → g x σ H' fun σ2 H2 => ts { D with nx := N, ct := N, bk := D.nx } σ2 H2)) : tFor wi g ts D σ H := h
/-- for over a list or a tuple -/
def iSeq (K : PySem.W.Frag) (tl : TE) : TI := fun σ H R => tl σ H fun x H1 => ∃ a, x = .ref a ∧ (((∃ xs, SqL K H1 a xs) ∧ R (Itl K a) H1) ∨ ((∃ xs, SqT K H1 a xs) ∧ R (Itt K a) H1))
theorem pi_seq {X : Cx} {tg l : Expr} {tl : TE} (hl : PE X l tl) : PI X tg l (iSeq X.K tl) := by
  refine ⟨fun pins s σ H R I h => ?_⟩
  refine thn (hl.run pins s σ H _ I h) fun v s1 ⟨x, H1, I1, r1, q1⟩ => ?_
  obtain ⟨a, e, q⟩ := q1
  subst e
  cases r1
  rcases q with ⟨⟨xs, hq⟩, q⟩ | ⟨⟨xs, hq⟩, q⟩
  · obtain ⟨its, rv, p, hz⟩ := I1.list hq
    refine wpAny_pyIter_list p.isList ?_
    refine ⟨s1.heap.objs.size, [s1.heap.objs.size], _, _, H1, rfl, I1.kept (t' := s1.toks) fun b o e => Heap.get?_push_of_some _ e, turn_list a _, ⟨_, Heap.get?_push_size _ rfl, rfl, rfl⟩, fun b hb => ?_, q⟩
    have e : b = s1.heap.objs.size := by simpa using hb
    subst e
    exact I1.fpOk (Nat.le_refl _) (I1.hok.fresh (Nat.le_refl _))
  · obtain ⟨its, rv, p, hz⟩ := I1.tuple hq
    refine wpAny_pyIter_tuple (show s1.heap.IsTuple a its.toArray from p) ?_
    refine ⟨s1.heap.objs.size, [s1.heap.objs.size], _, _, H1, rfl, I1.kept (t' := s1.toks) fun b o e => Heap.get?_push_of_some _ e, turn_tuple a _, ⟨_, Heap.get?_push_size _ rfl, rfl, rfl⟩, fun b hb => ?_, q⟩
    have e : b = s1.heap.objs.size := by simpa using hb
    subst e
    exact I1.fpOk (Nat.le_refl _) (I1.hok.fresh (Nat.le_refl _))
theorem forSq {te : TE} {g : TG} {ts : TS} {D : Ends} {σ : L2.St} {H : Hp} (h : te σ H fun x H1 => ∃ a, x = .ref a ∧ (((∃ xs, SqL K H1 a xs) ∧ ∃ W : Nat → Nat → L2.St → Hp → Prop, (∃ m, W 0 m σ H1) ∧ ∀ i m σ H, W i m σ H →
      ((Itl K a).stop i H ∧ D.nx σ H) ∨ ((Itl K a).go i H ∧ ∃ N : L2.St → Hp → Prop, (∀ σ' H', N σ' H' → ∃ m', m' < m ∧ W (i + 1) m' σ' H') ∧ ∀ x H', (Itl K a).yld i H x H' → g x σ H' fun σ2 H2 => ts { D with nx := N, ct := N, bk := D.nx } σ2 H2)) ∨
      ((∃ xs, SqT K H1 a xs) ∧ ∃ W : Nat → Nat → L2.St → Hp → Prop, (∃ m, W 0 m σ H1) ∧ ∀ i m σ H, W i m σ H →
      ((Itt K a).stop i H ∧ D.nx σ H) ∨ ((Itt K a).go i H ∧ ∃ N : L2.St → Hp → Prop, (∀ σ' H', N σ' H' → ∃ m', m' < m ∧ W (i + 1) m' σ' H') ∧ ∀ x H', (Itt K a).yld i H x H' → g x σ H' fun σ2 H2 => ts { D with nx := N, ct := N, bk := D.nx } σ2 H2)))) : tFor (iSeq K te) g ts D σ H := h
/-- a for over a list or a tuple of which each turn keeps what stands -/
theorem forSqD {g : TG} {ts : TS} {D : Ends} {σ : L2.St} {Hb H1 : Hp} (hq : SqL K H1 a xs ∨ SqT K H1 a xs) (Pv : Nat → L2.St → Hp → Prop) (h0 : Pv 0 σ H1) (hb : SqL K Hb a xs ∨ SqT K Hb a xs) (hk : ∀ i σ H, Pv i σ H → Same Hb H)
    (hs : ∀ i x σ H, xs[i]? = some x → Pv i σ H → g x σ H fun σ2 H2 => ts { D with nx := Pv (i + 1), ct := Pv (i + 1), bk := D.nx } σ2 H2) (hd : ∀ σ H, Pv xs.length σ H → D.nx σ H) :
    ∃ b, V.ref a = .ref b ∧ (((∃ xs, SqL K H1 b xs) ∧ ∃ W : Nat → Nat → L2.St → Hp → Prop, (∃ m, W 0 m σ H1) ∧ ∀ i m σ H, W i m σ H →
      ((Itl K b).stop i H ∧ D.nx σ H) ∨ ((Itl K b).go i H ∧ ∃ N : L2.St → Hp → Prop, (∀ σ' H', N σ' H' → ∃ m', m' < m ∧ W (i + 1) m' σ' H') ∧ ∀ x H', (Itl K b).yld i H x H' → g x σ H' fun σ2 H2 => ts { D with nx := N, ct := N, bk := D.nx } σ2 H2)) ∨
      ((∃ xs, SqT K H1 b xs) ∧ ∃ W : Nat → Nat → L2.St → Hp → Prop, (∃ m, W 0 m σ H1) ∧ ∀ i m σ H, W i m σ H →
      ((Itt K b).stop i H ∧ D.nx σ H) ∨ ((Itt K b).go i H ∧ ∃ N : L2.St → Hp → Prop, (∀ σ' H', N σ' H' → ∃ m', m' < m ∧ W (i + 1) m' σ' H') ∧ ∀ x H', (Itt K b).yld i H x H' → g x σ H' fun σ2 H2 => ts { D with nx := N, ct := N, bk := D.nx } σ2 H2))) := by
  refine ⟨a, rfl, ?_⟩
  rcases hb with hb | hb
  · exact .inl ⟨⟨xs, (hk _ _ _ h0).seq hb⟩, for_list Pv h0 (fun i σ H hi p => (hk i σ H p).seq hb) hs hd⟩
  · exact .inr ⟨⟨xs, seqT (hk _ _ _ h0) hb⟩, for_tup Pv h0 (fun i σ H hi p => seqT (hk i σ H p) hb) hs hd⟩
end
end Z
/-! tuple(d.items()) -/
namespace ZT
open PySem PySem.Spec L2 PyProof.Rows
section
variable {prog : Program} {w : World} {Kk : Type} [DecidableEq Kk] {knd : KeyKind prog w Kk} {A : Around} {E : Value → Shared → Prop} {s : Shared} {r d : Addr} {kvs : List (Kk × Value)} {ep : Nat}
theorem call_tuple_items {Q : Value → Shared → Prop} (hh : A.handled = none) (hv : s.heap.IsItemsView r d) (hm : s.heap.DictAt knd d kvs ep) (hn : kvs.length ≤ sizeLine)
    (hQ : ∀ (h' : Heap) (tk : Nat) (as : List Addr), (∀ b o, s.heap.get? b = some o → h'.get? b = some o) → as.length = kvs.length → PySem.W.KdxG knd kvs s.heap.objs.size h' as →
      Q (.ref h'.objs.size) { s with heap := h'.push { cls := .type "tuple", data := .seq (as.map Value.ref).toArray }, toks := tk }) :
    wpAny (model prog w) A (call (.type "tuple") [.ref r]) Q E s := by
  have key : codeAny (model prog w) A.in1 (.call (.builtin "tuple.__new__") ⟨[.type "tuple", .ref r], []⟩) (wants (fun obj s₁ => s₁.TypeIs obj "tuple" ∧ Q obj s₁) E) s := by
    refine codeAny_of_tree ?_
    show wpAny _ A.in1.in1 (do checkBuiltinCall "tuple.__new__" ⟨[.type "tuple", .ref r], []⟩; again (.builtin "tuple.__new__" ⟨[.type "tuple", .ref r], []⟩)) _ _ s
    refine wpAny_bind (wpAny_of_eq (F.newCall_tuple_1 _) (wpAny_pure ⟨plainId_quiet F.plain_tuple_new _, codeAny_builtin F.entry_tuple_new ?_⟩))
    rw [Around.under_plainId F.plain_tuple_new _]
    have hsub := sub_tuple_self
    have hinit := init_tuple_lookup
    have hmh := madeHere_tuple
    obtain ⟨o, ho, hc, hdt⟩ := id hv
    have hTI : s.TypeIs (.ref r) "dict_items" := ⟨o, ho, hc⟩
    have hh1 : A.in1.in1.handled = none := hh
    wp_walk using wpAny_typeOf hTI, PySem.W.kdx_collect (A := A.in1.in1) (knd := knd) (kvs := kvs) (ep := ep) hh1 hv hm hn
    intro h' tk as hk hl hG
    show wpAny _ _ (Builtin.Tuple.tupleExact (as.map Value.ref).toArray >>= fun v => ret v) _ _ _
    unfold Builtin.Tuple.tupleExact
    refine wpAny_bind (wpAny_newObj_type ?_ (by show (as.map Value.ref).toArray.size ≤ sizeLine; simp; omega))
    refine wpAny_pure ?_
    exact ⟨⟨_, Heap.get?_push_size _ rfl, rfl⟩, hQ h' tk as hk hl hG⟩
  refine callType_codes (Q₁ := fun obj s₁ => s₁.TypeIs obj "tuple" ∧ Q obj s₁) F.called_tuple (F.typeCall_tuple_1 _) F.entry_object_init key fun obj s₁ h₁ => ?_
  exact ⟨h₁.1, F.args_object_init_2 obj _, object_init_meets F.called_tuple.init.lookup F.called_tuple.made (by decide) prog w A.in1 _ s₁ ⟨h₁.1, rfl, h₁.2⟩⟩
end
theorem items_laid2 {X : Cx} {pins : List (Addr × Obj)} {σ : L2.St} {H : Hp} {s : Shared} {h' : Heap} {tk : Nat} {kvs : List (Key × V)} {vs : List (Key × Value)} {as : List Addr} (I : Inv X pins σ H s) (hz : kvs.length ≤ sizeLine) (kv : KV kvs vs)
    (hk : ∀ b o, s.heap.get? b = some o → h'.get? b = some o) (hl : as.length = vs.length) (hG : PySem.W.KdxG (mixKind X.prog X.w) vs s.heap.objs.size h' as) :
    ∃ H' : Hp, (∀ b o, H b = some o → H' b = some o) ∧ (∀ t ∈ as, H t = none) ∧ (∀ b, b ∉ as → H' b = H b) ∧ Paired (fun (t : Addr) (q : Key × V) => H' t = some (.tup [kV q.1, q.2])) as kvs ∧ Inv X pins σ H' { s with heap := h', toks := tk } := by
  have lk : kvs.length = vs.length := Paired.length kv
  have nd : as.Nodup := List.Pairwise.imp (fun {a b} (h : a < b) => Nat.ne_of_lt h) hG.rise
  have new : ∀ t ∈ as, H t = none := fun t ht => I.hok.fresh (Nat.le_of_lt (hG.above t ht))
  have atP := LiI.putT_at as kvs H (by omega) nd
  have off : ∀ b, b ∉ as → LiI.putT H as kvs b = H b := fun b h1 => LiI.putT_off as kvs _ h1
  have low : ∀ b o, s.heap.get? b = some o → b ∉ as := fun b o e z => absurd (Heap.lt_size e) (Nat.not_lt.mpr (Nat.le_of_lt (hG.above b z)))
  have kp : ∀ b u, H b = some u → (LiI.putT H as kvs) b = some u := fun b u e => by
    rw [off b (fun z => by rw [new b z] at e; cases e)]
    exact e
  refine ⟨LiI.putT H as kvs, kp, new, off, atP, ?_⟩
  refine I.call' (ch := []) rfl ⟨fun b o q _ _ _ => hk b o q, fun b o q _ _ _ => ⟨o.slots, hk b o q⟩, fun b o q n _ => ?_, fun b o q _ => ⟨o, hk b o q⟩, fun b xs q => kp b _ q, fun b o u q => kp b _ q, fun b ps q => ⟨#[], by rw [kp b _ q]; simp⟩⟩ (fun b u q => ?_) I.bare fun b z => by simp at z
  · rw [off b (low b o q)]
    exact n
  · by_cases hb : b ∈ as
    · obtain ⟨j, pk, e1, e2, e3⟩ := LiI.paired_ix atP hb
      rw [e3] at q
      cases q
      obtain ⟨key, k, x, f1, f2, f3⟩ := hG.pairs j b e1
      obtain ⟨qv, g1, g2, g3⟩ := LiI.paired_get kv e2
      rw [f1] at g1
      cases g1
      have rk : RelV (kV pk.1) key := by
        rw [g2]
        exact relV_key (show keyIs k key = true from f2)
      exact ⟨by show 2 ≤ sizeLine; decide, [key, x], .cons rk (.cons g3 .nil), ⟨_, f3, rfl, _, rfl⟩⟩
    · rw [off b hb] at q
      exact (I.hok b u q).stay (fun d v _ y => hk d v y) (fun d y => kp d _ y) fun d xs y => kp d _ y
/-- tuple(e.items()): a new tuple of new pairs -/
def rItemsT2 : V → Hp → VK → Prop := fun x H Q => ∃ (d : Addr) (kvs : List (Key × V)), x = .ref d ∧ H d = some (.dK kvs) ∧
  ∀ (H' : Hp) (p : Addr) (ts : List Addr), Same H H' → H p = none → (∀ t ∈ ts, H t = none) → (∀ b, b ∉ ts → H' b = H b) → H' p = none → Paired (fun (t : Addr) (q : Key × V) => H' t = some (.tup [kV q.1, q.2])) ts kvs → Q (.ref p) (upd H' p (.tup (ts.map V.ref)))
def tTupItems (te : TE) : TE := fun σ H Q => te σ H fun x H1 => rItemsT2 x H1 Q
theorem pe_tupItems {X : Cx} {e : Expr} {te : TE} {p apos cpos pos : Pos} (hc : X.calm = true) (he : PE X e te) (hg : Gl X "tuple") (hm : X.mg "tuple" = none) (hbase : attributeBase e "items" X.env (eval e X.env) = eval e X.env := by rfl) (hline : (apos.endLine == cpos.line) = true := by rfl)
    (hs : starEach [.Call (.Attribute e "items" apos) [] [] cpos] X.env = (false, eval (.Call (.Attribute e "items" apos) [] [] cpos) X.env) :: starEach [] X.env := by rfl) :
    PE X (.Call (.Name "tuple" p) [.Call (.Attribute e "items" apos) [] [] cpos] [] pos) (tTupItems te) := by
  refine ⟨fun pins s σ H Q I hq => ?_⟩
  refine wpAny_Call_Name_kw (ld_blt I hg hm boot_tuple ?_)
  refine PyProof.Rows.callWith_type1 ?_ hs rfl
  rw [hs]
  show wpAny _ _ (spliced ((false, eval (.Call (.Attribute e "items" apos) [] [] cpos) X.env) :: backTo pos (starEach [] X.env))) _ _ s
  refine Calls.spliced_cons ?_
  refine wpAny_Call_method (T := "dict") (id := "dict.items") hbase rfl hline F.plainAttrs_dict F.slot_dict_items F.type_dict_items (thn (he.run pins s σ H _ I hq) fun u s1 ⟨x, H1, I1, rx, d, kvs, ex, hd, q⟩ => ?_)
  subst ex
  obtain rfl : u = Value.ref d := rx
  obtain ⟨hz, hs0, vs, kv, hdo⟩ := I1.hok d _ hd
  obtain ⟨ep, hat⟩ := hdo.dictAt
  have lk : kvs.length = vs.length := Paired.length kv
  have I2 : Inv X pins σ H1 { s1 with heap := s1.heap.push { cls := .type "dict_items", data := .fields #[.ref d] } } := I1.kept (t' := s1.toks) fun b ob q => Heap.get?_push_of_some _ q
  refine ⟨hdo.typeIs, hdo.mapOf.noDict, ?_⟩
  show wpAny _ _ (callWith cpos (.builtin "dict.items") [.ref d] [] []) _ X.xe s1
  refine method_meetsIn F.slot_dict_items F.entry_dict_items rfl (PySem.evalArgs_none ⟨rfl, hdo.typeIs, F.args_dict_items_1 _, _, meets_dict_items (mixKind X.prog X.w) d hs0, ⟨vs, hdo⟩, ?_⟩)
  refine Calls.spliced_nil ?_
  refine call_tuple_items (knd := mixKind X.prog X.w) (kvs := vs) (ep := ep) (I1.ok.hd hc) ⟨_, Heap.get?_push_size _ rfl, rfl, rfl⟩ (hat.push _) (by omega) fun h' tk as hk hl hG => ?_
  obtain ⟨H', k1, k3, k4, k5, J⟩ := items_laid2 (tk := tk) I2 hz kv hk hl hG
  have hp : H1 h'.objs.size = none := by
    refine I1.hok.fresh ?_
    exact Nat.le_of_lt (Heap.lt_size (hk _ _ (Heap.get?_push_size s1.heap (o := { cls := .type "dict_items", data := .fields #[.ref d] }) rfl)))
  have hp' : H' h'.objs.size = none := J.hok.fresh (Nat.le_refl _)
  refine ⟨.ref h'.objs.size, upd H' h'.objs.size (.tup (as.map V.ref)), J.laid (t' := tk) (fun c o e => Heap.get?_push_of_some _ e) (Nat.le_refl _) (show ObjOk X.prog X.w _ _ _ (.tup (as.map V.ref)) from ⟨?_, as.map Value.ref, LiI.vals_refs as, IsTup.new _ _⟩), rfl, q H' _ as k1 hp k3 k4 hp' k5⟩
  rw [List.length_map]
  omega
end ZT

/-! ### defs with a default -/
namespace FD
open PySem PySem.Spec L2 PyProof.Rows
def Dfn (K : PySem.W.Frag) (x q : Str) (st : Stmt) (ps : List Str) (dvs : List V) (f : Addr) : Prop := ∃ fd, FunD K x q (defArgs st) (defBody st) (defScope st) dvs [] f fd ∧ Binds K fd ps [] ∧ ∃ ds, Vals dvs ds ∧ Binds K fd ps ds
theorem Dfn.kp {K : PySem.W.Frag} {x q : Str} {st : Stmt} {ps : List Str} {dvs : List V} {f : Addr} (d : Dfn K x q st ps dvs f) : PySem.W.keepIn K (.ref f) = true := let ⟨_, F, _⟩ := d; F.kp
section
variable {P : Program} {w : World} {K : PySem.W.Frag} {mg : Str → Option Value} {base : Heap} {x qual : Str} {params : Arguments} {body : List Stmt} {scope : Scope} {dvs : List V} {kws : List (Str × V)} {f : Addr} {fd : FuncData}
theorem ok0 {N ps : List Str} {k : Nat} {sp : Sp} (F : FunD K x qual params body scope dvs kws f fd) (S : FnScope N ps scope) (len : ∀ vs H Q E, sp vs H Q E → vs.length = ps.length)
    (hbody : ∀ (cdv : Value) (A : Around) (outer : List Env) (s : Shared) (H : Hp) (vs : List V) (Q : VK) (E : XK), Room k (A.deeper (envOfC qual scope s.heap.objs.size f cdv)) → sp vs H Q E →
      ∃ t, PSs (cxOf CX0 P w K mg base N qual scope f cdv A outer s H E).nox body t ∧ t { nx := fun _ H' => Q .non H', rt := Q } (start N vs) H) : FnOk P w K mg base CX0 (k + 1) f fd ps sp :=
  F.ok S len fun cdv A outer s H vs Q E hr hsp => let ⟨t, h, q⟩ := hbody cdv A outer s H vs Q E hr hsp; ⟨t, h.nox, q⟩
theorem okX {CX : CXT} {N ps : List Str} {k : Nat} {sp : Sp} (F : FunD K x qual params body scope dvs kws f fd) (S : FnScope N ps scope) (len : ∀ vs H Q E, sp vs H Q E → vs.length = ps.length)
    (hbody : ∀ (cdv : Value) (A : Around) (outer : List Env) (s : Shared) (H : Hp) (vs : List V) (Q : VK) (E : XK), Room k (A.deeper (envOfC qual scope s.heap.objs.size f cdv)) → sp vs H Q E →
      ∃ t, PSs (cxOf CX P w K mg base N qual scope f cdv A outer s H E) body t ∧ t { nx := fun _ H' => Q .non H', rt := Q } (start N vs) H) : FnOk P w K mg base CX (k + 1) f fd ps sp := F.ok S len hbody
theorem mk {st : Stmt} {q : Str} {T : Addr} {oc oc2 : Value} {od od2 an : Option Addr} {osl osl2 : Array (Option Value)} {kV doc pm cdv ct : Value} {m : Nat} {ps : List Str} (l : K.lookup f = some ⟨oc, od, .func (PySem.W.fnOf x q (defArgs st) (defBody st) (defScope st) (.ref T) kV doc pm an cdv ct), osl⟩)
    (c : PySem.W.codeIn K cdv q = true) (k : PySem.W.keepIn K (.ref f) = true) (lD : K.lookup T = some ⟨oc2, od2, .seq #[.none] m, osl2⟩)
    (h1 : ∀ (T : Addr) (kV doc pm : Value) (an : Option Addr) (cdv ct : Value) (us its : List Value), us.length = ps.length → its.length = 1 →
      ∃ k, bindArgs (PySem.W.fnOf x q (defArgs st) (defBody st) (defScope st) (.ref T) kV doc pm an cdv ct) ⟨us, []⟩ = seqItems? (.ref T) >>= k ∧ k (some its.toArray) = pure (ps.zip (us ++ its.drop 1)))
    (h2 : ∀ (T : Addr) (kV doc pm : Value) (an : Option Addr) (cdv ct : Value) (us its : List Value), us.length = ps.length - 1 → its.length = 1 →
      ∃ k, bindArgs (PySem.W.fnOf x q (defArgs st) (defBody st) (defScope st) (.ref T) kV doc pm an cdv ct) ⟨us, []⟩ = seqItems? (.ref T) >>= k ∧ k (some its.toArray) = pure (ps.zip (us ++ its.drop 0)))
    (hp : 0 < ps.length := by decide) : Dfn K x q st ps [.non] f := by
  have F : FunD K x q (defArgs st) (defBody st) (defScope st) [.non] [] f _ := ⟨⟨oc, od, .ref T, kV, doc, pm, an, cdv, ct, osl, rfl, l, c, .inr ⟨by simp, T, _, [.none], m, rfl, lD, rfl, .cons rfl .nil⟩, .inl rfl⟩, k⟩
  obtain ⟨ds, v, b⟩ := F.binds1 (ps := ps) ps.length 1 (by simp) (by simp) h1
  cases v
  exact ⟨_, F, b, F.binds1 (ps := ps) (ps.length - 1) 0 (by simp) (by simp; omega) h2⟩
end
end FD

/-! ### data, dicts among it -/
namespace Z
open PySem PySem.Spec L2 PyProof.Rows
mutual
inductive DX (K : PySem.W.Frag) (H : Hp) : V → PyData → Prop
  | non : DX K H .non .none
  | bl (b : Bool) : DX K H (.bl b) (.bool b)
  | int (i : Int) : DX K H (.int i) (.int i)
  | str (x : Str) : DX K H (.str x) (.str x)
  | lst {a : Addr} {xs : List V} {ds : List PyData} : SqL K H a xs → DXs K H xs ds → DX K H (.ref a) (.list ds)
  | tup {a : Addr} {xs : List V} {ds : List PyData} : SqT K H a xs → DXs K H xs ds → DX K H (.ref a) (.tuple ds)
  | dic {a : Addr} {kv : List (Key × V)} : H a = some (.dK kv) → DX K H (.ref a) (.dict [])
inductive DXs (K : PySem.W.Frag) (H : Hp) : List V → List PyData → Prop
  | nil : DXs K H [] []
  | cons {v : V} {vs : List V} {d : PyData} {ds : List PyData} : DX K H v d → DXs K H vs ds → DXs K H (v :: vs) (d :: ds)
end
section
variable {K : PySem.W.Frag} {F H H' H0 F0 : Hp} {v w : V} {d : PyData} {vs ws : List V} {ds es : List PyData} {L : List (Addr × HO)} {Q : VK} {σ : L2.St}
theorem dx_same (e : Same H H') (h : DX K H v d) : DX K H' v d :=
  DX.rec (motive_1 := fun v d _ => DX K H' v d) (motive_2 := fun vs ds _ => DXs K H' vs ds) .non .bl .int .str (fun h _ k => .lst (e.seq h) k) (fun h _ k => .tup (seqT e h) k) (fun h => .dic (e _ _ h)) .nil (fun _ _ a b => .cons a b) h
theorem dxs_same (e : Same H H') (h : DXs K H vs ds) : DXs K H' vs ds :=
  DXs.rec (motive_1 := fun v d _ => DX K H' v d) (motive_2 := fun vs ds _ => DXs K H' vs ds) .non .bl .int .str (fun h _ k => .lst (e.seq h) k) (fun h _ k => .tup (seqT e h) k) (fun h => .dic (e _ _ h)) .nil (fun _ _ a b => .cons a b) h
theorem dx_of (h : Dp K H v d) : DX K H v d :=
  Dp.rec (motive_1 := fun v d _ => DX K H v d) (motive_2 := fun vs ds _ => DXs K H vs ds) .non .bl .int .str (fun h _ k => .lst h k) (fun h _ k => .tup h k) .nil (fun _ _ a b => .cons a b) h
theorem dxs_of (h : DpAll K H vs ds) : DXs K H vs ds :=
  DpAll.rec (motive_1 := fun v d _ => DX K H v d) (motive_2 := fun vs ds _ => DXs K H vs ds) .non .bl .int .str (fun h _ k => .lst h k) (fun h _ k => .tup h k) .nil (fun _ _ a b => .cons a b) h
theorem dx_int {i : Int} (h : DX K H v (.int i)) : v = .int i := by cases h; rfl
theorem dx_str {z : Str} (h : DX K H v (.str z)) : v = .str z := by cases h; rfl
theorem dx_bool {b : Bool} (h : DX K H v (.bool b)) : v = .bl b := by cases h; rfl
theorem dx_none (h : DX K H v .none) : v = .non := by cases h; rfl
theorem dx_tup (h : DX K H v (.tuple ds)) : ∃ a vs, v = .ref a ∧ SqT K H a vs ∧ DXs K H vs ds := by
  cases h with
  | tup h1 h2 => exact ⟨_, _, rfl, h1, h2⟩
theorem dx_lst (h : DX K H v (.list ds)) : ∃ a vs, v = .ref a ∧ SqL K H a vs ∧ DXs K H vs ds := by
  cases h with
  | lst h1 h2 => exact ⟨_, _, rfl, h1, h2⟩
theorem dxs_len : ∀ {vs : List V} {ds : List PyData}, DXs K H vs ds → vs.length = ds.length
  | _, _, .nil => rfl
  | _, _, .cons _ r => by rw [List.length_cons, List.length_cons, dxs_len r]
theorem dxs_get : ∀ {vs : List V} {ds : List PyData} {i : Nat} {d : PyData}, DXs K H vs ds → ds[i]? = some d → ∃ v, vs[i]? = some v ∧ DX K H v d
  | _, _, i, _, .nil, e => by simp at e
  | _, _, 0, _, .cons h _, e => by cases e; exact ⟨_, rfl, h⟩
  | _, _, i + 1, _, .cons _ r, e => by
    obtain ⟨v, e1, e2⟩ := dxs_get (i := i) r (by simpa using e)
    exact ⟨v, by simpa using e1, e2⟩
theorem dxs_ix : ∀ {vs : List V} {ds : List PyData} {i : Nat} {v : V}, DXs K H vs ds → vs[i]? = some v → ∃ d, ds[i]? = some d ∧ DX K H v d
  | _, _, i, _, .nil, e => by simp at e
  | _, _, 0, _, .cons h _, e => by cases e; exact ⟨_, rfl, h⟩
  | _, _, i + 1, _, .cons _ r, e => by
    obtain ⟨v, e1, e2⟩ := dxs_ix (i := i) r (by simpa using e)
    exact ⟨v, by simpa using e1, e2⟩
theorem dxs_app : ∀ {vs ws : List V} {ds es : List PyData}, DXs K H vs ds → DXs K H ws es → DXs K H (vs ++ ws) (ds ++ es)
  | _, _, _, _, .nil, k => k
  | _, _, _, _, .cons h r, k => .cons h (dxs_app r k)
theorem dxs_drop : ∀ {vs : List V} {ds : List PyData} (n : Nat), DXs K H vs ds → DXs K H (vs.drop n) (ds.drop n)
  | _, _, 0, h => h
  | _, _, _ + 1, .nil => .nil
  | _, _, n + 1, .cons _ r => dxs_drop n r
theorem dxs_take : ∀ {vs : List V} {ds : List PyData} (n : Nat), DXs K H vs ds → DXs K H (vs.take n) (ds.take n)
  | _, _, 0, _ => .nil
  | _, _, _ + 1, .nil => .nil
  | _, _, n + 1, .cons h r => .cons h (dxs_take n r)
theorem dxs_cut {lo hi : Option Int} (h : DXs K H vs ds) : DXs K H (cutV vs lo hi) (cutD ds lo hi) := by
  unfold cutV cutD
  rw [dxs_len h]
  exact dxs_take _ (dxs_drop _ h)
/-- no dict within -/
def plain : PyData → Bool
  | .dict _ => false
  | _ => true
theorem ty_dx (h : DX K H v d) : TyX K H v (.type (tyN d)) := by
  cases h with
  | non => exact .base .non
  | bl b => exact .base (.bl b)
  | int i => exact .base (.int i)
  | str z => exact .base (.str z)
  | lst h _ =>
    rcases h with (h | ⟨o, h⟩) | ⟨o, its, n, h, hc, _⟩
    · exact .base (.lst h)
    · exact .base (.frz h)
    · exact .kList h hc
  | tup h _ =>
    rcases h with (h | ⟨o, h⟩) | ⟨o, its, n, h, hc, _⟩
    · exact .base (.tup h)
    · exact .fTuple h
    · exact .kTuple h hc
  | dic h => exact .base (.dK h)
theorem isiX {T : String} (h : DX K F v d) (s : Same F H) (hT : T ∈ ["str", "int", "bool", "list", "tuple"]) (k : Q (.bl (isTy T d)) H) : rIsi K [v, .ty T] H Q := ⟨v, .ty T, _, .type T, _, rfl, .ty T, ty_dx (dx_same s h), kitD hT, k⟩
theorem isiSeqX {p : Addr} (h : DX K F v d) (s : Same F H) (hp : H p = some (.tup [.ty "list", .ty "tuple"])) (k : Q (.bl (isTy "list" d || isTy "tuple" d)) H) : rIsiT K [v, .ref p] H Q :=
  ⟨v, p, _, _, _, _, rfl, hp, .cons (.ty "list") (.cons (.ty "tuple") .nil), ty_dx (dx_same s h), kitSeq, k⟩
theorem ixTX (h : DX K F v (.tuple ds)) (s : Same F H) (i : Nat) (e : ds[i]? = some d) (k : ∀ w, DX K F w d → Q w H) : rIxT K v (.int (i : Int)) H Q := by
  obtain ⟨a, vs, rfl, h1, h2⟩ := dx_tup h
  obtain ⟨w, e1, e2⟩ := dxs_get h2 e
  exact ⟨a, vs, i, w, rfl, rfl, seqT s h1, atI_nat e1, k w e2⟩
theorem dxs2 {d1 d2 : PyData} (h : DXs K F vs [d1, d2]) : ∃ v1 v2, vs = [v1, v2] ∧ DX K F v1 d1 ∧ DX K F v2 d2 := by
  cases h with
  | cons h1 h2 =>
    cases h2 with
    | cons h2 h3 =>
      cases h3
      exact ⟨_, _, rfl, h1, h2⟩
theorem gtupX {n : Nat} {t : TGs} {R : L2.St → Hp → Prop} (h : DX K F v (.tuple ds)) (s : Same F H) (k : ∀ vs, DXs K F vs ds → t vs σ H R) (hn : ds.length = n := by rfl) : gTup K n t v σ H R := by
  obtain ⟨a, vs, rfl, h1, h2⟩ := dx_tup h
  exact ⟨a, vs, rfl, seqT s h1, (dxs_len h2).trans hn, k vs h2⟩
/-- a piece of data made, dicts among it -/
theorem lstX (W : Ws L F0 H0 F H) (hd : DXs K F vs ds) (k : ∀ v F' H', Ws L F0 H0 F' H' → Same F F' → DX K F' v (.list ds) → Q v H') (hz : vs.length ≤ 100000 := by first | decide | (simp only [List.length_cons, List.length_nil]; decide)) : rLst vs H Q :=
  ⟨Nat.le_trans hz (by decide), fun p hp => k _ _ _ (W.dat hp) (same_new (W.freeF hp)) (.lst (SqL.of upd_same) (dxs_same (same_new (W.freeF hp)) hd))⟩
theorem tupX (W : Ws L F0 H0 F H) (hd : DXs K F vs ds) (k : ∀ v F' H', Ws L F0 H0 F' H' → Same F F' → DX K F' v (.tuple ds) → Q v H') (hz : vs.length ≤ 100000 := by first | decide | (simp only [List.length_cons, List.length_nil]; decide)) : rTup vs H Q :=
  ⟨Nat.le_trans hz (by decide), fun p hp => k _ _ _ (W.dat hp) (same_new (W.freeF hp)) (.tup (SqT.of upd_same) (dxs_same (same_new (W.freeF hp)) hd))⟩
theorem dicX (W : Ws L F0 H0 F H) (k : ∀ v F' H', Ws L F0 H0 F' H' → Same F F' → DX K F' v (.dict []) → Q v H') : ∀ p, H p = none → Q (.ref p) (upd H p (.dK [])) :=
  fun p hp => k _ _ _ (W.dat hp) (same_new (W.freeF hp)) (.dic upd_same)
/-- a slice, a sum of lists: own cells -/
theorem slW {lo hi : Option Int} {a : Addr} {xs : List V} (W : Ws L F0 H0 F H) (h : SqL K H a xs) (k : ∀ p H', Ws ((p, .lst (cutV xs lo hi)) :: L) F0 H0 F H' → Q (.ref p) H') : rSlL K (.ref a) lo hi H Q := ⟨a, xs, rfl, h, fun p hp => k p _ (W.new hp)⟩
theorem catW {a b : Addr} {xs ys : List V} (W : Ws L F0 H0 F H) (h1 : H a = some (.lst xs)) (h2 : H b = some (.lst ys)) (hz : xs.length + ys.length ≤ 100000) (k : ∀ p H', Ws ((p, .lst (xs ++ ys)) :: L) F0 H0 F H' → Q (.ref p) H') : rCat (.ref a) (.ref b) H Q :=
  ⟨a, b, xs, ys, rfl, rfl, h1, h2, Nat.le_trans hz (by decide), fun p hp => k p _ (W.new hp)⟩
end
end Z
/-! ### C(..) that may raise, within a try -/
namespace ZX
open PySem PySem.Spec L2 PyProof.Rows
section
variable {X : Cx} {CX : CXT} {k : Nat} {f C : Addr} {fd : FuncData} {ps : List Str} {sp : Sp} {dvs : List V} {ds : List Value} {E : L2.St → XK} {x : Str} {p pos : Pos} {e : Expr} {es : List Expr} {t : TA}
def tMakeX (C : Addr) (sp : Sp) (dvs : List V) (E : L2.St → XK) (t : TA) : TE := fun σ H Q => t σ H fun vs H1 => ∀ x dx, H1 x = none → H1 dx = none → dx ≠ x →
  sp (.ref x :: (vs ++ dvs)) (upd (upd H1 dx (.own x)) x (.ins C dx [])) (fun v H2 => v = .non ∧ Q (.ref x) H2) (E σ)
theorem pe_makeX (M : Mk X.K C f) (F : FnOk X.prog X.w X.K X.mg X.base CX k f fd ps sp) (hr : Room (k + 1) X.A) (hg : Gl X x) (hm : X.mg x = some (.ref C)) (hb : Binds X.K fd ps ds) (hd : Vals dvs ds) (hx : ∀ σ, PassesAt CX X σ (E σ)) (ha : PA X (e :: es) t)
    (hdb : (x == ("__debug__" : Str)) = false := by decide) (he : starEach (e :: es) X.env = (false, eval e X.env) :: starEach es X.env := by rfl) (hpl : (backTo pos (starEach es X.env)).any (·.1) = false := by rfl) :
    PE X (.Call (.Name x p) (e :: es) [] pos) (tMakeX C sp dvs E t) := by
  refine ⟨fun pins s σ H Q I h => wpAny_Call_Name_kw (ld_glob I hg hm ?_ hdb)⟩
  refine PySem.W.callWith_K (h₀ := X.base) I.ok.mod.kin M.kp (thn (ha.run pos pins s σ H _ I h) fun us s1 ⟨vs, H1, J, rv, q⟩ => ⟨J.kIn, ?_⟩) he hpl
  have hx1 := J.hok.fresh (Nat.le_succ s1.heap.objs.size)
  have hx0 := J.hok.fresh (Nat.le_refl s1.heap.objs.size)
  have want := q _ _ hx1 hx0 (Nat.ne_of_lt (Nat.lt_succ_self _))
  have J2 := Inv.made (C := C) J
  have args : Vals (V.ref (s1.heap.objs.size + 1) :: (vs ++ dvs)) (Value.ref (s1.heap.objs.size + 1) :: (us ++ ds)) := .cons rfl (rv.append hd)
  have many : (Value.ref (s1.heap.objs.size + 1) :: us ++ ds).length = ps.length := (args.length.symm).trans (F.len _ _ _ _ want)
  have bound := hb _ (Value.ref (s1.heap.objs.size + 1) :: us) J2.kIn many
  have ran := F.run _ X.stack _ _ _ _ _ _ (E σ) (hr.make C us []) (J2.env0.make C us []) bound args want
  refine wpAny_call (make_map (f := f) J.kIn M.makes M.init (beq_iff_eq.mp M.fn) (codeAny_mono ran fun r s' got => ?_))
  match r, got with
  | .error er, got => exact hx σ pins _ _ er s' J2 got
  | .ok (.ret u), got =>
    obtain ⟨v, H', J3, r3, rfl, q3⟩ := J2.after got
    exact ⟨r3, ⟨V.ref (s1.heap.objs.size + 1), H', J3, rfl, q3⟩⟩
variable {σ : L2.St} {H : Hp} {Q : VK}
theorem makeX (h : t σ H fun vs H1 => ∀ x dx, H1 x = none → H1 dx = none → dx ≠ x → sp (.ref x :: (vs ++ dvs)) (upd (upd H1 dx (.own x)) x (.ins C dx [])) (fun v H2 => v = .non ∧ Q (.ref x) H2) (E σ)) : tMakeX C sp dvs E t σ H Q := h
end
end ZX

/-! ### own exceptions with an own __init__ -/
namespace Z
open PySem PySem.Spec L2 PyProof.Rows
/-- the record of an own exception class over ValueError -/
def oexB (K : PySem.W.Frag) (C : Addr) : Bool := match K.lookup C with
  | some ⟨.type "type", _, .cls cd, sl⟩ => (match cd.mro, sl.toList with
    | .ref C' :: bm, [_, _, _, _, some (.builtin n), _] => C' == C && n == "ValueError.__new__" && !cd.hasDel && cd.hasDict && PySem.HandSPX.refsVE bm
    | _, _ => false)
  | _ => false
theorem oexC_of {K : PySem.W.Frag} {C : Addr} (q : oexB K C = true) (sa : PySem.W.findIn K (.ref C) "__setattr__" = some (some (.builtin "object.__setattr__"))) (exC : PySem.W.subIn K (.ref C) (.type "BaseException") = some true)
    (tyC : PySem.W.typeIn K (.ref C) = some (.type "type")) (kC : PySem.W.keepIn K (.ref C) = true) : OexC K C := by
  refine ⟨?_, sa, exC, tyC, kC⟩
  unfold oexB at q
  split at q
  · rename_i dd cd sl ho
    split at q
    · rename_i C' bm k0 k1 k2 k3 n k5 hm hs
      simp only [Bool.and_eq_true, beq_iff_eq, Bool.not_eq_true'] at q
      obtain ⟨⟨⟨⟨rfl, rfl⟩, hdel⟩, hdd⟩, hr⟩ := q
      obtain ⟨nm, bs, mro, ns, qn, hd, sn, sub, ab, col, del⟩ := cd
      dsimp only at hm hdel hdd
      subst hm hdel hdd
      have hsl : sl = #[k0, k1, k2, k3, some (.builtin "ValueError.__new__"), k5] := by
        obtain ⟨l⟩ := sl
        simp only at hs
        rw [hs]
      subst hsl
      exact ⟨nm, qn, ns, bs, bm, sn, sub, ab, col, dd, k0, k1, k2, k3, k5, ho, hr⟩
    · cases q
  · cases q
section
variable {X : Cx} {o e : Expr} {es : List Expr} {to te : TE} {ta : TA} {f : Str} {p p' p1 p2 pos : Pos}
/-- B.__init__(self, ..), B an own class over ValueError without own __init__ -/
theorem pe_oeinit {B : Addr} {x : Str} {pl : Sem Bool} (hg : Gl X x) (hm : X.mg x = some (.ref B)) (rd : PySem.W.readsIn X.K B (.type "type") = true) (ga : PySem.W.specialIn X.K (.ref B) "__getattribute__" = some (some (.builtin "type.__getattribute__")))
    (vV : PySem.W.findCls X.K (.ref B) (.type "type") "__init__" = some (.val (.builtin "ValueError.__init__"))) (ha : PA X (e :: es) ta)
    (hc : eval (.Call (.Attribute (.Name x p1) "__init__" p2) (e :: es) [] pos) X.env = (do
      let ov ← eval (.Name x p1) X.env
      standAt p2.atName
      let (f, first) ← holding [ov] (getMethod ov "__init__" pl)
      callWith pos f first (backTo pos (starEach (e :: es) X.env)) (backToKw pos (keywordEach [] X.env))) := by rfl)
    (he : starEach (e :: es) X.env = (false, eval e X.env) :: starEach es X.env := by rfl) (hpl : (backTo pos (starEach es X.env)).any (·.1) = false := by rfl) (hdb : (x == ("__debug__" : Str)) = false := by decide) :
    PE X (.Call (.Attribute (.Name x p1) "__init__" p2) (e :: es) [] pos) (tVeI X.K ta) := by
  refine ⟨fun pins s σ H Q I h => ?_⟩
  refine PySem.W.methodCall_KW (ld_glob I hg hm ?_ hdb) hc
  refine PySem.W.method_cls I.kIn ga (PySem.W.cls_value I.kIn rd vV (by decide +kernel) ?_)
  show wpAny _ _ (callWith pos (Value.builtin "ValueError.__init__") [] (backTo pos (starEach (e :: es) X.env)) []) _ _ _
  refine PyProof.Rows.callWith_method1 (thn (ha.run pos pins _ σ H _ (I.tok _) h) fun us s1 ⟨vs, H1, I1, r1, a, C, ws, ev, hl, T, ea, q⟩ => ?_) he hpl
  subst ev
  cases r1 with
  | @cons _ u0 _ ur ra rw' =>
    obtain rfl : u0 = Value.ref a := ra
    have hlen : ur.length ≤ sizeLine := by
      rw [← Paired.length rw', sizeLine_eq]
      omega
    exact oinit_ok T I1 ea hlen fun s' J => ⟨.non, H1, J, rfl, q⟩
end
/-- the promise of an exception's own __init__: the fields fs, in the order of the arguments -/
def spX (K : PySem.W.Frag) (C : Addr) (fs : List Str) : Sp := fun vs H Q _ => ∃ (a : Addr) (ws : List V), vs = .ref a :: ws ∧ ws.length = fs.length ∧ H a = some (exo a C none) ∧
  ∀ d H', H d = none → d ≠ a → H' a = some (exo a C (some d)) → H' d = some (exd d (fs.zip ws).reverse) → (∀ b, b ≠ a → b ≠ d → H' b = H b) → Q .non H'
section
variable {σ : L2.St} {H : Hp} {C : Addr} {ta : TA} {te to : TE} {f : Str} {K : PySem.W.Frag} {Q : XK} {R : VK}
theorem veI (h : ta σ H fun vs H1 => ∃ (a C : Addr) (ws : List V), vs = .ref a :: ws ∧ ws.length ≤ 1000 ∧ OexC K C ∧ H1 a = some (exo a C none) ∧ R .non H1) : tVeI K ta σ H R := h
theorem ost {D : Ends} (h : te σ H fun y H1 => to σ H1 fun x H2 => ∃ a C : Addr, x = .ref a ∧ OexC K C ∧ PySem.W.findIn K (.ref C) f = some none ∧
  ((H2 a = some (exo a C none) ∧ ∀ dx, H2 dx = none → dx ≠ a → D.nx σ (upd (upd H2 dx (exd dx [(f, y)])) a (exo a C (some dx)))) ∨
    ∃ (dx : Addr) (fs : List (Str × V)), H2 a = some (exo a C (some dx)) ∧ H2 dx = some (exd dx fs) ∧ fs.length ≤ 900 ∧ D.nx σ (upd H2 dx (exd dx ((f, y) :: fs))))) : tOst K f to te D σ H := h
theorem tmkO {sp : Sp} {dvs : List V} (h : ta σ H fun vs H1 => vs.length ≤ 1000 ∧ ∀ a, H1 a = none → sp (.ref a :: (vs ++ dvs)) (upd H1 a (exo a C none))
  (fun v H2 => v = .non ∧ ∃ (d : Addr) (fs : List (Str × V)), H2 a = some (exo a C (some d)) ∧ H2 d = some (exd d fs) ∧ H1 d = none ∧ Q (.ref C) (some d) (upd (del H2 a) d (.xd fs))) (fun _ _ _ => False)) : tMkO C sp dvs ta σ H Q := h
/-- C(ws) raised -/
theorem raiseX {fs : List Str} {ws : List V} {E : XK} (hl : ws.length = fs.length := by rfl) (hz : fs.length ≤ 100 := by decide) (h : ∀ d, H d = none → Q (.ref C) (some d) (upd H d (.xd (fs.zip ws).reverse))) :
    ws.length ≤ 1000 ∧ ∀ a, H a = none → spX K C fs (.ref a :: (ws ++ [])) (upd H a (exo a C none))
      (fun v H2 => v = .non ∧ ∃ (d : Addr) (fs : List (Str × V)), H2 a = some (exo a C (some d)) ∧ H2 d = some (exd d fs) ∧ H d = none ∧ Q (.ref C) (some d) (upd (del H2 a) d (.xd fs))) E := by
  refine ⟨by omega, fun a ha => ⟨a, ws, by rw [List.append_nil], hl, upd_same, fun d H' hd hne h1 h2 h3 => ⟨rfl, d, _, h1, h2, ?_, ?_⟩⟩⟩
  · rwa [upd_ne hne] at hd
  · rw [upd_ne hne] at hd
    have e : upd (del H' a) d (.xd (fs.zip ws).reverse) = upd H d (.xd (fs.zip ws).reverse) := by
      funext b
      by_cases hb : b = d
      · rw [hb, upd_same, upd_same]
      · rw [upd_ne hb, upd_ne hb]
        by_cases hba : b = a
        · rw [hba, del_same, ha]
        · rw [del_ne hba, h3 b hba hb, upd_ne hba]
    rw [e]
    exact h d hd
end
/-! ### isinstance of a caught exception, with or without a dict; its fields -/
/-- the dict of a caught exception stands -/
def Dx (H : Hp) : Option Addr → Prop
  | none => True
  | some dd => ∃ fs, H dd = some (.xd fs)
theorem dx_inst {P : Program} {w : World} {H : Hp} {h : Heap} {a D : Addr} {d : Option Addr} {oe : Obj} (hok : HOk P w H h) (hget : h.get? a = some oe) (hz : Zc (.ref D) d oe) (hf : ∃ vs, oe.data = .fields vs) (hd : Dx H d) : ∃ od, PySem.W.InstAt h a oe D od := by
  obtain ⟨vs, hv⟩ := hf
  cases d with
  | none =>
    refine ⟨none, hget, hz.1, by unfold PySem.W.notCls; rw [hv] <;> rfl, ?_⟩
    rw [hz.2]
    exact True.intro
  | some dd =>
    obtain ⟨fs, hfs⟩ := hd
    have hx : ObjOk P w H h dd (.xd fs) := hok dd _ hfs
    obtain ⟨mA, ⟨od, _, _, ho, _⟩, _⟩ := hx
    exact ⟨some od, hget, hz.1, by unfold PySem.W.notCls; rw [hv] <;> rfl, by rw [hz.2]; exact ho⟩
def rIsH (K : PySem.W.Frag) (cls : Value) (d : Option Addr) (a : Addr) : List V → Hp → VK → Prop := fun xs H Q => ∃ (D : Addr) (c : V) (cv : Value) (b : Bool), cls = .ref D ∧ Dx H d ∧ ExcC K D ∧ xs = [.ref a, c] ∧ ClsV c cv ∧ PySem.W.kitOne K (.ref D) cv = some b ∧ Q (.bl b) H
theorem isCls_some {K : PySem.W.Frag} {C : Addr} (h : PySem.W.hasDictIn K C = true) : (PySem.W.clsIn K C).isSome = true := by
  obtain ⟨cd, hc, _⟩ := PySem.W.any_some h
  rw [hc]
  rfl
theorem call_isH {X : Cx} {a : Addr} {cls : Value} {d : Option Addr} {oe : Obj} {pn : List (Addr × Obj)} (hz : Zc cls d oe) (hf : ∃ vs, oe.data = .fields vs) : CallR (X.suite a ((a, oe) :: pn)) (.builtin "isinstance") (rIsH X.K cls d a) := by
  intro pins s σ H xs us Q I r h
  obtain ⟨D, c, cv, b, rfl, hd, C, rfl, hc, e, q⟩ := h
  cases r with
  | cons rx rr =>
    cases rr with
    | cons rt rr =>
      cases rr
      cases rx
      have ec := hc.eq rt
      subst ec
      obtain ⟨hget, _⟩ := I.pin (a, oe) (List.mem_append.mpr (.inl List.mem_cons_self))
      obtain ⟨od, J⟩ := dx_inst I.hok hget hz hf hd
      exact PySem.W.kia_one (PySem.W.kitx_exc (isCls_some C.hd) C.hg C.hk C.hs C.ha C.hn C.ht C.hm) I.kIn J e (fun z => nomatch z) fun tk => ⟨.bl b, H, I.kept (t' := tk) fun _ _ z => z, rfl, q⟩
def rIsHT (K : PySem.W.Frag) (cls : Value) (d : Option Addr) (a : Addr) : List V → Hp → VK → Prop := fun xs H Q => ∃ (D tp : Addr) (cs : List V) (ws : List Value) (b : Bool), cls = .ref D ∧ Dx H d ∧ ExcC K D ∧ xs = [.ref a, .ref tp] ∧ H tp = some (.tup cs) ∧ Paired ClsV cs ws ∧
  PySem.W.kitAny K (.ref D) ws = some b ∧ Q (.bl b) H
theorem call_isHT {X : Cx} {a : Addr} {cls : Value} {d : Option Addr} {oe : Obj} {pn : List (Addr × Obj)} (hz : Zc cls d oe) (hf : ∃ vs, oe.data = .fields vs) : CallR (X.suite a ((a, oe) :: pn)) (.builtin "isinstance") (rIsHT X.K cls d a) := by
  intro pins s σ H xs us Q I r h
  obtain ⟨D, tp, cs, ws, b, rfl, hd, C, rfl, hT, k, e, q⟩ := h
  obtain ⟨u1, u2, rfl, r1, r2⟩ := vals2 r
  cases (show u1 = Value.ref a from r1)
  cases (show u2 = Value.ref tp from r2)
  obtain ⟨hget, _⟩ := I.pin (a, oe) (List.mem_append.mpr (.inl List.mem_cons_self))
  obtain ⟨od', J⟩ := dx_inst I.hok hget hz hf hd
  obtain ⟨_, its, rv, o, h1, h2, n, h3⟩ := (show ObjOk _ _ H s.heap tp (.tup cs) from I.hok tp _ hT)
  have e3 := ClsV.all k rv
  subst e3
  obtain ⟨oc, od, dt, sl⟩ := o
  simp only at h2 h3
  subst h2 h3
  exact PySem.W.kia_tup (PySem.W.kitx_exc (isCls_some C.hd) C.hg C.hk C.hs C.ha C.hn C.ht C.hm) I.kIn J h1 e (fun z => nomatch z) fun tk => ⟨.bl b, H, I.kept (t' := tk) fun _ _ z => z, rfl, q⟩
section
variable {σ : L2.St} {H : Hp} {a C : Addr} {cls : Value} {d : Option Addr} {f : Str} {te : TE} {Q : VK}
theorem xf (h : te σ H fun x H1 => x = .ref a ∧ cls = .ref C ∧ ∃ (dd : Addr) (fs : List (Str × V)) (v : V), d = some dd ∧ H1 dd = some (.xd fs) ∧ fs.lookup f = some v ∧ Q v H1) : tXf a cls d C f te σ H Q := h
end
end Z
local macro_rules | `(tactic| walk_at "z1") => `(tactic| first | (with_reducible refine Z.veI ?_) | (with_reducible refine Z.ost ?_) | (with_reducible refine Z.tmkO ?_) | (with_reducible refine Z.xf ?_))

/-! ### several except clauses, with names -/
namespace Z
open PySem PySem.Spec L2 PyProof.Rows
def endsAs (D : Ends) : Option Nat → Ends
  | none => D
  | some i => { nx := fun σ' H' => D.nx (σ'.set i none) H', rt := D.rt, bk := fun σ' H' => D.bk (σ'.set i none) H', ct := fun σ' H' => D.ct (σ'.set i none) H' }
def slotAs (σ : L2.St) (a : Addr) : Option Nat → L2.St
  | none => σ
  | some i => σ.set i (some (.ref a))
/-- what the clauses wish of an exception of the body, one after the other -/
def wMA (K : PySem.W.Frag) (Wout : WX) (D : Ends) : List (Value × Option Nat × (Addr → Value → Option Addr → TS)) → WX
  | [] => Wout
  | (c, i, ts) :: r => fun cls d σ H => ∃ b, PySem.W.exmOne K cls c = some b ∧ (b = true → ∀ a, H a = none → ts a cls d (endsAs D i) (slotAs σ a i) H) ∧ (b = false → wMA K Wout D r cls d σ H)
inductive HdsA (X : Cx) : List ExceptHandler → List (Value × Option Nat × (Addr → Value → Option Addr → TS)) → Prop
  | nil : HdsA X [] []
  | cons {x : Str} {c : Value} {ts : Addr → Value → Option Addr → TS} {b₀ : Stmt} {suite : List Stmt} {np pos' : Pos} {hds : List ExceptHandler} {l : List (Value × Option Nat × (Addr → Value → Option Addr → TS))} (hc : Names X x c)
      (hsu : ∀ (a : Addr) (oe : Obj) (cls : Value) (d : Option Addr) (pn : List (Addr × Obj)), Zc cls d oe → (∃ vs, oe.data = .fields vs) → PSs (X.suite a ((a, oe) :: pn)) (b₀ :: suite) (ts a cls d)) (r : HdsA X hds l) :
      HdsA X (.ExceptHandler (some (.Name x np)) none (b₀ :: suite) pos' :: hds) ((c, none, ts) :: l)
  | as {x n : Str} {i : Nat} {c : Value} {ts : Addr → Value → Option Addr → TS} {b₀ : Stmt} {suite : List Stmt} {np pos' : Pos} {hds : List ExceptHandler} {l : List (Value × Option Nat × (Addr → Value → Option Addr → TS))} (hi : X.N[i]? = some n) (hln : X.env.kindOf n = some .local) (hc : Names X x c)
      (hsu : ∀ (a : Addr) (oe : Obj) (cls : Value) (d : Option Addr) (pn : List (Addr × Obj)), Zc cls d oe → (∃ vs, oe.data = .fields vs) → PSs (X.suite a ((a, oe) :: pn)) (b₀ :: suite) (ts a cls d)) (r : HdsA X hds l) :
      HdsA X (.ExceptHandler (some (.Name x np)) (some n) (b₀ :: suite) pos' :: hds) ((c, some i, ts) :: l)
section
variable {X : Cx} {body : List Stmt} {h₀ : ExceptHandler} {hds : List ExceptHandler} {l : List (Value × Option Nat × (Addr → Value → Option Addr → TS))} {pos : Pos} {tb : WX → TS} {Wout : WX}
theorem ps_try_ma (hs : X.stack = X.env :: X.outer) (hf : X.env.frame = some X.env.locals) (hN : X.N.Nodup) (tk : Takes X Wout)
    (hb : ∀ (W : WX) (pn : List (Addr × Obj)) (xe : Value → Shared → Prop), Takes (X.tr pn xe) W → PassesOwn (model X.prog X.w) X.A X.env xe → PSs (X.tr pn xe) body (tb W))
    (hh : HdsA X (h₀ :: hds) l) : PS X (.Try body (h₀ :: hds) [] [] pos) (fun D σ H => tb (wMA X.K Wout D l) D σ H) := by
  refine ⟨fun pins s σ H D I h => ?_⟩
  have ok := I.ok
  have hfr : X.A.frames = some (X.env :: X.outer) := by rw [ok.frames, hs]
  refine wpAny_Try_except ?_
  refine wpAny_mono ((hb (wMA X.K Wout D l) (X.pn ++ pins) (fun e s₁ => wpAny (model X.prog X.w) X.A (noteFrame e X.env) (fun _ s₂ => wpAny (model X.prog X.w) X.A (setFlight e none) (fun _ s₃ =>
    wpAny (model X.prog X.w) X.A (handleBy e X.env (h₀ :: hds)) (SP X pins D) X.xe s₃) X.xe s₂) X.xe s₁) (fun u s' xx => ?_) PassesOwn.looking).run [] s σ H D (I.toTry _) h) (fun f s1 hsp => ?_) (fun e s1 he => he)
  · obtain ⟨a, B, sI, pins', σ', H', cls, d, rfl, J', nb, up, sky, na, os, ag, w⟩ := xx
    have J : Inv X pins σ' H' sI := J'.ofTry ok
    have sky' : Sky B (X.env :: X.outer) a (Zc cls d) X.env.locals s'.heap := by rw [← hs]; exact sky
    show wpAny (model X.prog X.w) X.A (noteFrame (.ref a) X.env) _ _ _
    refine Sky.land Zc.steady hfr hf sky' fun h3 fl3 up3 => ?_
    have J3 : Inv X pins σ' H' { s' with heap := h3 } := J.landed nb fl3.1 (up.trans up3) os ag
    obtain ⟨oe3, vs3, he3, hz3, hd3⟩ := fl3.there
    have notFr : ∀ {h : Heap} {o : Obj} {vs : Array Value}, h.FunFrames B (X.env :: X.outer) → h.get? a = some o → o.data = .fields vs → a ∉ frs (X.env :: X.outer) := fun {h o vs} ff e dd hm => by
      obtain ⟨_, o', e', hnf⟩ := ff.mem hm
      rw [e] at e'; cases e'
      exact hnf _ dd
    have nfr := notFr fl3.2.2.1 he3 hd3
    have nL : a ≠ X.env.locals := fun z => nfr (List.mem_filterMap.mpr ⟨X.env, List.mem_cons_self, by rw [hf, z]⟩)
    have nF : a ∉ X.fs := fun hm => by
      obtain ⟨e, he, q⟩ := List.mem_filterMap.mp hm
      exact nfr (List.mem_filterMap.mpr ⟨e, List.mem_cons_of_mem _ he, q⟩)
    have S3 := J3.suite he3 hd3 na nL nF
    have LT : PySem.W.Looks (model X.prog X.w) h3 (typeOf (.ref a)) cls := fun A Q E s k q => wpAny_typeOf_ref (k _ _ he3) (by rw [hz3.1]; exact q)
    have test : ∀ {x : Str} {c : Value} {np : Pos} {Q : Value → Shared → Prop} {E : Value → Shared → Prop}, Names X x c → Q c { s' with heap := h3 } → wpAny (model X.prog X.w) (X.A.mark (some (.ref a))) (eval (.Name x np) X.env) Q E { s' with heap := h3 } := fun {x c np Q E} hc q => by
      obtain ⟨hg, hdbg, hm | ⟨hm, hv, hnn⟩⟩ := hc
      · exact ld_glob (X := X.suite a ((a, oe3) :: (X.pn ++ pins))) S3 hg hm q hdbg
      · exact ld_blt (X := X.suite a ((a, oe3) :: (X.pn ++ pins))) S3 hg hm hv q hnn hdbg
    have go : ∀ {hds' : List ExceptHandler} {l' : List (Value × Option Nat × (Addr → Value → Option Addr → TS))}, HdsA X hds' l' → wMA X.K Wout D l' cls d σ' H' →
        wpAny (model X.prog X.w) X.A (handleBy (.ref a) X.env hds') (SP X pins D) X.xe { s' with heap := h3 } := by
      intro hds' l' hk
      induction hk with
      | nil =>
        intro w
        refine wpAny_handleBy_nil ?_
        obtain ⟨k1, k2, k3, oe, vs, T, oT, ts', he, hz, hd, h1, hr⟩ := id fl3
        unfold PySem.passOn
        refine wpAny_bind (wpAny_field he hd h1 ?_)
        rw [if_neg (show ¬ ((Value.ref T == Value.none) = true) from by simp)]
        have fin : wpAny (model X.prog X.w) X.A (setFlight (.ref a) X.env.frame) (fun _ s4 => wpAny (model X.prog X.w) X.A (throw (.ref a) : Sem Flow) (SP X pins D) X.xe s4) X.xe { s' with heap := h3 } := by
          rw [hf]
          refine HandSPX.setFlight_upZ fl3 fun h4 hh4 up4 => wpAny_throw (tk _ _ ?_)
          exact ⟨a, B, sI, pins, σ', H', cls, d, rfl, J, nb, (up.trans up3).trans up4, .inr (.inr (by rw [hs]; exact hh4)), na, os, ag, w⟩
        first
          | exact wpAny_bind (wpAny_pure (wpAny_bind fin))
          | exact wpAny_bind fin
      | @cons x c ts b₀ suite np pos' hds2 l2 hc hsu r ih =>
        intro w
        obtain ⟨b, hb1, hyes, hno⟩ := w
        refine wpAny_handleBy_cons (codeAny_handlers_test ?_) (by intro q; cases q)
        have LM := PySem.W.exm_one (M := model X.prog X.w) (J3.kIn) LT hb1
        refine test hc (LM.here ?_)
        cases b with
        | true =>
          refine codeAny_handlers_suite ?_
          refine HandSPX.lands_againZ fl3 fun h4 fl4 up4 => ?_
          have J4 : Inv X pins σ' H' { s' with heap := h4 } := J.landed nb fl4.1 ((up.trans up3).trans up4) os ag
          obtain ⟨oe4, vs4, he4, hz4, hd4⟩ := fl4.there
          have S4 := J4.suite he4 hd4 na nL nF
          refine wpAny_mono ((hsu a oe4 cls d (X.pn ++ pins) hz4 ⟨_, hd4⟩).run [] _ _ H' _ S4 (hyes rfl a na)) (fun f s6 hsp => ?_) (fun _ _ z => False.elim z)
          cases f with
          | next =>
            obtain ⟨σ6, H6, S6, q6⟩ := hsp
            exact ⟨_, _, S6.unsuite ok, q6⟩
          | brk =>
            obtain ⟨σ6, H6, S6, q6⟩ := hsp
            exact ⟨_, _, S6.unsuite ok, q6⟩
          | cont =>
            obtain ⟨σ6, H6, S6, q6⟩ := hsp
            exact ⟨_, _, S6.unsuite ok, q6⟩
          | ret u =>
            obtain ⟨v6, σ6, H6, S6, r6, q6⟩ := hsp
            exact ⟨_, _, _, S6.unsuite ok, r6, q6⟩
        | false =>
          show wpAny _ X.A (handleBy (.ref a) X.env hds2) _ _ _
          exact ih (hno rfl)
      | @as x n i c ts b₀ suite np pos' hds2 l2 hi hln hc hsu r ih =>
        intro w
        obtain ⟨b, hb1, hyes, hno⟩ := w
        have hloc : Loc X.env.scope n := .inl hln
        refine wpAny_handleBy_cons (codeAny_handlers_test ?_) (by intro q; cases q)
        have LM := PySem.W.exm_one (M := model X.prog X.w) (J3.kIn) LT hb1
        refine test hc (LM.here ?_)
        cases b with
        | true =>
          refine codeAny_handlers_suite_as ?_
          refine HandSPX.lands_againZ fl3 fun h4 fl4 up4 => ?_
          have J4 : Inv X pins σ' H' { s' with heap := h4 } := J.landed nb fl4.1 ((up.trans up3).trans up4) os ag
          obtain ⟨oe4, vs4, he4, hz4, hd4⟩ := fl4.there
          have S4 := J4.suite he4 hd4 na nL nF
          refine store_ok (X := X.suite a ((a, oe4) :: (X.pn ++ pins))) (v := .ref a) S4 hN hi hloc rfl (fun s5 S5 => ?_) (.inr hln)
          refine wpAny_mono ((hsu a oe4 cls d (X.pn ++ pins) hz4 ⟨_, hd4⟩).run [] s5 _ H' _ S5 (hyes rfl a na)) (fun f s6 hsp => ?_) (fun _ _ z => False.elim z)
          have end_ : ∀ {σ6 : L2.St} {H6 : Hp} {Q : Shared → Prop}, Inv (X.suite a ((a, oe4) :: (X.pn ++ pins))) [] σ6 H6 s6 → (∀ s7, Inv X pins (σ6.set i none) H6 s7 → Q s7) →
              wpAny (model X.prog X.w) X.A (do bindName X.env n .none; unbindBehindTheSuite X.env n pos') (fun _ s7 => Q s7) X.xe s6 := fun {σ6 H6 Q} S6 hq => gone_ok (S6.unsuite ok) hN hi hln hq
          cases f with
          | next =>
            obtain ⟨σ6, H6, S6, q6⟩ := hsp
            exact end_ S6 fun s7 J7 => ⟨_, _, J7, q6⟩
          | brk =>
            obtain ⟨σ6, H6, S6, q6⟩ := hsp
            exact end_ S6 fun s7 J7 => ⟨_, _, J7, q6⟩
          | cont =>
            obtain ⟨σ6, H6, S6, q6⟩ := hsp
            exact end_ S6 fun s7 J7 => ⟨_, _, J7, q6⟩
          | ret u =>
            obtain ⟨v6, σ6, H6, S6, r6, q6⟩ := hsp
            exact end_ S6 fun s7 J7 => ⟨_, _, _, J7, r6, q6⟩
        | false =>
          show wpAny _ X.A (handleBy (.ref a) X.env hds2) _ _ _
          exact ih (hno rfl)
    exact go hh w
  · cases f with
    | next =>
      obtain ⟨σ', H', J', q⟩ := hsp
      exact wpAny_execs_nil ⟨σ', H', J'.ofTry ok, q⟩
    | brk =>
      obtain ⟨σ', H', J', q⟩ := hsp
      exact ⟨σ', H', J'.ofTry ok, q⟩
    | cont =>
      obtain ⟨σ', H', J', q⟩ := hsp
      exact ⟨σ', H', J'.ofTry ok, q⟩
    | ret u =>
      obtain ⟨v, σ', H', J', r, q⟩ := hsp
      exact ⟨v, σ', H', J'.ofTry ok, r, q⟩
end
end Z

/-! ### own exceptions as values -/
namespace Z
open PySem PySem.Spec L2 PyProof.Rows
/-- an exception that is held: its class, the names and values in its dict, if it has one -/
def Exv (H : Hp) (a C : Addr) : Option (List (Str × V)) → Prop
  | none => H a = some (exo a C none)
  | some fs => ∃ d, H a = some (exo a C (some d)) ∧ H d = some (exd d fs)
theorem Exv.same {H H' : Hp} {a C : Addr} : ∀ {fs : Option (List (Str × V))}, Exv H a C fs → Same H H' → Exv H' a C fs
  | none, h, s => s _ _ h
  | some _, ⟨d, h1, h2⟩, s => ⟨d, s _ _ h1, s _ _ h2⟩
section
variable {X : Cx} {CX : CXT} {C : Addr} {x : Str} {p pos : Pos} {e o : Expr} {es : List Expr} {ta : TA} {te : TE}
/-- C() as a value -/
theorem pe_exv0 {bmB : List Value} {B newId initId : String} (F : ExcBaseFacts B newId initId bmB) (q : PySem.W.excIn X.K C bmB newId = true) (gC : X.mg x = some (.ref C)) (kC : PySem.W.keepIn X.K (.ref C) = true) (hg : Gl X x := by rfl)
    (hdb : (x == ("__debug__" : Str)) = false := by decide) : PE X (.Call (.Name x p) [] [] pos) (fun σ H Q => ∀ a, H a = none → Q (.ref a) (upd H a (exo a C none))) := by
  refine ⟨fun pins s σ H Q I h => ?_⟩
  refine wpAny_Call_Name_kw (ld_glob I hg gC ?_ hdb)
  refine PySem.W.callWith_K0 I.kIn kC ?_
  show wpAny _ _ (PySem.call (Value.ref C) []) _ _ _
  obtain ⟨bm, N, nm, qn, bs, hdct, sn, sub, ab, col, dd, k0, k1, k2, k3, k5, mN, hC, hN, hni, T⟩ := exc_obj I.kIn q
  refine wpAny_call_exc_subT F T hC hN hni (fun h' a hm => ?_) (Nat.zero_le _)
  have hn : H a = none := I.hok.gone hm.new
  obtain ⟨t, ht, _, _⟩ := hm.there
  exact ⟨.ref a, upd H a (exo a C none), I.laidN hm.keeps hm.new hn (exo_ok ht), rfl, h a hn⟩
/-- C(e, ..) as a value, C's own __init__ keeping sp -/
def tMkV (C : Addr) (sp : Sp) (ta : TA) : TE := fun σ H Q => ta σ H fun vs H1 => vs.length ≤ 1000 ∧ ∀ a, H1 a = none → sp (.ref a :: vs) (upd H1 a (exo a C none)) (fun v H2 => v = .non ∧ Q (.ref a) H2) (fun _ _ _ => False)
theorem pe_exv {fI : Addr} {k : Nat} {fd : FuncData} {ps : List Str} {sp : Sp} (T : OexC X.K C) (iC : PySem.W.findIn X.K (.ref C) "__init__" = some (some (.ref fI))) (tI : PySem.W.typeIn X.K (.ref fI) = some (.type "function"))
    (F1 : FnOk X.prog X.w X.K X.mg X.base CX k fI fd ps sp) (hr : Room (k + 1) X.A) (hb : Binds X.K fd ps []) (hx : Passes CX X (fun _ _ _ => False)) (hg : Gl X x) (hm : X.mg x = some (.ref C)) (ha : PA X (e :: es) ta)
    (hdb : (x == ("__debug__" : Str)) = false := by decide) (he : starEach (e :: es) X.env = (false, eval e X.env) :: starEach es X.env := by rfl) (hpl : (backTo pos (starEach es X.env)).any (·.1) = false := by rfl) :
    PE X (.Call (.Name x p) (e :: es) [] pos) (tMkV C sp ta) := by
  refine ⟨fun pins s σ H Q I h => ?_⟩
  obtain ⟨nm, q, N, bs, bm, sn, sub, ab, col, dd, k0, k1, k2, k3, k5, hC, hbm⟩ := T.cls
  refine wpAny_Call_Name_kw (ld_glob I hg hm ?_ hdb)
  refine PySem.W.callWith_K (h₀ := X.base) I.ok.mod.kin T.kC (thn (ha.run pos pins s σ H _ I h) fun us s1 ⟨vs, H1, I1, r1, hz, q1⟩ => ⟨I1.kIn, ?_⟩) he hpl
  show wpAny _ _ (PySem.call (Value.ref C) us) _ _ _
  obtain ⟨hp, g, dr, tk, os⟩ := s1
  have hsz : hp.objs.size ≤ hp.objs.size + 1 := Nat.le_succ _
  have hn : H1 (hp.objs.size + 1) = none := I1.hok.fresh hsz
  have hq := q1 (hp.objs.size + 1) hn
  have kk : ∀ b o, hp.get? b = some o → ((hp.push (PySem.W.kdv_tup us)).push (PySem.HandSPX.excO C hp.objs.size)).get? b = some o := fun b o e => Heap.get?_push_of_some _ (Heap.get?_push_of_some _ e)
  have hget : ((hp.push (PySem.W.kdv_tup us)).push (PySem.HandSPX.excO C hp.objs.size)).get? (hp.objs.size + 1) = some (PySem.HandSPX.excO C hp.objs.size) := by heap_get
  have I2 : Inv X pins σ (upd H1 (hp.objs.size + 1) (exo (hp.objs.size + 1) C none)) ⟨(hp.push (PySem.W.kdv_tup us)).push (PySem.HandSPX.excO C hp.objs.size), g, dr, tk, os⟩ :=
    I1.laid (t' := tk) (a := hp.objs.size + 1) (o := exo (hp.objs.size + 1) C none) (h' := (hp.push (PySem.W.kdv_tup us)).push (PySem.HandSPX.excO C hp.objs.size)) kk hsz (exo_ok hget)
  have r2 : Vals (V.ref (hp.objs.size + 1) :: vs) (Value.ref (hp.objs.size + 1) :: us) := .cons rfl r1
  have hl : (Value.ref (hp.objs.size + 1) :: us ++ []).length = ps.length := by
    have e := r2.length
    rw [F1.len _ _ _ _ hq] at e
    rw [List.append_nil]
    exact e.symm
  have hus : us.length ≤ sizeLine := by
    rw [← Paired.length r1, sizeLine_eq]
    omega
  have hbb := hb _ (Value.ref (hp.objs.size + 1) :: us) I2.kIn hl
  rw [List.append_nil] at hbb
  refine wpAny_call (PySem.HandSPX.call_own F.excBase_ValueError (fun Y => PySem.HandSPX.refsVE_contains Y bm hbm) (I1.kIn _ _ hC) (PySem.W.looks_findIn I1.kIn iC) (fun self => PySem.W.bind_fn I1.kIn self tI) hus
    (codeAny_mono (F1.run _ X.stack _ _ ⟨Value.ref (hp.objs.size + 1) :: us, []⟩ (Value.ref (hp.objs.size + 1) :: us) _ _ (fun _ _ _ => False) (hr.make C us []) (I2.env0.make C us []) hbb r2 hq) fun r s' hq' => ?_))
  match r, hq' with
  | .error er, hq' => exact hx pins σ _ _ er s' I2 hq'
  | .ok (.ret u), hq' =>
    obtain ⟨v, H2, J, rv, ev, q2⟩ := I2.after hq'
    subst ev
    exact ⟨rv, ⟨V.ref (hp.objs.size + 1), H2, J, rfl, q2⟩⟩
/-- isinstance(e, c) of an exception that is held -/
def rIsV (K : PySem.W.Frag) : List V → Hp → VK → Prop := fun xs H Q => ∃ (a D : Addr) (fs : Option (List (Str × V))) (c : V) (cv : Value) (b : Bool), xs = [.ref a, c] ∧ Exv H a D fs ∧ ExcC K D ∧ ClsV c cv ∧ PySem.W.kitOne K (.ref D) cv = some b ∧ Q (.bl b) H
theorem exv_inst {P : Program} {w : World} {H : Hp} {h : Heap} {a D : Addr} {fs : Option (List (Str × V))} (hok : HOk P w H h) (e : Exv H a D fs) : ∃ oe od, PySem.W.InstAt h a oe D od := by
  cases fs with
  | none =>
    obtain ⟨t1, ho⟩ := exo_at hok e
    exact ⟨_, none, ho, rfl, rfl, True.intro⟩
  | some fs =>
    obtain ⟨d, e1, e2⟩ := e
    obtain ⟨t1, ho⟩ := exo_at hok e1
    obtain ⟨mA, ⟨od, _, _, hd, _⟩, _⟩ := exd_at hok e2
    exact ⟨_, some od, ho, rfl, rfl, hd⟩
theorem call_isV : CallR X (.builtin "isinstance") (rIsV X.K) := by
  intro pins s σ H xs us Q I r h
  obtain ⟨a, D, fs, c, cv, b, rfl, he, C, hc, e, q⟩ := h
  cases r with
  | cons rx rr =>
    cases rr with
    | cons rt rr =>
      cases rr
      cases rx
      have ec := hc.eq rt
      subst ec
      obtain ⟨oe, od, J⟩ := exv_inst I.hok he
      exact PySem.W.kia_one (PySem.W.kitx_exc (isCls_some C.hd) C.hg C.hk C.hs C.ha C.hn C.ht C.hm) I.kIn J e (fun z => nomatch z) fun tk => ⟨.bl b, H, I.kept (t' := tk) fun _ _ z => z, rfl, q⟩
/-- e.f of an exception that is held -/
def tXv (K : PySem.W.Frag) (f : Str) (te : TE) : TE := fun σ H Q => te σ H fun x H1 => ∃ (a C : Addr) (fs : List (Str × V)) (v : V), x = .ref a ∧ XfC K C ∧ PySem.W.findIn K (.ref C) f = some none ∧ Exv H1 a C (some fs) ∧ fs.lookup f = some v ∧ Q v H1
theorem pe_xv {n : Str} (he : PE X e te) (hb : attributeBase e n X.env (eval e X.env) = eval e X.env := by rfl) : PE X (.Attribute e n pos) (tXv X.K n te) := by
  refine ⟨fun pins s σ H Q I h => ?_⟩
  refine attr_of hb (thn (he.run pins s σ H _ I h) fun u s1 hh => ?_)
  obtain ⟨x, H1, I1, rx, a, C, fs, v, ex, T, hno, ⟨d, e1, e2⟩, l, q⟩ := hh
  subst ex
  obtain rfl : u = Value.ref a := rx
  obtain ⟨t1, ho⟩ := exo_at I1.hok e1
  obtain ⟨mA, hns, hr⟩ := exd_at I1.hok e2
  obtain ⟨od, hod, hl⟩ := lookIn_ns hns
  obtain ⟨u, hu, ru⟩ := RelO.some_of (v := v) (o := mA n) (by rw [← l]; exact hr n)
  have J : PySem.W.InstAt s1.heap a _ C (some od) := ⟨ho, rfl, rfl, hod⟩
  exact HandSPX.exc_get I1.kIn J T.ga T.gg T.exC (PySem.W.findObj_own T.hdC hno rfl (by rw [hl, hu])) (handed_of ru) ⟨v, H1, I1.tok _, ru, q⟩
end
section
variable {K : PySem.W.Frag} {σ : L2.St} {H : Hp} {C : Addr} {ta : TA} {te : TE} {f : Str} {Q : VK} {sp : Sp}
theorem mkV (h : ta σ H fun vs H1 => vs.length ≤ 1000 ∧ ∀ a, H1 a = none → sp (.ref a :: vs) (upd H1 a (exo a C none)) (fun v H2 => v = .non ∧ Q (.ref a) H2) (fun _ _ _ => False)) : tMkV C sp ta σ H Q := h
theorem xv (h : te σ H fun x H1 => ∃ (a C : Addr) (fs : List (Str × V)) (v : V), x = .ref a ∧ XfC K C ∧ PySem.W.findIn K (.ref C) f = some none ∧ Exv H1 a C (some fs) ∧ fs.lookup f = some v ∧ Q v H1) : tXv K f te σ H Q := h
/-- C(ws) held: two new places -/
theorem heldX {fs : List Str} {ws : List V} {E : XK} (hl : ws.length = fs.length := by rfl) (hz : fs.length ≤ 100 := by decide) (h : ∀ a d, H a = none → H d = none → d ≠ a → Q (.ref a) (upd (upd H a (exo a C (some d))) d (exd d (fs.zip ws).reverse))) :
    ws.length ≤ 1000 ∧ ∀ a, H a = none → spX K C fs (.ref a :: ws) (upd H a (exo a C none)) (fun v H2 => v = .non ∧ Q (.ref a) H2) E := by
  refine ⟨by omega, fun a ha => ⟨a, ws, rfl, hl, upd_same, fun d H' hd hne h1 h2 h3 => ⟨rfl, ?_⟩⟩⟩
  rw [upd_ne hne] at hd
  have e : H' = upd (upd H a (exo a C (some d))) d (exd d (fs.zip ws).reverse) := by
    funext b
    by_cases hb : b = d
    · rw [hb, upd_same, h2]
    · rw [upd_ne hb]
      by_cases hba : b = a
      · rw [hba, upd_same, h1]
      · rw [upd_ne hba, h3 b hba hb, upd_ne hba]
  rw [e]
  exact h a d ha hd hne
end
end Z
local macro_rules | `(tactic| walk_at "z1") => `(tactic| first | (with_reducible refine Z.mkV ?_) | (with_reducible refine Z.xv ?_))
namespace Z
open PySem PySem.Spec L2 PyProof.Rows
/-- the own exception classes Cs: each is under S and under ValueError, none under another -/
def excTab (K : PySem.W.Frag) (S : Addr) (Cs : List Addr) : Bool := decide Cs.Nodup && Cs.all fun D => PySem.W.kitOne K (.ref D) (.ref S) == some true && PySem.W.kitOne K (.ref D) (.type "ValueError") == some true && Cs.all fun C => PySem.W.kitOne K (.ref D) (.ref C) == some (D == C)
theorem excTab_at {K : PySem.W.Frag} {S : Addr} {Cs : List Addr} (h : excTab K S Cs = true) : Cs.Nodup ∧ ∀ D ∈ Cs, PySem.W.kitOne K (.ref D) (.ref S) = some true ∧ PySem.W.kitOne K (.ref D) (.type "ValueError") = some true ∧ ∀ C ∈ Cs, PySem.W.kitOne K (.ref D) (.ref C) = some (D == C) := by
  unfold excTab at h
  rw [Bool.and_eq_true] at h
  refine ⟨of_decide_eq_true h.1, fun D hD => ?_⟩
  have h2 := List.all_eq_true.mp h.2 D hD
  simp only [Bool.and_eq_true, beq_iff_eq] at h2
  exact ⟨h2.1.1, h2.1.2, fun C hC => by have := List.all_eq_true.mp h2.2 C hC; simpa using this⟩
end Z

/-! ### tuples of the same things, alike by being the same -/
namespace Z
open PySem PySem.Spec L2 PyProof.Rows
def SameV (x : V) : Prop := flatV x = true ∨ ∃ a, x = .ref a
def rNeT (K : PySem.W.Frag) : R2 := fun x y H Q => ∃ p q xs, x = .ref p ∧ y = .ref q ∧ SqT K H p xs ∧ SqT K H q xs ∧ (∀ v ∈ xs, SameV v) ∧ Q (.bl false) H
theorem eqV_self {x : V} (h : flatV x = true) : eqV x x = true := by
  cases x <;> first | rfl | exact beq_self_eq_true _ | exact absurd h (by simp [flatV])
theorem same_eqAt {A : Around} {s : Shared} {x : V} {u v : Value} (ru : RelV x u) (rv : RelV x v) (h : SameV x) : SeqAt.EqAt A s u v true := by
  rcases h with h | ⟨a, rfl⟩
  · have := eqAt_V (A := A) (s := s) ru rv h h
    rwa [eqV_self h] at this
  · cases ru
    cases rv
    exact SeqAt.EqAt.same _
theorem op_neT {X : Cx} (hu : X.A.units + 64 < cLine) : OpR X (compareOp .NotEq) (rNeT X.K) := by
  intro pins s σ H x y v u Q I rx ry h
  obtain ⟨p, q, xs, rfl, rfl, h1, h2, hs, k⟩ := h
  cases rx
  cases ry
  obtain ⟨u1, r1, p1, z1⟩ := I.tuple h1
  obtain ⟨u2, r2, p2, z2⟩ := I.tuple h2
  have l1 := Paired.length r1
  have l2 := Paired.length r2
  have he : ∀ j (g1 : j < u1.toArray.size) (g2 : j < u2.toArray.size), SeqAt.EqAt X.A.in1 s u1.toArray[j] u2.toArray[j] ((fun _ => true) j) := fun j g1 g2 => by
    have g1' : j < u1.length := by simpa using g1
    have g2' : j < u2.length := by simpa using g2
    have e1 : u1[j]? = some u1[j] := List.getElem?_eq_getElem g1'
    have e2 : u2[j]? = some u2[j] := List.getElem?_eq_getElem g2'
    have ex : xs[j]? = some (xs[j]'(by omega)) := List.getElem?_eq_getElem _
    obtain ⟨w1, f1, f2⟩ := LiI.paired_get r1 ex
    obtain ⟨w2, f3, f4⟩ := LiI.paired_get r2 ex
    rw [e1] at f1
    rw [e2] at f3
    cases f1
    cases f3
    have := same_eqAt (A := X.A.in1) (s := s) f2 f4 (hs _ (List.getElem_mem _))
    simpa using this
  have main : SeqAt.RcNeAt X.A s (.ref p) (.ref q) (!((List.range (min u1.toArray.size u2.toArray.size)).all (fun _ => true) && u1.toArray.size == u2.toArray.size)) := SeqAt.RcNeAt.tuples p1 p2 (by omega) he
  refine main _ _ _ _ ?_
  have e : (!((List.range (min u1.toArray.size u2.toArray.size)).all (fun _ => true) && u1.toArray.size == u2.toArray.size)) = false := by
    rw [List.size_toArray, List.size_toArray, ← l1, ← l2]
    simp
  rw [e]
  exact ⟨.bl false, H, I, rfl, k⟩
/-- lists of the same things -/
def rEqS (K : PySem.W.Frag) : R2 := fun x y H Q => ∃ p q xs, x = .ref p ∧ y = .ref q ∧ SqL K H p xs ∧ SqL K H q xs ∧ (∀ v ∈ xs, SameV v) ∧ Q (.bl true) H
theorem op_eqLS {X : Cx} (hu : X.A.units + 64 < cLine) : OpR X (compareOp .Eq) (rEqS X.K) := by
  intro pins s σ H x y v u Q I rx ry h
  obtain ⟨p, q, xs, rfl, rfl, h1, h2, hs, k⟩ := h
  cases rx
  cases ry
  obtain ⟨u1, r1, p1, z1⟩ := I.list h1
  obtain ⟨u2, r2, p2, z2⟩ := I.list h2
  have l1 := Paired.length r1
  have l2 := Paired.length r2
  have il : ∀ {a : Addr} {its : Array Value}, PlainL s.heap a its → s.heap.IsList a its := fun ⟨o, n, e, c, _, d⟩ => ⟨o, e, c, n, d⟩
  have he : ∀ j (g1 : j < u1.toArray.size) (g2 : j < u2.toArray.size), SeqAt.EqAt X.A.in1 s u1.toArray[j] u2.toArray[j] ((fun _ => true) j) := fun j g1 g2 => by
    have g1' : j < u1.length := by simpa using g1
    have g2' : j < u2.length := by simpa using g2
    have e1 : u1[j]? = some u1[j] := List.getElem?_eq_getElem g1'
    have e2 : u2[j]? = some u2[j] := List.getElem?_eq_getElem g2'
    have ex : xs[j]? = some (xs[j]'(by omega)) := List.getElem?_eq_getElem _
    obtain ⟨w1, f1, f2⟩ := LiI.paired_get r1 ex
    obtain ⟨w2, f3, f4⟩ := LiI.paired_get r2 ex
    rw [e1] at f1
    rw [e2] at f3
    cases f1
    cases f3
    have := same_eqAt (A := X.A.in1) (s := s) f2 f4 (hs _ (List.getElem_mem _))
    simpa using this
  have hsz : u1.toArray.size = u2.toArray.size := by rw [List.size_toArray, List.size_toArray, ← l1, ← l2]
  have main : SeqAt.RcAt X.A s (.ref p) (.ref q) ((List.range u1.toArray.size).all (fun _ => true)) := SeqAt.RcAt.lists (il p1) (il p2) hsz (by omega) he
  refine main _ _ _ _ ?_
  have e : ((List.range u1.toArray.size).all (fun _ => true)) = true := by simp
  rw [e]
  exact ⟨.bl true, H, I, rfl, k⟩
end Z

/-! ### texts of parts parted by strokes -/
namespace PG
open PySem TL
def BAR : List Nat := [32, 124, 32]
theorem no_bar {p q : List Nat} (h : 124 ∉ p) (hq : q[0]? ≠ some 124) : ∀ i, i < p.length → pre BAR ((p ++ q).drop i) = false := fun i hi => by
  cases hp : pre BAR ((p ++ q).drop i) with
  | false => rfl
  | true =>
    have e : ((p ++ q).drop i).take BAR.length = BAR := eq_of_beq hp
    have e1 : (((p ++ q).drop i).take BAR.length)[1]? = some 124 := by rw [e]; rfl
    rw [List.getElem?_take, if_pos (by decide), List.getElem?_drop] at e1
    by_cases hl : i + 1 < p.length
    · rw [List.getElem?_append_left hl] at e1
      exact absurd (List.mem_of_getElem? e1) h
    · rw [List.getElem?_append_right (by omega), show i + 1 - p.length = 0 by omega] at e1
      exact absurd e1 hq
theorem spl_bar : ∀ {parts : List (List Nat)}, parts ≠ [] → (∀ p ∈ parts, 124 ∉ p) → spl BAR 0 [] (joinL BAR parts) = parts
  | [], h, _ => absurd rfl h
  | [p], _, hp => by
    show spl BAR 0 [] p = [p]
    have := no_bar (q := []) (hp p (List.mem_singleton.mpr rfl)) (by simp)
    rw [List.append_nil] at this
    rw [spl_last this, List.nil_append]
  | p :: q :: r, _, hp => by
    show spl BAR 0 [] (p ++ (BAR ++ joinL BAR (q :: r))) = p :: q :: r
    rw [spl_part (by decide) (no_bar (hp p (List.mem_cons_self ..)) (by simp [BAR])), List.nil_append, spl_bar (by simp) fun z hz => hp z (List.mem_cons_of_mem _ hz)]
theorem tl_bar : tl (" | " : Str) = BAR := by decide +kernel
/-- parts without strokes, joined by strokes, split there -/
theorem split_bar {parts : List Str} (hne : parts ≠ []) (hp : ∀ p ∈ parts, 124 ∉ tl p) : Txt.split (Txt.join (" | " : Str) parts) " | " = parts := by
  refine map_tl_inj ?_
  rw [split_spl _ _ (by rw [tl_bar]; decide) (kind_ok (by decide +kernel)), join_eq, tl_join, tl_bar]
  refine spl_bar (fun e => hne (List.map_eq_nil_iff.mp e)) fun p h => ?_
  obtain ⟨z, hz, rfl⟩ := List.mem_map.mp h
  exact hp z hz
theorem split_blank {parts : List Str} (hne : parts ≠ []) (hp : ∀ p ∈ parts, 32 ∉ tl p) : Txt.split (Txt.join (" " : Str) parts) " " = parts :=
  split_join (s := 32) (S := []) (by decide +kernel) (by decide +kernel) hne hp
end PG

namespace Toy
open PySem L2
section
variable {P : Program} {w : World} {K : PySem.W.Frag} {mg : Str → Option Value} {base : Heap}
def top (i : Nat) : Stmt := PySem.Challenge.pw_planstore_k24_newest_and_late.main.body.getD i (.Pass ⟨0, 0, 0, 0⟩)
abbrev s_is_name : Stmt := top 6
theorem sc_is_name : FnScope ["thing", "sign"] ["thing"] (defScope s_is_name) := ⟨rfl, rfl, rfl, by decide +kernel, rfl, by decide +kernel, by decide +kernel⟩
abbrev s_is_kind : Stmt := top 7
theorem sc_is_kind : FnScope ["thing"] ["thing"] (defScope s_is_kind) := ⟨rfl, rfl, rfl, by decide +kernel, rfl, by decide +kernel, by decide +kernel⟩
abbrev s_value_text : Stmt := top 8
theorem sc_value_text : FnScope ["value"] ["value"] (defScope s_value_text) := ⟨rfl, rfl, rfl, by decide +kernel, rfl, by decide +kernel, by decide +kernel⟩
abbrev s_figures_in : Stmt := top 9
theorem sc_figures_in : FnScope ["text", "sign"] ["text"] (defScope s_figures_in) := ⟨rfl, rfl, rfl, by decide +kernel, rfl, by decide +kernel, by decide +kernel⟩
abbrev s_value_in : Stmt := top 10
theorem sc_value_in : FnScope ["kind", "text", "figures", "number"] ["kind", "text"] (defScope s_value_in) := ⟨rfl, rfl, rfl, by decide +kernel, rfl, by decide +kernel, by decide +kernel⟩
abbrev s_is_row_of : Stmt := top 34
theorem sc_is_row_of : FnScope ["thing", "least", "most"] ["thing", "least", "most"] (defScope s_is_row_of) := ⟨rfl, rfl, rfl, by decide +kernel, rfl, by decide +kernel, by decide +kernel⟩
abbrev s_need_pair : Stmt := top 35
theorem sc_need_pair : FnScope ["thing"] ["thing"] (defScope s_need_pair) := ⟨rfl, rfl, rfl, by decide +kernel, rfl, by decide +kernel, by decide +kernel⟩
abbrev s_columns_in : Stmt := top 36
theorem sc_columns_in : FnScope ["thing", "names", "column", "name", "kind"] ["thing"] (defScope s_columns_in) := ⟨rfl, rfl, rfl, by decide +kernel, rfl, by decide +kernel, by decide +kernel⟩
abbrev s_tables_in : Stmt := top 37
theorem sc_tables_in : FnScope ["thing", "found", "table"] ["thing"] (defScope s_tables_in) := ⟨rfl, rfl, rfl, by decide +kernel, rfl, by decide +kernel, by decide +kernel⟩
abbrev s_orders_in : Stmt := top 38
theorem sc_orders_in : FnScope ["thing", "tables", "found", "order", "table", "column", "name", "kind"] ["thing", "tables"] (defScope s_orders_in) := ⟨rfl, rfl, rfl, by decide +kernel, rfl, by decide +kernel, by decide +kernel⟩
abbrev s_Schema___init__ : Stmt := inClass (top 39) 0
theorem sc_Schema___init__ : FnScope ["self", "tables", "orders"] ["self", "tables", "orders"] (defScope s_Schema___init__) := ⟨rfl, rfl, rfl, by decide +kernel, rfl, by decide +kernel, by decide +kernel⟩
abbrev s_Schema_need_table : Stmt := inClass (top 39) 1
theorem sc_Schema_need_table : FnScope ["self", "table"] ["self", "table"] (defScope s_Schema_need_table) := ⟨rfl, rfl, rfl, by decide +kernel, rfl, by decide +kernel, by decide +kernel⟩
abbrev s_Schema_table_names : Stmt := inClass (top 39) 2
theorem sc_Schema_table_names : FnScope ["self"] ["self"] (defScope s_Schema_table_names) := ⟨rfl, rfl, rfl, by decide +kernel, rfl, by decide +kernel, by decide +kernel⟩
abbrev s_Schema_columns_of : Stmt := inClass (top 39) 3
theorem sc_Schema_columns_of : FnScope ["self", "table"] ["self", "table"] (defScope s_Schema_columns_of) := ⟨rfl, rfl, rfl, by decide +kernel, rfl, by decide +kernel, by decide +kernel⟩
abbrev s_NoTable___init__ : Stmt := inClass (top 26) 0
theorem sc_NoTable___init__ : FnScope ["self", "table"] ["self", "table"] (defScope s_NoTable___init__) := ⟨rfl, rfl, rfl, by decide +kernel, rfl, by decide +kernel, by decide +kernel⟩
abbrev s_Disk___init__ : Stmt := inClass (top 29) 0
theorem sc_Disk___init__ : FnScope ["self"] ["self"] (defScope s_Disk___init__) := ⟨rfl, rfl, rfl, by decide +kernel, rfl, by decide +kernel, by decide +kernel⟩
abbrev s_Disk_coming : Stmt := inClass (top 29) 6
theorem sc_Disk_coming : FnScope ["self", "after", "signs"] ["self"] (defScope s_Disk_coming) := ⟨rfl, rfl, rfl, by decide +kernel, rfl, by decide +kernel, by decide +kernel⟩
abbrev s_Disk_page : Stmt := inClass (top 29) 2
theorem sc_Disk_page : FnScope ["self", "slot"] ["self", "slot"] (defScope s_Disk_page) := ⟨rfl, rfl, rfl, by decide +kernel, rfl, by decide +kernel, by decide +kernel⟩
abbrev s_Disk_writes : Stmt := inClass (top 29) 3
theorem sc_Disk_writes : FnScope ["self"] ["self"] (defScope s_Disk_writes) := ⟨rfl, rfl, rfl, by decide +kernel, rfl, by decide +kernel, by decide +kernel⟩
abbrev s_Disk_fall_at : Stmt := inClass (top 29) 4
theorem sc_Disk_fall_at : FnScope ["self", "after", "signs"] ["self", "after", "signs"] (defScope s_Disk_fall_at) := ⟨rfl, rfl, rfl, by decide +kernel, rfl, by decide +kernel, by decide +kernel⟩
abbrev s_Disk_power : Stmt := inClass (top 29) 5
theorem sc_Disk_power : FnScope ["self"] ["self"] (defScope s_Disk_power) := ⟨rfl, rfl, rfl, by decide +kernel, rfl, by decide +kernel, by decide +kernel⟩
abbrev s_Disk_put_page : Stmt := inClass (top 29) 8
theorem sc_Disk_put_page : FnScope ["self", "slot", "text", "signs"] ["self", "slot", "text"] (defScope s_Disk_put_page) := ⟨rfl, rfl, rfl, by decide +kernel, rfl, by decide +kernel, by decide +kernel⟩
abbrev s_values_in : Stmt := top 12
theorem sc_values_in : FnScope ["columns", "words", "values", "column", "word"] ["columns", "words"] (defScope s_values_in) := ⟨rfl, rfl, rfl, by decide +kernel, rfl, by decide +kernel, by decide +kernel⟩
abbrev s_page_text : Stmt := top 15
theorem sc_page_text : FnScope ["table", "last", "many", "rows", "parts", "row", "value"] ["table", "last", "many", "rows"] (defScope s_page_text) := ⟨rfl, rfl, rfl, by decide +kernel, rfl, by decide +kernel, by decide +kernel⟩
abbrev s_count_from : Stmt := top 16
theorem sc_count_from : FnScope ["word", "number"] ["word"] (defScope s_count_from) := ⟨rfl, rfl, rfl, by decide +kernel, rfl, by decide +kernel, by decide +kernel⟩
abbrev s_rows_in : Stmt := top 17
theorem sc_rows_in : FnScope ["columns", "parts", "rows", "part", "row"] ["columns", "parts"] (defScope s_rows_in) := ⟨rfl, rfl, rfl, by decide +kernel, rfl, by decide +kernel, by decide +kernel⟩
abbrev s_page_in : Stmt := top 18
theorem sc_page_in : FnScope ["schema", "text", "parts", "words", "last", "many", "rows"] ["schema", "text"] (defScope s_page_in) := ⟨rfl, rfl, rfl, by decide +kernel, rfl, by decide +kernel, by decide +kernel⟩
abbrev s_slots_of : Stmt := top 19
theorem sc_slots_of : FnScope ["schema", "table", "place"] ["schema", "table"] (defScope s_slots_of) := ⟨rfl, rfl, rfl, by decide +kernel, rfl, by decide +kernel, by decide +kernel⟩
abbrev s_newest : Stmt := top 20
theorem sc_newest : FnScope ["disk", "schema", "table", "found", "slot", "told"] ["disk", "schema", "table"] (defScope s_newest) := ⟨rfl, rfl, rfl, by decide +kernel, rfl, by decide +kernel, by decide +kernel⟩
abbrev s_late_page : Stmt := top 21
theorem sc_late_page : FnScope ["disk", "schema", "table", "last", "many", "rows", "one", "other", "slot"] ["disk", "schema", "table", "last", "many", "rows"] (defScope s_late_page) := ⟨rfl, rfl, rfl, by decide +kernel, rfl, by decide +kernel, by decide +kernel⟩
abbrev s_law_cell : Stmt := top 41
theorem sc_law_cell : FnScope ["_law_script", "_law_k"] ["_law_script", "_law_k"] (defScope s_law_cell) := ⟨rfl, rfl, rfl, by decide +kernel, rfl, by decide +kernel, by decide +kernel⟩
abbrev s_law_draws : Stmt := top 42
theorem sc_law_draws : FnScope ["_law_cell_here", "_law_many", "_law_found", "_law_left", "_law_mixed", "_law_k"] ["_law_cell_here", "_law_many"] (defScope s_law_draws) := ⟨rfl, rfl, rfl, by decide +kernel, rfl, by decide +kernel, by decide +kernel⟩
abbrev s_law_names : Stmt := top 43
theorem sc_law_names : FnScope ["_law_cell_here", "_law_many", "_law_letters", "_law_draws_here", "_law_size", "_law_at", "_law_names_here", "_law_k", "_law_signs", "_law_j", "_law_sign"] ["_law_cell_here", "_law_many"] (defScope s_law_names) := ⟨rfl, rfl, rfl, by decide +kernel, rfl, by decide +kernel, by decide +kernel⟩
abbrev s_law_schema : Stmt := top 44
theorem sc_law_schema : FnScope ["_law_cell_here", "_law_draws_here", "_law_tables", "_law_some", "_law_k", "_law_name", "_law_columns", "_law_names_here", "_law_j", "_law_column", "_law_orders"] ["_law_cell_here"] (defScope s_law_schema) := ⟨rfl, rfl, rfl, by decide +kernel, rfl, by decide +kernel, by decide +kernel⟩
abbrev s_law_value : Stmt := top 45
theorem sc_law_value : FnScope ["_law_kind", "_law_draw", "_law_number"] ["_law_kind", "_law_draw"] (defScope s_law_value) := ⟨rfl, rfl, rfl, by decide +kernel, rfl, by decide +kernel, by decide +kernel⟩
abbrev s_law_row : Stmt := top 46
theorem sc_law_row : FnScope ["_law_columns", "_law_draws_here", "_law_k", "_law_name", "_law_kind"] ["_law_columns", "_law_draws_here"] (defScope s_law_row) := ⟨rfl, rfl, rfl, by decide +kernel, rfl, by decide +kernel, by decide +kernel⟩
abbrev s_law_table_rows : Stmt := top 47
theorem sc_law_table_rows : FnScope ["_law_columns", "_law_cell_here", "_law_many", "_law_found", "_law_k", "_law_row_here", "_law_key"] ["_law_columns", "_law_cell_here", "_law_many"] (defScope s_law_table_rows) := ⟨rfl, rfl, rfl, by decide +kernel, rfl, by decide +kernel, by decide +kernel⟩
abbrev s_law_page_text : Stmt := top 48
theorem sc_law_page_text : FnScope ["_law_name", "_law_last", "_law_many", "_law_rows", "_law_parts", "_law_row_here", "_law_value_here"] ["_law_name", "_law_last", "_law_many", "_law_rows"] (defScope s_law_page_text) := ⟨rfl, rfl, rfl, by decide +kernel, rfl, by decide +kernel, by decide +kernel⟩
abbrev s_law_newest : Stmt := top 49
theorem sc_law_newest : FnScope ["_law_tables", "_law_held", "_law_place", "_law_found", "_law_slot", "_law_page"] ["_law_tables", "_law_held", "_law_place"] (defScope s_law_newest) := ⟨rfl, rfl, rfl, by decide +kernel, rfl, by decide +kernel, by decide +kernel⟩
abbrev s_law_right : Stmt := top 50
theorem sc_law_right : FnScope ["_law_disk", "_law_schema_here", "_law_tables", "_law_held", "_law_writes", "_law_place", "_law_name", "_law_columns", "_law_found", "_law_due"] ["_law_disk", "_law_schema_here", "_law_tables", "_law_held"] (defScope s_law_right) := ⟨rfl, rfl, rfl, by decide +kernel, rfl, by decide +kernel, by decide +kernel⟩
abbrev s_law_put : Stmt := top 51
theorem sc_law_put : FnScope ["_law_disk", "_law_tables", "_law_held", "_law_draws_here", "_law_slot", "_law_place", "_law_name", "_law_columns", "_law_page", "_law_text", "_law_many"] ["_law_disk", "_law_tables", "_law_held", "_law_draws_here"] (defScope s_law_put) := ⟨rfl, rfl, rfl, by decide +kernel, rfl, by decide +kernel, by decide +kernel⟩
abbrev s_law_late : Stmt := top 52
theorem sc_law_late : FnScope ["_law_disk", "_law_schema_here", "_law_tables", "_law_held", "_law_draws_here", "_law_place", "_law_name", "_law_columns", "_law_page", "_law_text", "_law_slot", "_law_before", "_law_fell", "_law_told", "_law_many", "_law_after", "_law_k"] ["_law_disk", "_law_schema_here", "_law_tables", "_law_held", "_law_draws_here"] (defScope s_law_late) := ⟨rfl, rfl, rfl, by decide +kernel, rfl, by decide +kernel, by decide +kernel⟩
abbrev s_law_refused : Stmt := top 53
theorem sc_law_refused : FnScope ["_law_disk", "_law_schema_here", "_law_way", "_law_thing", "_law_told", "e"] ["_law_disk", "_law_schema_here", "_law_way", "_law_thing"] (defScope s_law_refused) := ⟨rfl, rfl, rfl, by decide +kernel, rfl, by decide +kernel, by decide +kernel⟩
abbrev s_law : Stmt := top 54
theorem sc_law : FnScope ["_law_script", "_law_tables", "_law_orders", "_law_schema_here", "_law_disk", "_law_held", "_law_k", "_law_cell_here", "_law_draws_here", "_law_lost", "_law_writes", "_law_name", "_law_one", "_law_columns"] ["_law_script"] (defScope s_law) := ⟨rfl, rfl, rfl, by decide +kernel, rfl, by decide +kernel, by decide +kernel⟩
structure Adr where
  Schema : Addr
  Disk : Addr
  StoreError : Addr
  NoSchema : Addr
  Fell : Addr
  NoTable : Addr
  f_is_name : Addr
  f_is_kind : Addr
  f_value_text : Addr
  f_figures_in : Addr
  f_value_in : Addr
  f_is_row_of : Addr
  f_need_pair : Addr
  f_columns_in : Addr
  f_tables_in : Addr
  f_orders_in : Addr
  f_Schema___init__ : Addr
  f_Schema_need_table : Addr
  f_Schema_table_names : Addr
  f_Schema_columns_of : Addr
  f_NoTable___init__ : Addr
  f_Disk___init__ : Addr
  f_Disk_coming : Addr
  f_Disk_page : Addr
  f_Disk_writes : Addr
  f_Disk_fall_at : Addr
  f_Disk_power : Addr
  f_Disk_put_page : Addr
  f_values_in : Addr
  f_page_text : Addr
  f_count_from : Addr
  f_rows_in : Addr
  f_page_in : Addr
  f_slots_of : Addr
  f_newest : Addr
  f_late_page : Addr
  f_law_cell : Addr
  f_law_draws : Addr
  f_law_names : Addr
  f_law_schema : Addr
  f_law_value : Addr
  f_law_row : Addr
  f_law_table_rows : Addr
  f_law_page_text : Addr
  f_law_newest : Addr
  f_law_right : Addr
  f_law_put : Addr
  f_law_late : Addr
  f_law_refused : Addr
  f_law : Addr
/-- a def of the text as it stands, and how its arguments bind -/
def Dfn (K : PySem.W.Frag) (x q : Str) (st : Stmt) (ps : List Str) (f : Addr) : Prop := ∃ fd, Fun K x q st f fd ∧ Binds K fd ps []
theorem Dfn.kp {K : PySem.W.Frag} {x q : Str} {st : Stmt} {ps : List Str} {f : Addr} (d : Dfn K x q st ps f) : PySem.W.keepIn K (.ref f) = true := let ⟨_, F, _⟩ := d; F.kp
structure Txt (K : PySem.W.Frag) (mg : Str → Option Value) (A : Adr) : Prop where
  d_is_name : Dfn K "is_name" "is_name" s_is_name ["thing"] A.f_is_name
  g_is_name : mg "is_name" = some (.ref A.f_is_name)
  d_is_kind : Dfn K "is_kind" "is_kind" s_is_kind ["thing"] A.f_is_kind
  g_is_kind : mg "is_kind" = some (.ref A.f_is_kind)
  d_value_text : Dfn K "value_text" "value_text" s_value_text ["value"] A.f_value_text
  g_value_text : mg "value_text" = some (.ref A.f_value_text)
  d_figures_in : Dfn K "figures_in" "figures_in" s_figures_in ["text"] A.f_figures_in
  g_figures_in : mg "figures_in" = some (.ref A.f_figures_in)
  d_value_in : Dfn K "value_in" "value_in" s_value_in ["kind", "text"] A.f_value_in
  g_value_in : mg "value_in" = some (.ref A.f_value_in)
  d_is_row_of : Dfn K "is_row_of" "is_row_of" s_is_row_of ["thing", "least", "most"] A.f_is_row_of
  g_is_row_of : mg "is_row_of" = some (.ref A.f_is_row_of)
  d_need_pair : Dfn K "need_pair" "need_pair" s_need_pair ["thing"] A.f_need_pair
  g_need_pair : mg "need_pair" = some (.ref A.f_need_pair)
  d_columns_in : Dfn K "columns_in" "columns_in" s_columns_in ["thing"] A.f_columns_in
  g_columns_in : mg "columns_in" = some (.ref A.f_columns_in)
  d_tables_in : Dfn K "tables_in" "tables_in" s_tables_in ["thing"] A.f_tables_in
  g_tables_in : mg "tables_in" = some (.ref A.f_tables_in)
  d_orders_in : Dfn K "orders_in" "orders_in" s_orders_in ["thing", "tables"] A.f_orders_in
  g_orders_in : mg "orders_in" = some (.ref A.f_orders_in)
  d_Schema___init__ : FD.Dfn K "__init__" "Schema.__init__" s_Schema___init__ ["self", "tables", "orders"] [.non] A.f_Schema___init__
  mk_Schema : Mk K A.Schema A.f_Schema___init__
  d_Schema_need_table : Dfn K "need_table" "Schema.need_table" s_Schema_need_table ["self", "table"] A.f_Schema_need_table
  m_Schema_need_table : Meth K A.Schema "need_table" A.f_Schema_need_table
  d_Schema_table_names : Dfn K "table_names" "Schema.table_names" s_Schema_table_names ["self"] A.f_Schema_table_names
  m_Schema_table_names : Meth K A.Schema "table_names" A.f_Schema_table_names
  d_Schema_columns_of : Dfn K "columns_of" "Schema.columns_of" s_Schema_columns_of ["self", "table"] A.f_Schema_columns_of
  m_Schema_columns_of : Meth K A.Schema "columns_of" A.f_Schema_columns_of
  d_NoTable___init__ : Dfn K "__init__" "NoTable.__init__" s_NoTable___init__ ["self", "table"] A.f_NoTable___init__
  iC_NoTable : PySem.W.findIn K (.ref A.NoTable) "__init__" = some (some (.ref A.f_NoTable___init__))
  tI_NoTable : PySem.W.typeIn K (.ref A.f_NoTable___init__) = some (.type "function")
  d_Disk___init__ : Dfn K "__init__" "Disk.__init__" s_Disk___init__ ["self"] A.f_Disk___init__
  mk_Disk : Mk K A.Disk A.f_Disk___init__
  d_Disk_coming : Dfn K "coming" "Disk.coming" s_Disk_coming ["self"] A.f_Disk_coming
  m_Disk_coming : Meth K A.Disk "coming" A.f_Disk_coming
  d_Disk_page : Dfn K "page" "Disk.page" s_Disk_page ["self", "slot"] A.f_Disk_page
  m_Disk_page : Meth K A.Disk "page" A.f_Disk_page
  d_Disk_writes : Dfn K "writes" "Disk.writes" s_Disk_writes ["self"] A.f_Disk_writes
  m_Disk_writes : Meth K A.Disk "writes" A.f_Disk_writes
  d_Disk_fall_at : Dfn K "fall_at" "Disk.fall_at" s_Disk_fall_at ["self", "after", "signs"] A.f_Disk_fall_at
  m_Disk_fall_at : Meth K A.Disk "fall_at" A.f_Disk_fall_at
  d_Disk_power : Dfn K "power" "Disk.power" s_Disk_power ["self"] A.f_Disk_power
  m_Disk_power : Meth K A.Disk "power" A.f_Disk_power
  d_Disk_put_page : Dfn K "put_page" "Disk.put_page" s_Disk_put_page ["self", "slot", "text"] A.f_Disk_put_page
  m_Disk_put_page : Meth K A.Disk "put_page" A.f_Disk_put_page
  d_values_in : Dfn K "values_in" "values_in" s_values_in ["columns", "words"] A.f_values_in
  g_values_in : mg "values_in" = some (.ref A.f_values_in)
  d_page_text : Dfn K "page_text" "page_text" s_page_text ["table", "last", "many", "rows"] A.f_page_text
  g_page_text : mg "page_text" = some (.ref A.f_page_text)
  d_count_from : Dfn K "count_from" "count_from" s_count_from ["word"] A.f_count_from
  g_count_from : mg "count_from" = some (.ref A.f_count_from)
  d_rows_in : Dfn K "rows_in" "rows_in" s_rows_in ["columns", "parts"] A.f_rows_in
  g_rows_in : mg "rows_in" = some (.ref A.f_rows_in)
  d_page_in : Dfn K "page_in" "page_in" s_page_in ["schema", "text"] A.f_page_in
  g_page_in : mg "page_in" = some (.ref A.f_page_in)
  d_slots_of : Dfn K "slots_of" "slots_of" s_slots_of ["schema", "table"] A.f_slots_of
  g_slots_of : mg "slots_of" = some (.ref A.f_slots_of)
  d_newest : Dfn K "newest" "newest" s_newest ["disk", "schema", "table"] A.f_newest
  g_newest : mg "newest" = some (.ref A.f_newest)
  d_late_page : Dfn K "late_page" "late_page" s_late_page ["disk", "schema", "table", "last", "many", "rows"] A.f_late_page
  g_late_page : mg "late_page" = some (.ref A.f_late_page)
  d_law_cell : Dfn K "_law_cell" "_law_cell" s_law_cell ["_law_script", "_law_k"] A.f_law_cell
  g_law_cell : mg "_law_cell" = some (.ref A.f_law_cell)
  d_law_draws : Dfn K "_law_draws" "_law_draws" s_law_draws ["_law_cell_here", "_law_many"] A.f_law_draws
  g_law_draws : mg "_law_draws" = some (.ref A.f_law_draws)
  d_law_names : Dfn K "_law_names" "_law_names" s_law_names ["_law_cell_here", "_law_many"] A.f_law_names
  g_law_names : mg "_law_names" = some (.ref A.f_law_names)
  d_law_schema : Dfn K "_law_schema" "_law_schema" s_law_schema ["_law_cell_here"] A.f_law_schema
  g_law_schema : mg "_law_schema" = some (.ref A.f_law_schema)
  d_law_value : Dfn K "_law_value" "_law_value" s_law_value ["_law_kind", "_law_draw"] A.f_law_value
  g_law_value : mg "_law_value" = some (.ref A.f_law_value)
  d_law_row : Dfn K "_law_row" "_law_row" s_law_row ["_law_columns", "_law_draws_here"] A.f_law_row
  g_law_row : mg "_law_row" = some (.ref A.f_law_row)
  d_law_table_rows : Dfn K "_law_table_rows" "_law_table_rows" s_law_table_rows ["_law_columns", "_law_cell_here", "_law_many"] A.f_law_table_rows
  g_law_table_rows : mg "_law_table_rows" = some (.ref A.f_law_table_rows)
  d_law_page_text : Dfn K "_law_page_text" "_law_page_text" s_law_page_text ["_law_name", "_law_last", "_law_many", "_law_rows"] A.f_law_page_text
  g_law_page_text : mg "_law_page_text" = some (.ref A.f_law_page_text)
  d_law_newest : Dfn K "_law_newest" "_law_newest" s_law_newest ["_law_tables", "_law_held", "_law_place"] A.f_law_newest
  g_law_newest : mg "_law_newest" = some (.ref A.f_law_newest)
  d_law_right : Dfn K "_law_right" "_law_right" s_law_right ["_law_disk", "_law_schema_here", "_law_tables", "_law_held"] A.f_law_right
  g_law_right : mg "_law_right" = some (.ref A.f_law_right)
  d_law_put : Dfn K "_law_put" "_law_put" s_law_put ["_law_disk", "_law_tables", "_law_held", "_law_draws_here"] A.f_law_put
  g_law_put : mg "_law_put" = some (.ref A.f_law_put)
  d_law_late : Dfn K "_law_late" "_law_late" s_law_late ["_law_disk", "_law_schema_here", "_law_tables", "_law_held", "_law_draws_here"] A.f_law_late
  g_law_late : mg "_law_late" = some (.ref A.f_law_late)
  d_law_refused : Dfn K "_law_refused" "_law_refused" s_law_refused ["_law_disk", "_law_schema_here", "_law_way", "_law_thing"] A.f_law_refused
  g_law_refused : mg "_law_refused" = some (.ref A.f_law_refused)
  d_law : Dfn K "law" "law" s_law ["_law_script"] A.f_law
  g_law : mg "law" = some (.ref A.f_law)
  c_Schema : Cls K A.Schema
  g_Schema : mg "Schema" = some (.ref A.Schema)
  n_Schema_columns : NoAttr K A.Schema "columns"
  n_Schema_kept_orders : NoAttr K A.Schema "kept_orders"
  c_Disk : Cls K A.Disk
  g_Disk : mg "Disk" = some (.ref A.Disk)
  n_Disk_held_rows : NoAttr K A.Disk "held_rows"
  n_Disk_held_pages : NoAttr K A.Disk "held_pages"
  n_Disk_many_writes : NoAttr K A.Disk "many_writes"
  n_Disk_due : NoAttr K A.Disk "due"
  n_Disk_is_down : NoAttr K A.Disk "is_down"
  g_StoreError : mg "StoreError" = some (.ref A.StoreError)
  g_NoSchema : mg "NoSchema" = some (.ref A.NoSchema)
  g_Fell : mg "Fell" = some (.ref A.Fell)
  g_NoTable : mg "NoTable" = some (.ref A.NoTable)
  xF_NoSchema : PySem.W.excIn K A.NoSchema [.type "ValueError", .type "Exception", .type "BaseException", .type "object"] "ValueError.__new__" = true
  kc_NoSchema : PySem.W.keepIn K (.ref A.NoSchema) = true
  xg_NoSchema : PySem.W.findIn K (.ref A.NoSchema) "__getattribute__" = some (some (.builtin "BaseException.__getattribute__"))
  xk_NoSchema : PySem.W.findIn K (.ref A.NoSchema) "__getattr__" = some none
  xd_NoSchema : PySem.W.hasDictIn K A.NoSchema = true
  xa_NoSchema : PySem.W.findIn K (.ref A.NoSchema) "__class__" = some (some (.builtin "object.__class__"))
  xm_NoSchema : PySem.W.mroIn K A.NoSchema (.type "object") = some true
  xF_Fell : PySem.W.excIn K A.Fell [.type "ValueError", .type "Exception", .type "BaseException", .type "object"] "ValueError.__new__" = true
  kc_Fell : PySem.W.keepIn K (.ref A.Fell) = true
  xg_Fell : PySem.W.findIn K (.ref A.Fell) "__getattribute__" = some (some (.builtin "BaseException.__getattribute__"))
  xk_Fell : PySem.W.findIn K (.ref A.Fell) "__getattr__" = some none
  xd_Fell : PySem.W.hasDictIn K A.Fell = true
  xa_Fell : PySem.W.findIn K (.ref A.Fell) "__class__" = some (some (.builtin "object.__class__"))
  xm_Fell : PySem.W.mroIn K A.Fell (.type "object") = some true
  oe_NoTable : Z.oexB K A.NoTable = true
  os_NoTable : PySem.W.findIn K (.ref A.NoTable) "__setattr__" = some (some (.builtin "object.__setattr__"))
  kc_NoTable : PySem.W.keepIn K (.ref A.NoTable) = true
  xg_NoTable : PySem.W.findIn K (.ref A.NoTable) "__getattribute__" = some (some (.builtin "BaseException.__getattribute__"))
  xk_NoTable : PySem.W.findIn K (.ref A.NoTable) "__getattr__" = some none
  xd_NoTable : PySem.W.hasDictIn K A.NoTable = true
  xa_NoTable : PySem.W.findIn K (.ref A.NoTable) "__class__" = some (some (.builtin "object.__class__"))
  xm_NoTable : PySem.W.mroIn K A.NoTable (.type "object") = some true
  xf_NoTable_table : PySem.W.findIn K (.ref A.NoTable) "table" = some none
  xr_StoreError : PySem.W.readsIn K A.StoreError (.type "type") = true
  xs_StoreError : PySem.W.specialIn K (.ref A.StoreError) "__getattribute__" = some (some (.builtin "type.__getattribute__"))
  xi_StoreError : PySem.W.findCls K (.ref A.StoreError) (.type "type") "__init__" = some (.val (.builtin "ValueError.__init__"))
  sb_StoreError : PySem.W.subIn K (.ref A.StoreError) (.type "BaseException") = some true
  cb_StoreError : PySem.W.isClsIn K A.StoreError = true
  tb_StoreError : PySem.W.typeIn K (.ref A.StoreError) = some (.type "type")
  sb_NoSchema : PySem.W.subIn K (.ref A.NoSchema) (.type "BaseException") = some true
  cb_NoSchema : PySem.W.isClsIn K A.NoSchema = true
  tb_NoSchema : PySem.W.typeIn K (.ref A.NoSchema) = some (.type "type")
  sb_Fell : PySem.W.subIn K (.ref A.Fell) (.type "BaseException") = some true
  cb_Fell : PySem.W.isClsIn K A.Fell = true
  tb_Fell : PySem.W.typeIn K (.ref A.Fell) = some (.type "type")
  sb_NoTable : PySem.W.subIn K (.ref A.NoTable) (.type "BaseException") = some true
  cb_NoTable : PySem.W.isClsIn K A.NoTable = true
  tb_NoTable : PySem.W.typeIn K (.ref A.NoTable) = some (.type "type")
  xn : PySem.W.specialIn K (.builtin "object.__class__") "__get__" = some (some (.builtin "getset_descriptor.__get__"))
  xt : PySem.W.takesIn K (.builtin "object.__class__") = some true
  sub_NoTable_NoTable : PySem.W.subIn K (.ref A.NoTable) (.ref A.NoTable) = some true
  sub_Fell_Fell : PySem.W.subIn K (.ref A.Fell) (.ref A.Fell) = some true
  b_abs : mg "abs" = none
  b_enumerate : mg "enumerate" = none
  b_int : mg "int" = none
  b_isinstance : mg "isinstance" = none
  b_len : mg "len" = none
  b_list : mg "list" = none
  b_min : mg "min" = none
  b_range : mg "range" = none
  b_sorted : mg "sorted" = none
  b_str : mg "str" = none
  b_tuple : mg "tuple" = none
  b_zip : mg "zip" = none
  v_FIGURES : ∃ t, mg "FIGURES" = some (.str "0123456789" t)
  v_LETTERS : ∃ t, mg "LETTERS" = some (.str "abcdefghijklmnopqrstuvwxyz" t)
  v_MOST_COLUMNS : ∃ t, mg "MOST_COLUMNS" = some (.int (4) t)
  v_MOST_NUMBER : ∃ t, mg "MOST_NUMBER" = some (.int (1000000000) t)
  v_MOST_ORDERS : ∃ t, mg "MOST_ORDERS" = some (.int (4) t)
  v_MOST_ROWS : ∃ t, mg "MOST_ROWS" = some (.int (60) t)
  v_MOST_SIGNS : ∃ t, mg "MOST_SIGNS" = some (.int (8) t)
  v_MOST_SLOTS : ∃ t, mg "MOST_SLOTS" = some (.int (8) t)
  v_MOST_TABLES : ∃ t, mg "MOST_TABLES" = some (.int (4) t)
theorem Txt.oex_NoTable {K : PySem.W.Frag} {mg : Str → Option Value} {A : Adr} (T : Txt K mg A) : OexC K A.NoTable := Z.oexC_of T.oe_NoTable T.os_NoTable T.sb_NoTable T.tb_NoTable T.kc_NoTable
theorem Txt.xfc_NoTable {K : PySem.W.Frag} {mg : Str → Option Value} {A : Adr} (T : Txt K mg A) : XfC K A.NoTable := ⟨T.xg_NoTable, T.xk_NoTable, T.sb_NoTable, T.xd_NoTable⟩
theorem Txt.exc_NoTable {K : PySem.W.Frag} {mg : Str → Option Value} {A : Adr} (T : Txt K mg A) : ExcC K A.NoTable := ⟨T.xg_NoTable, T.xk_NoTable, T.sb_NoTable, T.xd_NoTable, T.xa_NoTable, T.xn, T.xt, T.xm_NoTable⟩
theorem Txt.exc_NoSchema {K : PySem.W.Frag} {mg : Str → Option Value} {A : Adr} (T : Txt K mg A) : ExcC K A.NoSchema := ⟨T.xg_NoSchema, T.xk_NoSchema, T.sb_NoSchema, T.xd_NoSchema, T.xa_NoSchema, T.xn, T.xt, T.xm_NoSchema⟩
theorem Txt.exc_Fell {K : PySem.W.Frag} {mg : Str → Option Value} {A : Adr} (T : Txt K mg A) : ExcC K A.Fell := ⟨T.xg_Fell, T.xk_Fell, T.sb_Fell, T.xd_Fell, T.xa_Fell, T.xn, T.xt, T.xm_Fell⟩
local macro_rules | `(tactic| walk_at "z cls") => `(tactic| first | assumption | exact (‹Txt _ _ _›).c_Schema | exact (‹Txt _ _ _›).c_Disk)
local macro_rules | `(tactic| walk_at "z attr") => `(tactic| first | (with_reducible exact (‹Txt _ _ _›).n_Schema_columns) | (with_reducible exact (‹Txt _ _ _›).n_Schema_kept_orders) | (with_reducible exact (‹Txt _ _ _›).n_Disk_held_rows) | (with_reducible exact (‹Txt _ _ _›).n_Disk_held_pages) | (with_reducible exact (‹Txt _ _ _›).n_Disk_many_writes) | (with_reducible exact (‹Txt _ _ _›).n_Disk_due) | (with_reducible exact (‹Txt _ _ _›).n_Disk_is_down) | fail)
def schF (x0 : Addr) (x1 : V) : List (Str × V) := [("columns", .ref x0), ("kept_orders", x1)]
section
variable {x0 : Addr} {x1 : V} {y0 : Addr} {y1 : V}
theorem schF_g0 : (schF x0 x1).lookup ("columns" : Str) = some (.ref x0) := by unfold schF; exact Z.look_eq
theorem schF_p0 : putF ("columns" : Str) (.ref y0) (schF x0 x1) = schF y0 x1 := by unfold schF; first | exact Z.put_eq | rw [Z.put_eq]
theorem schF_g1 : (schF x0 x1).lookup ("kept_orders" : Str) = some (x1) := by unfold schF; rw [Z.look_ne (by decide +kernel)]; exact Z.look_eq
theorem schF_p1 : putF ("kept_orders" : Str) (y1) (schF x0 x1) = schF x0 y1 := by unfold schF; rw [Z.put_ne (by decide +kernel)]; first | exact Z.put_eq | rw [Z.put_eq]
theorem schF_no {m : Str} (h : (["columns", "kept_orders"] : List Str).all (fun f => !decide (m = f)) = true) : (schF x0 x1).lookup m = none := by
  simp only [List.all_cons, List.all_nil, Bool.and_true, Bool.and_eq_true, Bool.not_eq_true'] at h
  obtain ⟨h0, h1⟩ := h
  unfold schF
  rw [Z.look_ne h0, Z.look_ne h1]
  rfl
theorem schF_len : (schF x0 x1).length < 1000 := by unfold schF; simp only [List.length_cons, List.length_nil]; decide
end
def DF (x0 : Addr) (x1 : Addr) (x2 : Int) (x3 : V) (x4 : Bool) : List (Str × V) := [("held_rows", .ref x0), ("held_pages", .ref x1), ("many_writes", .int x2), ("due", x3), ("is_down", .bl x4)]
section
variable {x0 : Addr} {x1 : Addr} {x2 : Int} {x3 : V} {x4 : Bool} {y0 : Addr} {y1 : Addr} {y2 : Int} {y3 : V} {y4 : Bool}
theorem DF_g0 : (DF x0 x1 x2 x3 x4).lookup ("held_rows" : Str) = some (.ref x0) := by unfold DF; exact Z.look_eq
theorem DF_p0 : putF ("held_rows" : Str) (.ref y0) (DF x0 x1 x2 x3 x4) = DF y0 x1 x2 x3 x4 := by unfold DF; first | exact Z.put_eq | rw [Z.put_eq]
theorem DF_g1 : (DF x0 x1 x2 x3 x4).lookup ("held_pages" : Str) = some (.ref x1) := by unfold DF; rw [Z.look_ne (by decide +kernel)]; exact Z.look_eq
theorem DF_p1 : putF ("held_pages" : Str) (.ref y1) (DF x0 x1 x2 x3 x4) = DF x0 y1 x2 x3 x4 := by unfold DF; rw [Z.put_ne (by decide +kernel)]; first | exact Z.put_eq | rw [Z.put_eq]
theorem DF_g2 : (DF x0 x1 x2 x3 x4).lookup ("many_writes" : Str) = some (.int x2) := by unfold DF; rw [Z.look_ne (by decide +kernel), Z.look_ne (by decide +kernel)]; exact Z.look_eq
theorem DF_p2 : putF ("many_writes" : Str) (.int y2) (DF x0 x1 x2 x3 x4) = DF x0 x1 y2 x3 x4 := by unfold DF; rw [Z.put_ne (by decide +kernel), Z.put_ne (by decide +kernel)]; first | exact Z.put_eq | rw [Z.put_eq]
theorem DF_g3 : (DF x0 x1 x2 x3 x4).lookup ("due" : Str) = some (x3) := by unfold DF; rw [Z.look_ne (by decide +kernel), Z.look_ne (by decide +kernel), Z.look_ne (by decide +kernel)]; exact Z.look_eq
theorem DF_p3 : putF ("due" : Str) (y3) (DF x0 x1 x2 x3 x4) = DF x0 x1 x2 y3 x4 := by unfold DF; rw [Z.put_ne (by decide +kernel), Z.put_ne (by decide +kernel), Z.put_ne (by decide +kernel)]; first | exact Z.put_eq | rw [Z.put_eq]
theorem DF_g4 : (DF x0 x1 x2 x3 x4).lookup ("is_down" : Str) = some (.bl x4) := by unfold DF; rw [Z.look_ne (by decide +kernel), Z.look_ne (by decide +kernel), Z.look_ne (by decide +kernel), Z.look_ne (by decide +kernel)]; exact Z.look_eq
theorem DF_p4 : putF ("is_down" : Str) (.bl y4) (DF x0 x1 x2 x3 x4) = DF x0 x1 x2 x3 y4 := by unfold DF; rw [Z.put_ne (by decide +kernel), Z.put_ne (by decide +kernel), Z.put_ne (by decide +kernel), Z.put_ne (by decide +kernel)]; first | exact Z.put_eq | rw [Z.put_eq]
theorem DF_no {m : Str} (h : (["held_rows", "held_pages", "many_writes", "due", "is_down"] : List Str).all (fun f => !decide (m = f)) = true) : (DF x0 x1 x2 x3 x4).lookup m = none := by
  simp only [List.all_cons, List.all_nil, Bool.and_true, Bool.and_eq_true, Bool.not_eq_true'] at h
  obtain ⟨h0, h1, h2, h3, h4⟩ := h
  unfold DF
  rw [Z.look_ne h0, Z.look_ne h1, Z.look_ne h2, Z.look_ne h3, Z.look_ne h4]
  rfl
theorem DF_len : (DF x0 x1 x2 x3 x4).length < 1000 := by unfold DF; simp only [List.length_cons, List.length_nil]; decide
end
local macro_rules | `(tactic| walk_at "z look") => `(tactic| first | (with_reducible exact schF_g0) | (with_reducible exact schF_g1) | (with_reducible exact DF_g0) | (with_reducible exact DF_g1) | (with_reducible exact DF_g2) | (with_reducible exact DF_g3) | (with_reducible exact DF_g4) | rfl)
local macro_rules | `(tactic| walk_at "z put") => `(tactic| first | rw [schF_p0] | rw [schF_p1] | rw [DF_p0] | rw [DF_p1] | rw [DF_p2] | rw [DF_p3] | rw [DF_p4] | (simp (disch := decide +kernel) only [Z.put_ne, Z.put_eq, Z.put_nil]))
local macro_rules | `(tactic| walk_at "z no") => `(tactic| first | (with_reducible refine schF_no (by decide +kernel)) | (with_reducible refine DF_no (by decide +kernel)) | rfl)
local macro_rules | `(tactic| walk_at "z small") => `(tactic| first | (with_reducible exact schF_len) | (with_reducible exact DF_len) | decide | (simp only [List.length_cons, List.length_nil]; decide) | omega)
variable {A : Adr}
theorem ix_listK {X : Cx} {K : PySem.W.Frag} (h : X.K = K) : IxR X (rIxL K) := by subst h; exact ix_list
theorem pg_tupK {X : Cx} {K : PySem.W.Frag} {es : List Expr} {k : Nat} {t : TGs} {n : Nat} {pos : Pos} (hK : X.K = K) (hc : X.calm = true) (h : PGs X es t)
    (hn : (assignEach es X.env).length = n := by rfl) (hst : (assignEach es X.env).findIdx? (·.1) = none := by rfl) : PG X (.Tuple es k pos) (gTup K n t) := by subst hK; exact pg_tup hc h hn hst
theorem call_list_ofK {X : Cx} {K : PySem.W.Frag} (h : X.K = K) : CallR X (.type "list") (fun xs H Q => ∃ p ys, xs = [.ref p] ∧ (SqL K H p ys ∨ SqT K H p ys) ∧ ∀ l, H l = none → Q (.ref l) (upd H l (.lst ys))) := by subst h; exact call_list_of
theorem call_tuple_ofK {X : Cx} {K : PySem.W.Frag} (h : X.K = K) : CallR X (.type "tuple") (fun xs H Q => ∃ p ys, xs = [.ref p] ∧ ((SqL K H p ys ∧ ∀ l, H l = none → Q (.ref l) (upd H l (.tup ys))) ∨ (SqT K H p ys ∧ Q (.ref p) H))) := by subst h; exact call_tuple_of
theorem ix_tupK {X : Cx} {K : PySem.W.Frag} (h : X.K = K) : IxR X (rIxT K) := by subst h; exact ix_tup
theorem call_isiK {X : Cx} {K : PySem.W.Frag} (h : X.K = K) : CallR X (.builtin "isinstance") (rIsi K) := by subst h; exact call_isi
/-! ### texts, names, kinds, values -/
def LET : Str := "abcdefghijklmnopqrstuvwxyz"
def InS (S z : Str) : Prop := ∀ c ∈ z.cps.toList, c ∈ S.cps.toList
instance {S z : Str} : Decidable (InS S z) := inferInstanceAs (Decidable (∀ c ∈ z.cps.toList, c ∈ S.cps.toList))
def Name (z : Str) : Prop := 1 ≤ z.length ∧ z.length ≤ 8 ∧ InS LET z
instance {z : Str} : Decidable (Name z) := inferInstanceAs (Decidable (_ ∧ _ ∧ _))
def Kind (z : Str) : Prop := z = "number" ∨ z = "word"
instance {z : Str} : Decidable (Kind z) := inferInstanceAs (Decidable (_ ∨ _))
def whole : PyData → Bool
  | .int _ => true
  | _ => false
def named : PyData → Bool
  | .str z => decide (Name z)
  | _ => false
def kinded : PyData → Bool
  | .str z => decide (Kind z)
  | _ => false
def numb : PyData → Bool
  | .int i => decide (-(10 ^ 9) ≤ i ∧ i ≤ 10 ^ 9)
  | _ => false
def SmallS : PyData → Prop
  | .str z => z.length ≤ 10000
  | _ => True
def valOk (k : Str) (d : PyData) : Bool := if k = "word" then named d else numb d
theorem iteB {b : Bool} {A B : Prop} (h1 : b = true → A) (h2 : b = false → B) : if b = true then A else B := by
  cases b
  · rw [if_neg Bool.false_ne_true]; exact h2 rfl
  · rw [if_pos rfl]; exact h1 rfl
theorem chain {r r' : R2} {ta tb tc : TE} {σ : L2.St} {H : Hp} {Q : VK} (h : ta σ H fun x H1 => tb σ H1 fun y H2 => r x y H2 fun z H3 => ∃ k, z = .bl k ∧ (if k = true then tc σ H3 fun w' H4 => r' y w' H4 Q else Q (.bl false) H3)) : tChain r r' ta tb tc σ H Q := h
theorem forS {te : TE} {g : TG} {ts : TS} {D : Ends} {σ : L2.St} {H : Hp} (h : te σ H fun v H1 => ∃ x, v = .str x ∧ ∃ W : Nat → Nat → L2.St → Hp → Prop, (∃ m, W 0 m σ H1) ∧ ∀ i m σ H, W i m σ H →
      ((Its x).stop i H ∧ D.nx σ H) ∨ ((Its x).go i H ∧ ∃ N : L2.St → Hp → Prop, (∀ σ' H', N σ' H' → ∃ m', m' < m ∧ W (i + 1) m' σ' H') ∧ ∀ v H', (Its x).yld i H v H' → g v σ H' fun σ2 H2 => ts { D with nx := N, ct := N, bk := D.nx } σ2 H2)) : tFor (iStr te) g ts D σ H := h
theorem tupItems {te : TE} {σ : L2.St} {H : Hp} {Q : VK} (h : te σ H fun x H1 => ZT.rItemsT2 x H1 Q) : ZT.tTupItems te σ H Q := h
theorem isN2 {v : V} {H : Hp} {Q : VK} (k : Q (.bl (decide (v = .non))) H) : (V.non = .non) ∧ Q (.bl (decide (v = .non))) H := ⟨rfl, k⟩
local macro_rules | `(tactic| walk_at "z1") => `(tactic| first | (with_reducible refine forS ?_) | (with_reducible refine chain ?_) | (with_reducible refine Z.forSq ?_) | (with_reducible refine Z.lcE ?_) | (with_reducible refine Z.iTupE ?_) | (with_reducible refine Z.iListE ?_) | (with_reducible refine Z.iEnumE ?_) | (with_reducible refine Z.iZipAE ?_) | (with_reducible refine Z.din ?_) | (with_reducible refine Z.dnotin ?_))
theorem allIn_of {S z : Str} (h : ∀ j c, j < z.cps.size → z.cps[j]? = some c → c ∈ S.cps.toList) : InS S z := fun c hc => by
  obtain ⟨j, hj, e⟩ := List.mem_iff_getElem.mp hc
  exact h j c (by simpa using hj) (by rw [← Array.getElem?_toList, List.getElem?_eq_getElem hj, e])
theorem let_lt : ∀ c ∈ LET.cps.toList, c < 123 := by decide +kernel
theorem Name.ok {z : Str} (n : Name z) : PyData.strOk z = true := by
  unfold PyData.strOk
  rw [← Array.all_toList, List.all_eq_true]
  intro c hc
  have := let_lt c (n.2.2 c hc)
  exact decide_eq_true (by omega)
theorem whole_ty (d : PyData) : whole d = (Z.isTy "int" d && !Z.isTy "bool" d) := by cases d <;> rfl
theorem named_no {d : PyData} (h : Z.isTy "str" d = false) : named d = false := by cases d <;> first | rfl | exact absurd h (by simp [Z.isTy, Z.tyN])
theorem kinded_no {d : PyData} (h : Z.isTy "str" d = false) : kinded d = false := by cases d <;> first | rfl | exact absurd h (by simp [Z.isTy, Z.tyN])
theorem isStr {d : PyData} (h : Z.isTy "str" d = true) : ∃ z, d = .str z := by cases d <;> first | exact ⟨_, rfl⟩ | exact absurd h (by simp [Z.isTy, Z.tyN])
theorem in2 (z a b : Str) : decide (z = a ∨ z = b) = inV (.str z) [.str a, .str b] := by
  rw [Bool.eq_iff_iff]
  simp only [inV, List.any_cons, List.any_nil, Bool.or_false, eqV, Bool.or_eq_true, decide_eq_true_eq, beq_iff_eq]
  exact ⟨fun h => h.imp Eq.symm Eq.symm, fun h => h.imp Eq.symm Eq.symm⟩
def sp_is_whole (K : PySem.W.Frag) (A : Adr) : Sp := fun vs H Q _ => ∃ v d, vs = [v] ∧ Z.DX K H v d ∧ Q (.bl (whole d)) H
def sp_is_name (K : PySem.W.Frag) (A : Adr) : Sp := fun vs H Q _ => ∃ v d, vs = [v] ∧ Z.DX K H v d ∧ SmallS d ∧ Q (.bl (named d)) H
def sp_is_kind (K : PySem.W.Frag) (A : Adr) : Sp := fun vs H Q _ => ∃ v d, vs = [v] ∧ Z.DX K H v d ∧ ∀ H', Same H H' → Q (.bl (kinded d)) H'
def sp_is_value (K : PySem.W.Frag) (A : Adr) : Sp := fun vs H Q _ => ∃ k v d, vs = [.str k, v] ∧ Z.DX K H v d ∧ SmallS d ∧ Q (.bl (valOk k d)) H
theorem ok_is_name (T : Txt K mg A) : ∃ fd, FnOk P w K mg base CX0 1 A.f_is_name fd ["thing"] (sp_is_name K A) ∧ Binds K fd ["thing"] [] := by
  have ⟨fd, F, b⟩ := T.d_is_name
  refine ⟨fd, F.ok sc_is_name (fun vs H Q E h => ?_) (fun cdv Ar outer s H vs Q E hr h => ?_), b⟩
  · obtain ⟨v, d, rfl, _⟩ := h
    rfl
  · obtain ⟨v, d, rfl, h, hz, k⟩ := h
    have nd := sc_is_name.nd
    have hu := hu_of hr
    refine ⟨_, (pss_cons (ps_if (PW.pt (pw_or (pt_not (pt_val (pe_callB call_isi (by rfl) T.b_isinstance (by decide +kernel) (pa_cons (pv 0) (pa_cons (pe_bltn (v := .ty "str") (u := .type "str") (by rfl) T.b_str (by decide +kernel) rfl) pa_nil))))) (pw_or1 (pt_not (pt_chain op_le op_le pe_int (pe_callB call_len_str (by rfl) T.b_len PySem.boot_len (pa_cons (pv 0) pa_nil)) (Z.pe_gint rfl T.v_MOST_SIGNS)))))) (pss_one (ps_ret pe_bl)) pss_nil)
      (pss_cons (ps_for PassesOwn.never rfl (pi_str (pv 0)) (pg_name (i := 1) nd rfl (Or.inl rfl)) (pss_one (ps_if (pt_cmpR op_notIn_sign (pv 1) (Z.pe_gstr rfl T.v_LETTERS) (by rfl)) (pss_one (ps_ret pe_bl)) pss_nil)))
      (pss_one (ps_ret pe_bl)))), ?_⟩
    simp only [cxOf, Cx.nox, L2.start, List.map_cons, List.map_nil, List.length_cons, List.length_nil, Nat.reduceAdd, Nat.reduceSub, List.replicate, List.cons_append, List.nil_append]
    walk_at "z"
    refine Z.isiX h (Same.refl _) (by simp) ?_
    walk_at "z"
    refine iteB (fun e => ?_) (fun e => ?_)
    · have e' : Z.isTy "str" d = false := by simpa using e
      walk_at "z"
      rw [named_no e'] at k
      exact k
    · have e' : Z.isTy "str" d = true := by simpa using e
      obtain ⟨z, rfl⟩ := isStr e'
      have hz : z.length ≤ 10000 := hz
      cases Z.dx_str h
      have k : Q (.bl (decide (Name z))) H := k
      walk_at "z"
      refine ⟨z, rfl, Nat.le_trans hz (by decide), ?_⟩
      walk_at "z"
      refine Z.iteD (fun h1 => ?_) (fun h1 => ?_)
      · walk_at "z"
        refine Z.iteN (fun h2 => ?_) (fun h2 => ?_)
        · walk_at "z"
          rw [show decide (Name z) = false from decide_eq_false fun n => h2 (by have := n.2.1; omega)] at k
          exact k
        · walk_at "z"
          refine ⟨z, rfl, for_it walk_str (fun i σ H' => H' = H ∧ (∃ v, σ = [some (.str z), v]) ∧ ∀ j c, j < i → z.cps[j]? = some c → c ∈ LET.cps.toList) ⟨rfl, ⟨_, rfl⟩, fun j c h => absurd h (Nat.not_lt_zero _)⟩ (fun _ _ _ _ _ => True.intro) ?_ ?_⟩
          · rintro i x σ H' H'' hi ⟨rfl, ⟨v, rfl⟩, hall⟩ ⟨rfl, c, hc, rfl⟩
            walk_at "z"
            refine ⟨c, _, rfl, rfl, ?_⟩
            walk_at "z"
            refine Z.iteN (fun h3 => ?_) (fun h3 => ?_)
            · walk_at "z"
              rw [show decide (Name z) = false from decide_eq_false fun n => h3 (n.2.2 c (by rw [Array.mem_toList_iff]; exact Array.mem_of_getElem? hc))] at k
              exact k
            · walk_at "z"
              refine ⟨rfl, ⟨_, rfl⟩, fun j c' hj hc' => ?_⟩
              by_cases e : j = i
              · subst e
                rw [hc] at hc'
                cases hc'
                exact h3
              · exact hall j c' (by omega) hc'
          · rintro σ H' ⟨rfl, ⟨v, rfl⟩, hall⟩
            walk_at "z"
            rw [show decide (Name z) = true from decide_eq_true ⟨by omega, by omega, allIn_of hall⟩] at k
            exact k
      · walk_at "z"
        rw [show decide (Name z) = false from decide_eq_false fun n => h1 (by have := n.1; omega)] at k
        exact k
theorem ok_is_kind (T : Txt K mg A) : ∃ fd, FnOk P w K mg base CX0 1 A.f_is_kind fd ["thing"] (sp_is_kind K A) ∧ Binds K fd ["thing"] [] := by
  have ⟨fd, F, b⟩ := T.d_is_kind
  refine ⟨fd, F.ok sc_is_kind (fun vs H Q E h => ?_) (fun cdv Ar outer s H vs Q E hr h => ?_), b⟩
  · obtain ⟨v, d, rfl, _⟩ := h
    rfl
  · obtain ⟨v, d, rfl, h, k⟩ := h
    have nd := sc_is_kind.nd
    have hu := hu_of hr
    refine ⟨_, (pss_one (ps_ret (pe_and (pe_callB call_isi (by rfl) T.b_isinstance (by decide +kernel) (pa_cons (pv 0) (pa_cons (pe_bltn (v := .ty "str") (u := .type "str") (by rfl) T.b_str (by decide +kernel) rfl) pa_nil))) (pe_one (pe_cmpR op_in_seq (pv 0) (pe_tup (pa_cons pe_str (pa_cons pe_str pa_nil))) (by rfl)))))), ?_⟩
    simp only [cxOf, Cx.nox, L2.start, List.map_cons, List.map_nil, List.length_cons, List.length_nil, Nat.reduceAdd, Nat.reduceSub, List.replicate, List.cons_append, List.nil_append]
    walk_at "z"
    refine Z.isiX h (Same.refl _) (by simp) ?_
    walk_at "z"
    refine iteB (fun e => ?_) (fun e => ?_)
    · obtain ⟨z, rfl⟩ := isStr e
      cases Z.dx_str h
      walk_at "z"
      refine ⟨by simp only [List.length_cons, List.length_nil]; decide, fun p hp => ?_⟩
      refine ⟨p, _, rfl, .inr (SqT.of upd_same), rfl, rfl, ?_⟩
      have := k _ (Z.same_new (o := .tup [.str "number", .str "word"]) hp)
      rw [show kinded (.str z) = inV (.str z) [.str "number", .str "word"] from in2 z _ _] at this
      exact this
    · rw [kinded_no e] at k
      exact k _ (Same.refl _)
/-! ### values as texts, read and written -/
theorem call_strA {X : Cx} : CallR X (.type "str") (fun xs H Q => ∃ (v : V) (t : Str), xs = [v] ∧ ((∃ i : Int, v = .int i ∧ i.natAbs.log2 < 1920 ∧ t = Str.ofString (toString i)) ∨ v = .str t) ∧ Q (.str t) H) := by
  rintro pins s σ H xs us Q I r ⟨v, t, rfl, ⟨i, rfl, hi, rfl⟩ | rfl, q⟩
  · exact call_str_int pins s σ H _ us Q I r ⟨i, rfl, hi, q⟩
  · exact SkE.call_str_str pins s σ H _ us Q I r ⟨t, rfl, q⟩
def FIG : Str := "0123456789"
def figIn (z : Str) : Option Int := if z = "" ∨ 10 < z.length ∨ (z.cps.toList[0]? = some 48 ∧ 1 < z.length) ∨ ¬ InS FIG z then none else some ((NumText.digitsVal z.cps.toList : Nat) : Int)
def minus (z : Str) : Prop := cutS z none (some 1) = "-"
instance {z : Str} : Decidable (minus z) := inferInstanceAs (Decidable (_ = _))
def tailS (z : Str) : Str := if minus z then cutS z (some 1) none else z
def numIn (z : Str) : Option Int := match figIn (tailS z) with
  | none => none
  | some n => if 10 ^ 9 < n ∨ z = "-0" then none else if minus z then some (0 - n) else some n
def optN : Option Int → V
  | none => .non
  | some n => .int n
def optS : Option Str → V
  | none => .non
  | some n => .str n
def sp_value_text (K : PySem.W.Frag) (A : Adr) : Sp := fun vs H Q _ => ∃ (v : V) (t : Str), vs = [v] ∧ ((∃ i : Int, v = .int i ∧ i.natAbs ≤ 10 ^ 9 ∧ t = Str.ofString (toString i)) ∨ v = .str t) ∧ Q (.str t) H
def sp_figures_in (K : PySem.W.Frag) (A : Adr) : Sp := fun vs H Q _ => ∃ z, vs = [.str z] ∧ z.length ≤ 600 ∧ Q (optN (figIn z)) H
def sp_value_in (K : PySem.W.Frag) (A : Adr) : Sp := fun vs H Q _ => ∃ k z r, vs = [.str k, .str z] ∧ z.length ≤ 600 ∧ ((k = "word" ∧ r = optS (if Name z then some z else none)) ∨ (k = "number" ∧ r = optN (numIn z))) ∧ Q r H
theorem for_str {x : Str} {g : TG} {tb : TS} {D : Ends} {σ : L2.St} {H : Hp} (Pv : Nat → L2.St → Hp → Prop) (h0 : Pv 0 σ H)
    (hs : ∀ i c σ H, x.cps[i]? = some c → Pv i σ H → g (.str ⟨#[c]⟩) σ H fun σ2 H2 => tb { D with nx := Pv (i + 1), ct := Pv (i + 1), bk := D.nx } σ2 H2) (hd : ∀ σ H, Pv x.cps.size σ H → D.nx σ H) :
    ∃ W : Nat → Nat → L2.St → Hp → Prop, (∃ m, W 0 m σ H) ∧ ∀ i m σ H, W i m σ H →
      ((Its x).stop i H ∧ D.nx σ H) ∨ ((Its x).go i H ∧ ∃ N : L2.St → Hp → Prop, (∀ σ' H', N σ' H' → ∃ m', m' < m ∧ W (i + 1) m' σ' H') ∧ ∀ v H', (Its x).yld i H v H' → g v σ H' fun σ2 H2 => tb { D with nx := N, ct := N, bk := D.nx } σ2 H2) := by
  refine ⟨fun i m σ H => m = x.cps.size - i ∧ i ≤ x.cps.size ∧ Pv i σ H, ⟨x.cps.size, by simp, Nat.zero_le _, h0⟩, ?_⟩
  rintro i m σ H ⟨rfl, hi, p⟩
  by_cases hlt : i < x.cps.size
  · refine .inr ⟨hlt, Pv (i + 1), fun σ' H' p' => ⟨x.cps.size - (i + 1), by omega, rfl, hlt, p'⟩, fun v H' y => ?_⟩
    obtain ⟨e, c, hc, y⟩ := y
    subst e y
    exact hs i c σ _ hc p
  · have e : i = x.cps.size := by omega
    subst e
    exact .inl ⟨Nat.le_refl _, hd σ H p⟩
theorem log_small {n : Nat} (h : n ≤ 10 ^ 9) : n.log2 < 1920 := by
  by_cases e : n = 0
  · subst e; decide
  · exact Nat.lt_of_lt_of_le ((Nat.log2_lt e).mpr (show n < 2 ^ 30 by omega)) (by decide)
theorem ok_value_text (T : Txt K mg A) : ∃ fd, FnOk P w K mg base CX0 1 A.f_value_text fd ["value"] (sp_value_text K A) ∧ Binds K fd ["value"] [] := by
  have ⟨fd, F, b⟩ := T.d_value_text
  refine ⟨fd, F.ok sc_value_text (fun vs H Q E h => ?_) (fun cdv Ar outer s H vs Q E hr h => ?_), b⟩
  · obtain ⟨v, t, rfl, _⟩ := h
    rfl
  · obtain ⟨v, t, rfl, h, k⟩ := h
    have nd := sc_value_text.nd
    have hu := hu_of hr
    refine ⟨_, (pss_one (ps_ret (pe_callTy call_strA (by rfl) T.b_str (by decide +kernel) (pa_cons (pv 0) pa_nil)))), ?_⟩
    simp only [cxOf, Cx.nox, L2.start, List.map_cons, List.map_nil, List.length_cons, List.length_nil, Nat.reduceAdd, Nat.reduceSub, List.replicate, List.cons_append, List.nil_append]
    rcases h with ⟨i, rfl, hi, rfl⟩ | rfl
    · walk_at "z"
      exact ⟨_, _, rfl, .inl ⟨i, rfl, log_small hi, rfl⟩, k⟩
    · walk_at "z"
      exact ⟨_, _, rfl, .inr rfl, k⟩
theorem dig_of {z : Str} (h : InS FIG z) : NumText.AllDigits z.cps.toList := fun c hc => by
  have m := h c hc
  have e : FIG.cps.toList = [48, 49, 50, 51, 52, 53, 54, 55, 56, 57] := by decide +kernel
  rw [e] at m
  simp only [List.mem_cons, List.not_mem_nil, or_false] at m
  omega
theorem str_nil {z : Str} (h : z.cps.toList = []) : z = "" := by
  obtain ⟨⟨l⟩⟩ := z
  have : l = [] := h
  subst this
  rfl
theorem len_toList (z : Str) : z.cps.toList.length = z.length := Array.length_toList
theorem len_pos {z : Str} (h : z ≠ "") : 0 < z.length := by
  refine Nat.pos_of_ne_zero fun e => h (str_nil (List.length_eq_zero_iff.mp (by rw [len_toList, e])))
theorem one_eq {c : Nat} {d : Str} {e : Nat} (h : (⟨#[c]⟩ : Str) = d) (hd : d.cps.toList = [e] := by decide +kernel) : c = e := by
  rw [← h] at hd
  exact (List.cons.inj hd).1
theorem ok_figures_in (T : Txt K mg A) : ∃ fd, FnOk P w K mg base CX0 1 A.f_figures_in fd ["text"] (sp_figures_in K A) ∧ Binds K fd ["text"] [] := by
  have ⟨fd, F, b⟩ := T.d_figures_in
  refine ⟨fd, F.ok sc_figures_in (fun vs H Q E h => ?_) (fun cdv Ar outer s H vs Q E hr h => ?_), b⟩
  · obtain ⟨z, rfl, _⟩ := h
    rfl
  · obtain ⟨z, rfl, hz, k⟩ := h
    have nd := sc_figures_in.nd
    have hu := hu_of hr
    refine ⟨_, (Evl.pss_cut (ps_if (PW.pt (pw_or (pt_cmpR op_eq (pv 0) pe_str (nomark _)) (pw_or (pt_cmpR op_gt (pe_callB call_len_str (by rfl) T.b_len PySem.boot_len (pa_cons (pv 0) pa_nil)) pe_int (nomark _)) (pw_or1 (PW.pt (pw_and (pt_cmpR op_eq (pe_ix ix_str (pv 0) pe_int (fun _ _ => rfl)) pe_str (nomark _)) (pw_and1 (pt_cmpR op_gt (pe_callB call_len_str (by rfl) T.b_len PySem.boot_len (pa_cons (pv 0) pa_nil)) pe_int (nomark _))))))))) (pss_one (ps_ret pe_non)) pss_nil)
      (pss_cons (ps_for PassesOwn.never rfl (pi_str (pv 0)) (pg_name (i := 1) nd rfl (Or.inl rfl)) (pss_one (ps_if (pt_cmpR op_notIn_sign (pv 1) (Z.pe_gstr rfl T.v_FIGURES) (by rfl)) (pss_one (ps_ret pe_non)) pss_nil)))
      (pss_one (ps_ret (pe_callTy call_int_str (by rfl) T.b_int (by decide +kernel) (pa_cons (pv 0) pa_nil)))))), ?_⟩
    simp only [cxOf, Cx.nox, L2.start, List.map_cons, List.map_nil, List.length_cons, List.length_nil, Nat.reduceAdd, Nat.reduceSub, List.replicate, List.cons_append, List.nil_append]
    refine Z.cut (M := fun σ' H' => σ' = [some (.str z), none] ∧ H' = H ∧ ¬ (z = "" ∨ 10 < z.length ∨ (z.cps.toList[0]? = some 48 ∧ 1 < z.length))) ?_ ?_
    · walk_at "z"
      refine Z.iteD (fun h1 => ?_) (fun h1 => ?_)
      · have e : z = "" := V.str.inj h1
        walk_at "z"
        rw [show figIn z = none from if_pos (.inl e)] at k
        exact k
      · have ne : z ≠ "" := fun e => h1 (by rw [e])
        walk_at "z"
        refine ⟨z, rfl, Nat.le_trans hz (by decide), ?_⟩
        walk_at "z"
        refine Z.iteD (fun h2 => ?_) (fun h2 => ?_)
        · have h2' : 10 < z.length := by omega
          walk_at "z"
          rw [show figIn z = none from if_pos (.inr (.inl h2'))] at k
          exact k
        · walk_at "z"
          refine Z.ixS (i := 0) (Nat.le_trans hz (by decide)) (Int.le_refl 0) (by have := len_pos ne; omega) fun c hc => ?_
          walk_at "z"
          refine Z.iteD (fun h3 => ?_) (fun h3 => ?_)
          · have hc' : c = 48 := one_eq (e := 48) (V.str.inj h3)
            subst hc'
            walk_at "z"
            refine ⟨z, rfl, Nat.le_trans hz (by decide), ?_⟩
            walk_at "z"
            refine Z.iteD (fun h4 => ?_) (fun h4 => ?_)
            · have h4' : 1 < z.length := by omega
              walk_at "z"
              rw [show figIn z = none from if_pos (.inr (.inr (.inl ⟨hc, h4'⟩)))] at k
              exact k
            · walk_at "z"
              refine ⟨rfl, rfl, ?_⟩
              rintro (h | h | ⟨_, h⟩)
              · exact ne h
              · omega
              · omega
          · walk_at "z"
            refine ⟨rfl, rfl, ?_⟩
            rintro (h | h | ⟨h, _⟩)
            · exact ne h
            · omega
            · have hc0 : z.cps.toList[0]? = some c := hc
              rw [hc0] at h
              exact h3 (by rw [Option.some.inj h]; rfl)
    · rintro σ' H1 ⟨rfl, eH, nc⟩
      subst eH
      walk_at "z"
      refine ⟨z, rfl, for_str (fun i σ H' => H' = H1 ∧ (∃ v, σ = [some (.str z), v]) ∧ ∀ j c, j < i → z.cps[j]? = some c → c ∈ FIG.cps.toList) ⟨rfl, ⟨_, rfl⟩, fun j c h => absurd h (Nat.not_lt_zero _)⟩ ?_ ?_⟩
      · rintro i c σ H' hc ⟨rfl, ⟨v, rfl⟩, hall⟩
        walk_at "z"
        refine ⟨c, _, rfl, rfl, ?_⟩
        walk_at "z"
        refine Z.iteN (fun h3 => ?_) (fun h3 => ?_)
        · walk_at "z"
          rw [show figIn z = none from if_pos (.inr (.inr (.inr fun n => h3 (n c (by rw [Array.mem_toList_iff]; exact Array.mem_of_getElem? hc)))))] at k
          exact k
        · walk_at "z"
          refine ⟨rfl, ⟨_, rfl⟩, fun j c' hj hc' => ?_⟩
          by_cases e : j = i
          · subst e
            rw [hc] at hc'
            cases hc'
            exact h3
          · exact hall j c' (by omega) hc'
      · rintro σ H' ⟨rfl, ⟨v, rfl⟩, hall⟩
        have hS : InS FIG z := allIn_of hall
        walk_at "z"
        rw [show figIn z = some ((NumText.digitsVal z.cps.toList : Nat) : Int) from if_neg (by
          rintro (h | h | h | h)
          · exact nc (.inl h)
          · exact nc (.inr (.inl h))
          · exact nc (.inr (.inr h))
          · exact h hS)] at k
        refine ⟨z, _, rfl, intText_digits (dig_of hS) (fun e => nc (.inl (str_nil e))) (by omega), by omega, ?_⟩
        exact k
theorem cut_len (z : Str) (lo hi : Option Int) : (cutS z lo hi).length ≤ z.length := by
  unfold cutS
  show (List.toArray _).size ≤ _
  rw [List.size_toArray, List.length_take, List.length_drop, len_toList]
  omega
theorem tail_len {z : Str} {n : Nat} (h : z.length ≤ n) : (tailS z).length ≤ n := by
  unfold tailS
  split
  · exact Nat.le_trans (cut_len _ _ _) h
  · exact h
theorem ok_value_in (T : Txt K mg A) : ∃ fd, FnOk P w K mg base CX0 2 A.f_value_in fd ["kind", "text"] (sp_value_in K A) ∧ Binds K fd ["kind", "text"] [] := by
  have ⟨fd, F, b⟩ := T.d_value_in
  refine ⟨fd, F.ok sc_value_in (fun vs H Q E h => ?_) (fun cdv Ar outer s H vs Q E hr h => ?_), b⟩
  · obtain ⟨kd, z, r, rfl, _⟩ := h
    rfl
  · obtain ⟨kd, z, r, rfl, hz, h, k⟩ := h
    have nd := sc_value_in.nd
    have hu := hu_of hr
    have ⟨fd_is_name, G_is_name, b_is_name⟩ := ok_is_name (P := P) (w := w) (base := base) T
    have ⟨fd_figures_in, G_figures_in, b_figures_in⟩ := ok_figures_in (P := P) (w := w) (base := base) T
    refine ⟨_, (pss_cons (ps_if (pt_cmpR op_eq (pv 0) pe_str (nomark _)) (pss_cons (ps_if (pt_val (pe_call G_is_name (hr.mono (by decide)) (by rfl) T.g_is_name T.d_is_name.kp b_is_name .nil pass0 (pa_cons (pv 1) pa_nil))) (pss_one (ps_ret (pv 1))) pss_nil)
      (pss_one (ps_ret pe_non))) pss_nil)
      (pss_cons (ps_set (i := 2) nd rfl (Or.inl rfl) (pv 1))
      (Evl.pss_cut (ps_if (pt_cmpR op_eq (pe_slice sl_str (pv 1) po_none (po_some pe_int)) pe_str (nomark _)) (pss_one (ps_set (i := 2) nd rfl (Or.inl rfl) (pe_slice sl_str (pv 1) (po_some pe_int) po_none))) pss_nil)
      (pss_cons (ps_set (i := 3) nd rfl (Or.inl rfl) (pe_call G_figures_in (hr.mono (by decide)) (by rfl) T.g_figures_in T.d_figures_in.kp b_figures_in .nil pass0 (pa_cons (pv 2) pa_nil)))
      (pss_cons (ps_if (PW.pt (pw_or (pt_cmpR op_isN (pv 3) pe_non (nomark _)) (pw_or (pt_cmpR op_gt (pv 3) (Z.pe_gint rfl T.v_MOST_NUMBER) (nomark _)) (pw_or1 (pt_cmpR op_eq (pv 1) pe_str (nomark _)))))) (pss_one (ps_ret pe_non)) pss_nil)
      (Evl.pss_cut (ps_if (pt_cmpR op_eq (pe_slice sl_str (pv 1) po_none (po_some pe_int)) pe_str (nomark _)) (pss_one (ps_ret (pe_op op_sub pe_int (pv 3)))) pss_nil)
      (pss_one (ps_ret (pv 3))))))))), ?_⟩
    simp only [cxOf, Cx.nox, L2.start, List.map_cons, List.map_nil, List.length_cons, List.length_nil, Nat.reduceAdd, Nat.reduceSub, List.replicate, List.cons_append, List.nil_append]
    rcases h with ⟨rfl, rfl⟩ | ⟨rfl, rfl⟩
    · walk_at "z"
      refine ⟨_, .str z, rfl, .str z, by show z.length ≤ 10000; omega, ?_⟩
      rw [show named (.str z) = decide (Name z) from rfl]
      walk_at "z"
      refine Z.iteD (fun h1 => ?_) (fun h1 => ?_)
      · walk_at "z"
        rw [if_pos h1] at k
        exact k
      · walk_at "z"
        rw [if_neg h1] at k
        exact k
    · walk_at "z"
      refine Z.cut (M := fun σ' H' => σ' = [some (.str "number"), some (.str z), some (.str (tailS z)), none] ∧ H' = H) ?_ ?_
      · walk_at "z"
        refine Z.slS (by omega) ?_
        walk_at "z"
        refine Z.iteD (fun h1 => ?_) (fun h1 => ?_)
        · have m : minus z := V.str.inj h1
          walk_at "z"
          refine Z.slS (by omega) ?_
          walk_at "z"
          exact ⟨by rw [show tailS z = cutS z (some 1) none from if_pos m]; rfl, rfl⟩
        · have m : ¬ minus z := fun m => h1 (congrArg V.str m)
          walk_at "z"
          exact ⟨by rw [show tailS z = z from if_neg m]; rfl, rfl⟩
      · rintro σ' H1 ⟨rfl, eH⟩
        subst eH
        walk_at "z"
        refine ⟨tailS z, rfl, tail_len hz, ?_⟩
        cases hf : figIn (tailS z) with
        | none =>
          rw [show numIn z = none by unfold numIn; rw [hf]] at k
          walk_at "z"
          exact k
        | some n =>
          have en : numIn z = if 10 ^ 9 < n ∨ z = "-0" then none else if minus z then some (0 - n) else some n := by unfold numIn; rw [hf]
          rw [en] at k
          rw [show optN (some n) = V.int n from rfl]
          walk_at "z"
          refine Z.iteD (fun h1 => ?_) (fun h1 => ?_)
          · walk_at "z"
            rw [if_pos (.inl h1)] at k
            exact k
          · walk_at "z"
            refine Z.iteD (fun h2 => ?_) (fun h2 => ?_)
            · walk_at "z"
              rw [if_pos (.inr (V.str.inj h2))] at k
              exact k
            · rw [if_neg (fun h => h.elim h1 fun h => h2 (congrArg V.str h))] at k
              walk_at "z"
              refine Z.cut (M := fun σ' H' => σ' = [some (.str "number"), some (.str z), some (.str (tailS z)), some (.int n)] ∧ H' = H1 ∧ ¬ minus z) ?_ ?_
              · walk_at "z"
                refine Z.slS (by omega) ?_
                walk_at "z"
                refine Z.iteD (fun h3 => ?_) (fun h3 => ?_)
                · rw [if_pos (show minus z from V.str.inj h3)] at k
                  walk_at "z"
                  exact k
                · walk_at "z"
                  exact ⟨rfl, rfl, fun m => h3 (congrArg V.str m)⟩
              · rintro σ' H2 ⟨rfl, eH, nm⟩
                subst eH
                rw [if_neg nm] at k
                walk_at "z"
                exact k
theorem cut_a (c : Nat) (r : List Nat) : cutS ⟨(c :: r).toArray⟩ none (some 1) = ⟨#[c]⟩ := by
  have e : HT.sIx (c :: r).length (c :: r).length (some 1) = 1 := (HT.sIx_nat _ _ 1).trans (by simp)
  have hl : (⟨(c :: r).toArray⟩ : Str).length = (c :: r).length := by simp [Str.length]
  unfold cutS
  rw [hl, e]
  simp [HT.sIx_none]
theorem cut_b (c : Nat) (r : List Nat) : cutS ⟨(c :: r).toArray⟩ (some 1) none = ⟨r.toArray⟩ := by
  have e : HT.sIx (c :: r).length 0 (some 1) = 1 := (HT.sIx_nat _ _ 1).trans (by simp)
  have hl : (⟨(c :: r).toArray⟩ : Str).length = (c :: r).length := by simp [Str.length]
  unfold cutS
  rw [hl, e]
  simp [HT.sIx_none]
theorem minus_iff {z : Str} : minus z ↔ z.cps.toList[0]? = some 45 := by
  obtain ⟨⟨l⟩⟩ := z
  cases l with
  | nil => exact ⟨fun h => absurd h (by unfold minus; decide +kernel), fun h => by simp at h⟩
  | cons c r =>
    unfold minus
    rw [cut_a]
    constructor
    · intro h
      rw [one_eq (e := 45) h]
      rfl
    · intro h
      have : c = 45 := by simpa using h
      rw [this]
      rfl
theorem head_num (n : Nat) : n ≠ 0 → (TL.numL n)[0]? ≠ some 48 := by
  induction n using Nat.strongRecOn with
  | _ n ih =>
    intro h0
    by_cases h : n < 10
    · rw [TL.numL_lt h]
      intro e
      have : 48 + n = 48 := by simpa using e
      omega
    · rw [TL.numL_step (by omega)]
      rw [List.getElem?_append_left (List.length_pos_iff.mpr (TL.numL_ne _))]
      exact ih (n / 10) (by omega) (by omega)
theorem num_of {cs : List Nat} (h : NumText.AllDigits cs) (ne : cs ≠ []) (nz : ¬ (cs[0]? = some 48 ∧ 1 < cs.length)) : TL.numL (NumText.digitsVal cs) = cs := by
  cases cs with
  | nil => exact (ne rfl).elim
  | cons c r =>
    have hc := h.head
    have e := NumText.toDigits_digitsVal r.length (c :: r) rfl h (by
      by_cases hr : r.length = 0
      · exact .inl hr
      · refine .inr ⟨c, r, rfl, ?_⟩
        have : c ≠ 48 := fun e => nz ⟨by rw [e]; rfl, by rw [List.length_cons]; omega⟩
        omega)
    unfold TL.numL
    rw [e, List.map_map]
    refine (List.map_congr_left fun d hd => ?_).trans (List.map_id _)
    have b := h d hd
    have all : ∀ d : Nat, d < 58 → (Char.ofNat d).toNat = d := by decide +kernel
    exact all d (by omega)
theorem figIn_none {f : Str} (h : f = "" ∨ 10 < f.length ∨ (f.cps.toList[0]? = some 48 ∧ 1 < f.length) ∨ ¬ InS FIG f) : figIn f = none := if_pos h
theorem numIn_none {z : Str} (h : figIn (tailS z) = none) : numIn z = none := by unfold numIn; rw [h]
theorem numIn_big {z : Str} {n : Nat} (hn : n = NumText.digitsVal (tailS z).cps.toList) (h : 10 ^ 9 < (n : Int) ∨ z = "-0") : numIn z = none := by
  unfold numIn figIn
  split
  · rfl
  · rename_i m e
    split at e
    · cases e
    · cases e
      rw [← hn, if_pos h]
theorem numIn_ok {z : Str} {n : Nat} (hn : n = NumText.digitsVal (tailS z).cps.toList) (hf : InS FIG (tailS z)) (ne : tailS z ≠ "") (h : ¬ 10 ^ 9 < (n : Int)) (h2 : z ≠ "-0") (et : tailS z = Str.ofString (toString ((n : Nat) : Int))) :
    numIn z = if minus z then some (0 - (n : Int)) else some (n : Int) := by
  have el : (tailS z).cps.toList = TL.numL n := by rw [et]; exact TL.tl_num n
  have l10 : (TL.numL n).length ≤ 10 := TL.numL_len (by decide) (by omega)
  have e1 : figIn (tailS z) = some (n : Int) := by
    unfold figIn
    rw [if_neg, ← hn]
    rintro (h | h | ⟨h, h'⟩ | h)
    · exact ne h
    · rw [← len_toList, el] at h; omega
    · rw [← len_toList, el] at h'
      rw [el] at h
      by_cases n0 : n = 0
      · rw [n0] at h'
        exact absurd h' (by decide +kernel)
      · exact head_num n n0 h
    · exact h hf
  unfold numIn
  rw [e1]
  dsimp only
  rw [if_neg (fun e => e.elim h h2)]
theorem tl_app (s t : String) : (Str.ofString (s ++ t)).cps.toList = (Str.ofString s).cps.toList ++ (Str.ofString t).cps.toList := by
  rw [Str.ofString_eq_toList, Str.ofString_eq_toList, Str.ofString_eq_toList]
  simp
theorem tl_int (i : Int) : (Str.ofString (toString i)).cps.toList = if i < 0 then 45 :: TL.numL i.natAbs else TL.numL i.natAbs := by
  by_cases h : i < 0
  · rw [if_pos h, PyProof.Rows.toString_neg h, tl_app, show (0 - i) = ((i.natAbs : Nat) : Int) by omega]
    have e := TL.tl_num i.natAbs
    rw [show (Str.ofString (toString ((i.natAbs : Nat) : Int))).cps.toList = TL.numL i.natAbs from e, show (Str.ofString "-").cps.toList = [45] by decide +kernel]
    rfl
  · rw [if_neg h]
    have e := TL.tl_num i.natAbs
    rw [show ((i.natAbs : Nat) : Int) = i by omega] at e
    exact e
theorem num_facts {i : Int} (h0 : -(10 ^ 9) ≤ i) (h1 : i ≤ 10 ^ 9) : numIn (Str.ofString (toString i)) = some i ∧ (Str.ofString (toString i)).length ≤ 11 ∧ PyData.strOk (Str.ofString (toString i)) = true := by
  have hd := TL.numL_digits i.natAbs
  have hl : (TL.numL i.natAbs).length ≤ 10 := TL.numL_len (by decide) (by omega)
  have hv := TL.numL_val i.natAbs
  have hn := TL.numL_ne i.natAbs
  have ht := tl_int i
  have fig : FIG.cps.toList = [48, 49, 50, 51, 52, 53, 54, 55, 56, 57] := by decide +kernel
  have hF : ∀ z : Str, z.cps.toList = TL.numL i.natAbs → InS FIG z := fun z e c hc => by
    rw [e] at hc
    have := hd c hc
    rw [fig]
    simp only [List.mem_cons, List.not_mem_nil, or_false]
    omega
  have ok : PyData.strOk (Str.ofString (toString i)) = true := by
    unfold PyData.strOk
    rw [← Array.all_toList, ht, List.all_eq_true]
    intro c hc
    refine decide_eq_true ?_
    split at hc
    · rcases List.mem_cons.mp hc with h | h
      · omega
      · have := hd c h; omega
    · have := hd c hc; omega
  have len : (Str.ofString (toString i)).length ≤ 11 := by
    rw [← len_toList, ht]
    split
    · rw [List.length_cons]; omega
    · omega
  refine ⟨?_, len, ok⟩
  by_cases h : i < 0
  · rw [if_pos h] at ht
    have m : minus (Str.ofString (toString i)) := minus_iff.mpr (by rw [ht]; rfl)
    have et : (tailS (Str.ofString (toString i))).cps.toList = TL.numL i.natAbs := by
      unfold tailS
      rw [if_pos m, show Str.ofString (toString i) = ⟨(45 :: TL.numL i.natAbs).toArray⟩ from TL.ext_tl ht, cut_b]
    rw [numIn_ok (n := i.natAbs) (by rw [et, hv]) (hF _ et) (fun e => hn (by rw [← et, e]; rfl)) (by omega) (fun e => ?_) (TL.ext_tl (et.trans (TL.tl_num i.natAbs).symm)), if_pos m]
    · congr 1
      omega
    · rw [e, show ("-0" : Str).cps.toList = [45, 48] by decide +kernel] at ht
      have h2 : TL.numL 0 = TL.numL i.natAbs := by
        rw [TL.numL_lt (by decide)]
        exact (List.cons.inj ht).2
      have := TL.numL_inj h2
      omega
  · rw [if_neg h] at ht
    have hm : ¬ minus (Str.ofString (toString i)) := fun m => by
      have m' := minus_iff.mp m
      rw [ht] at m'
      have := hd 45 (List.mem_of_getElem? m')
      omega
    have et : tailS (Str.ofString (toString i)) = Str.ofString (toString i) := if_neg hm
    rw [numIn_ok (n := i.natAbs) (by rw [et, ht, hv]) (hF _ (by rw [et, ht])) (fun e => hn (by rw [← ht, ← et, e]; rfl)) (by omega) (fun e => ?_) (by rw [et, show ((i.natAbs : Nat) : Int) = i by omega]), if_neg hm]
    · congr 1
      omega
    · rw [e, show ("-0" : Str).cps.toList = [45, 48] by decide +kernel] at ht
      have := hd 45 (by rw [← ht]; simp)
      omega

/-! ### the law's draws and names -/
def sp_law_cell (K : PySem.W.Frag) (A : Adr) : Sp := fun vs H Q _ => ∃ (a : Addr) (ns : List Int) (i : Nat), vs = [.ref a, .int i] ∧ SqL K H a (ns.map V.int) ∧ ns.length ≤ 63 ∧ i ≤ 1000 ∧ ∀ c, Q (.int c) H
theorem ok_law_cell (T : Txt K mg A) : ∃ fd, FnOk P w K mg base CX0 1 A.f_law_cell fd ["_law_script", "_law_k"] (sp_law_cell K A) ∧ Binds K fd ["_law_script", "_law_k"] [] := by
  have ⟨fd, F, b⟩ := T.d_law_cell
  refine ⟨fd, F.ok sc_law_cell (fun vs H Q E h => ?_) (fun cdv Ar outer s H vs Q E hr h => ?_), b⟩
  · obtain ⟨a, ns, i, rfl, _⟩ := h
    rfl
  · obtain ⟨a, ns, i, rfl, hS, hl, hi, k⟩ := h
    have nd := sc_law_cell.nd
    have hu := hu_of hr
    refine ⟨_, (pss_cons (ps_if (pt_cmpR op_lt (pv 1) (pe_callB call_len_seq (by rfl) T.b_len PySem.boot_len (pa_cons (pv 0) pa_nil)) (nomark _)) (pss_one (ps_ret (pe_ix ix_list (pv 0) (pv 1) (fun _ _ => rfl)))) pss_nil)
      (pss_one (ps_ret (pe_op op_add (pe_op op_mul pe_int (pv 1)) pe_int)))), ?_⟩
    simp only [cxOf, Cx.nox, L2.start, List.map_cons, List.map_nil, List.length_cons, List.length_nil, Nat.reduceAdd, Nat.reduceSub, List.replicate, List.cons_append, List.nil_append]
    walk_at "z"
    refine Z.lenSeq hS ?_
    walk_at "z"
    rw [List.length_map]
    refine Z.iteD (fun h1 => ?_) (fun h1 => ?_)
    · walk_at "z"
      have e : ns[i]? = some (ns[i]'(by omega)) := List.getElem?_eq_getElem _
      refine Z.ixL (i := i) hS (by rw [List.getElem?_map, e]; rfl) ?_
      exact k _
    · walk_at "z"
      exact k _
def sp_law_draws (K : PySem.W.Frag) (A : Adr) : Sp := fun vs H Q _ => ∃ (F : Hp) (c : Int) (n : Nat), vs = [.int c, .int n] ∧ Same F H ∧ n ≤ 100 ∧ ∀ F' H' v (xs : List Int), xs.length = n → (∀ x ∈ xs, 0 ≤ x ∧ x < 10 ^ 10) → Z.Gr F H F' H' → Dp K F' v (.list (xs.map .int)) → Q v H'
theorem ok_law_draws (T : Txt K mg A) : ∃ fd, FnOk P w K mg base CX0 1 A.f_law_draws fd ["_law_cell_here", "_law_many"] (sp_law_draws K A) ∧ Binds K fd ["_law_cell_here", "_law_many"] [] := by
  have ⟨fd, F, b⟩ := T.d_law_draws
  refine ⟨fd, F.ok sc_law_draws (fun vs H Q E h => ?_) (fun cdv Ar outer s H vs Q E hr h => ?_), b⟩
  · obtain ⟨F0, c, n, rfl, _⟩ := h
    rfl
  · obtain ⟨F0, c, n, rfl, sm, hn, k⟩ := h
    have nd := sc_law_draws.nd
    have hu := hu_of hr
    refine ⟨_, (pss_cons (ps_set (i := 2) nd rfl (Or.inl rfl) (pe_lst pa_nil))
      (pss_cons (ps_set (i := 3) nd rfl (Or.inl rfl) (pe_callB call_abs (by rfl) T.b_abs (by decide +kernel) (pa_cons (pv 0) pa_nil)))
      (pss_cons (ps_set (i := 4) nd rfl (Or.inl rfl) (pe_op op_mod (pv 3) pe_int))
      (pss_cons (ps_for PassesOwn.never rfl (pi_range1 rfl T.b_range (pa_cons (pv 1) pa_nil)) (pg_name (i := 5) nd rfl (Or.inl rfl)) (pss_cons (ps_set (i := 4) nd rfl (Or.inl rfl) (pe_op op_mod (pe_op op_add (pe_op op_add (pe_op op_mul (pv 4) pe_int) (pe_op op_mul pe_int (pv 5))) pe_int) pe_int))
      (pss_one (ps_if (pt_cmpR op_ge (pv 3) (pe_op op_pow pe_int pe_int) (nomark _)) (pss_cons (ps_expr (pe_bm PySem.F.plainAttrs_list PySem.F.slot_list_append PySem.F.type_list_append mt_append (pv 2) (pa_cons (pe_op op_mod (pv 3) (pe_op op_pow pe_int pe_int)) pa_nil)))
      (pss_one (ps_set (i := 3) nd rfl (Or.inl rfl) (pe_op op_fdivW (pv 3) (pe_op op_pow pe_int pe_int))))) (pss_one (ps_expr (pe_bm PySem.F.plainAttrs_list PySem.F.slot_list_append PySem.F.type_list_append mt_append (pv 2) (pa_cons (pe_op op_mod (pe_op op_mul (pv 4) (pe_op op_add (pv 4) pe_int)) pe_int) pa_nil))))))))
      (pss_one (ps_ret (pv 2))))))), ?_⟩
    simp only [cxOf, Cx.nox, L2.start, List.map_cons, List.map_nil, List.length_cons, List.length_nil, Nat.reduceAdd, Nat.reduceSub, List.replicate, List.cons_append, List.nil_append]
    walk_at "z"
    refine ⟨by simp only [List.length_cons, List.length_nil]; decide, fun q hq => ?_⟩
    have W0 := (Z.Ws.init sm).new (o := .lst []) hq
    walk_at "z"
    refine ⟨c, rfl, ?_⟩
    walk_at "z"
    refine ⟨(n : Int), rfl, by omega, by omega, ?_⟩
    rw [Int.toNat_natCast]
    refine (for_range (lo := 0) (n := n) (fun i σ H' => ∃ (xs : List Int) (l m : Int) (v : Option V), σ = [some (.int c), some (.int n), some (.ref q), some (.int l), some (.int m), v] ∧ 0 ≤ l ∧ 0 ≤ m ∧ m < 2147483647 ∧ xs.length = i ∧ (∀ x ∈ xs, 0 ≤ x ∧ x < 10 ^ 10) ∧ Z.Ws [(q, .lst (xs.map .int))] F0 H F0 H')
      ⟨[], _, _, none, rfl, by split <;> omega, Int.emod_nonneg _ (by decide), Int.emod_lt_of_pos _ (by decide), rfl, fun x h => (nomatch h), W0⟩ ?_ ?_)
    · rintro i σ H1 hi ⟨xs, l, m, v, rfl, l0, m0, m1, hx, pos, W⟩
      walk_at "z"
      have p1 : (0 : Int) < 10 ^ Int.toNat 10 := by decide
      refine Z.iteD (fun h1 => ?_) (fun h1 => ?_)
      · walk_at "z"
        refine ⟨.inl ⟨rfl, _, SqL.of (W.at 0 rfl)⟩, ?_⟩
        walk_at "z"
        refine Z.appW W 0 rfl (fun H' W' => ?_) (by rw [List.length_map]; omega)
        walk_at "z"
        refine ⟨xs ++ [l % 10 ^ Int.toNat 10], _, _, _, rfl, Int.ediv_nonneg l0 (Int.le_of_lt p1), Int.emod_nonneg _ (by decide), Int.emod_lt_of_pos _ (by decide), by simp; omega, fun x hx => ?_, by rw [List.map_append]; exact W'⟩
        rcases List.mem_append.mp hx with h | h
        · exact pos x h
        · rw [List.mem_singleton.mp h]; exact ⟨Int.emod_nonneg _ (by decide), Int.emod_lt_of_pos _ (by decide)⟩
      · walk_at "z"
        refine ⟨.inl ⟨rfl, _, SqL.of (W.at 0 rfl)⟩, ?_⟩
        walk_at "z"
        refine Z.appW W 0 rfl (fun H' W' => ?_) (by rw [List.length_map]; omega)
        walk_at "z"
        refine ⟨xs ++ [_], _, _, _, rfl, l0, Int.emod_nonneg _ (by decide), Int.emod_lt_of_pos _ (by decide), by simp; omega, fun x hx => ?_, by rw [List.map_append]; exact W'⟩
        rcases List.mem_append.mp hx with h | h
        · exact pos x h
        · rw [List.mem_singleton.mp h]; exact ⟨Int.emod_nonneg _ (by decide), Int.lt_trans (Int.emod_lt_of_pos _ (by decide)) (by decide)⟩
    · rintro σ H1 ⟨xs, l, m, v, rfl, l0, m0, m1, hx, pos, W⟩
      walk_at "z"
      obtain ⟨F', W', s', g'⟩ := W.frz 0 rfl
      exact k F' H1 _ xs hx pos W'.g (.lst (SqL.of g') (Z.dpa_of_ints xs))
/-! names: alike but at one place -/
def nmSign (xs : List Int) (t k j : Nat) : Int := (xs.getD (2 + j) 0 + k * (if j = t then 1 else 0)) % 26
def nmCodes (xs : List Int) (sz t k : Nat) : List Nat := (List.range sz).map fun j => 97 + (nmSign xs t k j).toNat
def nmOf (xs : List Int) (sz t k : Nat) : Str := ⟨(nmCodes xs sz t k).toArray⟩
theorem nmSign_lt (xs : List Int) (t k j : Nat) : 0 ≤ nmSign xs t k j ∧ nmSign xs t k j < 26 := ⟨Int.emod_nonneg _ (by decide), Int.emod_lt_of_pos _ (by decide)⟩
theorem let_in : ∀ n : Nat, n < 26 → LET.cps.toList[n]? = some (97 + n) := by decide +kernel
theorem nm_name {xs : List Int} {sz t k : Nat} (h1 : 1 ≤ sz) (h8 : sz ≤ 8) : Name (nmOf xs sz t k) := by
  have e : (nmOf xs sz t k).cps.toList = nmCodes xs sz t k := rfl
  have l : (nmOf xs sz t k).length = sz := by
    show (nmCodes xs sz t k).toArray.size = sz
    simp [nmCodes]
  refine ⟨by omega, by omega, fun c hc => ?_⟩
  rw [e] at hc
  obtain ⟨j, hj, rfl⟩ := List.mem_map.mp hc
  have := nmSign_lt xs t k j
  exact List.mem_of_getElem? (let_in (nmSign xs t k j).toNat (by omega))
theorem nm_ne {xs : List Int} {sz t k k' : Nat} (ht : t < sz) (hk : k < k') (hk' : k' < 26) : nmOf xs sz t k ≠ nmOf xs sz t k' := by
  intro e
  have e1 : nmCodes xs sz t k = nmCodes xs sz t k' := congrArg (fun s : Str => s.cps.toList) e
  have e2 := congrArg (fun l : List Nat => l[t]?) e1
  simp only [nmCodes, List.getElem?_map, List.getElem?_range ht, Option.map_some, Option.some.injEq] at e2
  have a := nmSign_lt xs t k t
  have b := nmSign_lt xs t k' t
  have e3 : nmSign xs t k t = nmSign xs t k' t := by omega
  simp only [nmSign, if_pos] at e3
  omega
theorem nm_nodup {xs : List Int} {sz t n : Nat} (ht : t < sz) (hn : n ≤ 26) : ((List.range n).map (nmOf xs sz t)).Nodup := by
  rw [List.nodup_iff_pairwise_ne, List.pairwise_map]
  refine List.Pairwise.imp_of_mem (R := fun a b => a < b) (fun {a b} ha hb h => nm_ne ht h ?_) List.pairwise_lt_range
  have := List.mem_range.mp hb
  omega
theorem join_one : ∀ cs : List Nat, Txt.join "" (cs.map fun c => (⟨#[c]⟩ : Str)) = ⟨cs.toArray⟩
  | [] => rfl
  | c :: r => by
    have e : Txt.join "" ((⟨#[c]⟩ : Str) :: r.map fun c => (⟨#[c]⟩ : Str)) = (⟨#[c]⟩ : Str) ++ Txt.join "" (r.map fun c => (⟨#[c]⟩ : Str)) := by
      rw [TL.join_eq, TL.join_eq]
      exact PyProof.Rows.join_nil_cons _ _
    rw [List.map_cons, e, join_one r]
    refine TL.ext_tl ?_
    show (#[c] ++ r.toArray).toList = _
    simp [TL.tl]
theorem sum_one (cs : List Nat) : ((cs.map fun c => (⟨#[c]⟩ : Str)).map (·.length)).sum = cs.length := by
  induction cs with
  | nil => rfl
  | cons c r ih =>
    rw [List.map_cons, List.map_cons, List.sum_cons, ih, List.length_cons]
    show 1 + r.length = _
    omega
def sp_law_names (K : PySem.W.Frag) (A : Adr) : Sp := fun vs H Q _ => ∃ (F : Hp) (c : Int) (n : Nat), vs = [.int c, .int n] ∧ Same F H ∧ n ≤ 26 ∧ ∀ F' H' v (zs : List Str), zs.length = n → (∀ z ∈ zs, Name z) → zs.Nodup → Z.Gr F H F' H' → Dp K F' v (.list (zs.map .str)) → Q v H'
theorem ok_law_names (T : Txt K mg A) : ∃ fd, FnOk P w K mg base CX0 2 A.f_law_names fd ["_law_cell_here", "_law_many"] (sp_law_names K A) ∧ Binds K fd ["_law_cell_here", "_law_many"] [] := by
  have ⟨fd, F, b⟩ := T.d_law_names
  refine ⟨fd, F.ok sc_law_names (fun vs H Q E h => ?_) (fun cdv Ar outer s H vs Q E hr h => ?_), b⟩
  · obtain ⟨F0, c, n, rfl, _⟩ := h
    rfl
  · obtain ⟨F0, c, n, rfl, sm, hn, k⟩ := h
    have nd := sc_law_names.nd
    have hu := hu_of hr
    have ⟨fd_law_draws, G_law_draws, b_law_draws⟩ := ok_law_draws (P := P) (w := w) (base := base) T
    refine ⟨_, (pss_cons (ps_set (i := 2) nd rfl (Or.inr rfl) pe_str)
      (pss_cons (ps_set (i := 3) nd rfl (Or.inr rfl) (pe_call G_law_draws (hr.mono (by decide)) (by rfl) T.g_law_draws T.d_law_draws.kp b_law_draws .nil pass0 (pa_cons (pv 0) (pa_cons pe_int pa_nil))))
      (pss_cons (ps_set (i := 4) nd rfl (Or.inl rfl) (pe_op op_add pe_int (pe_op op_mod (pe_ix ix_list (pv 3) pe_int (fun _ _ => rfl)) pe_int)))
      (pss_cons (ps_set (i := 5) nd rfl (Or.inr rfl) (pe_op op_mod (pe_ix ix_list (pv 3) pe_int (fun _ _ => rfl)) (pv 4)))
      (pss_cons (ps_set (i := 6) nd rfl (Or.inl rfl) (pe_lst pa_nil))
      (pss_cons (ps_for PassesOwn.never rfl (pi_range1 rfl T.b_range (pa_cons (pv 1) pa_nil)) (pg_name (i := 7) nd rfl (Or.inr rfl)) (pss_cons (ps_setLc (i := 8) rfl nd rfl rfl (sw_true rfl rfl rfl (by decide +kernel)) (own := [("_law_j", 9)]) (pi_range1 rfl T.b_range (pa_cons (pv 4) pa_nil)) (blkOk_by (own := [("_law_j", 9)]) (N := ["_law_cell_here", "_law_many", "_law_letters", "_law_draws_here", "_law_size", "_law_at", "_law_names_here", "_law_k", "_law_signs", "_law_j", "_law_sign"]) (sc := defScope s_law_names) (by decide +kernel)) (fun _ _ _ _ _ => pg_name (i := 9) nd rfl (Or.inl rfl)) (fun _ _ _ _ _ => pts_nil) (fun _ _ _ _ _ => (pe_op op_mod (pe_op op_add (pe_ix (ix_listK (K := K) rfl) (pv 3) (pe_op op_add pe_int (pv 9)) (fun _ _ => rfl)) (pe_op op_mul (pv 7) (pe_callTy call_int1 (by rfl) T.b_int (by decide +kernel) (pa_cons (pe_cmpR op_eq (pv 9) (pv 5) (nomark _)) pa_nil)))) pe_int)))
      (pss_one (ps_expr (pe_bm PySem.F.plainAttrs_list PySem.F.slot_list_append PySem.F.type_list_append mt_append (pv 6) (pa_cons (pe_join pe_str (pe_lc (own := [("_law_sign", 10)]) rfl nd (pi_list (pv 8)) (blkOk_by (own := [("_law_sign", 10)]) (N := ["_law_cell_here", "_law_many", "_law_letters", "_law_draws_here", "_law_size", "_law_at", "_law_names_here", "_law_k", "_law_signs", "_law_j", "_law_sign"]) (sc := defScope s_law_names) (by decide +kernel)) (fun _ _ _ _ _ => pg_name (i := 10) nd rfl (Or.inl rfl)) (fun _ _ _ _ _ => pts_nil) (fun _ _ _ _ _ => (pe_ix ix_str (pv 2) (pv 10) (fun _ _ => rfl))))) pa_nil))))))
      (pss_one (ps_ret (pv 6))))))))), ?_⟩
    simp only [cxOf, Cx.nox, L2.start, List.map_cons, List.map_nil, List.length_cons, List.length_nil, Nat.reduceAdd, Nat.reduceSub, List.replicate, List.cons_append, List.nil_append]
    walk_at "z"
    refine ⟨F0, c, 10, rfl, sm, by decide, fun F1 H1 v1 xs hx pos g1 d1 => ?_⟩
    have W1 := (Z.Ws.init sm).ext g1
    have g0 : xs[0]? = some (xs[0]'(by omega)) := List.getElem?_eq_getElem _
    have g1' : xs[1]? = some (xs[1]'(by omega)) := List.getElem?_eq_getElem _
    have p0 := (pos _ (List.mem_of_getElem? g0)).1
    have p1 := (pos _ (List.mem_of_getElem? g1')).1
    walk_at "z"
    refine Z.ixD d1 W1.fh 0 (d := .int (xs[0]'(by omega))) (by rw [List.getElem?_map, g0]; rfl) fun w hw => ?_
    cases Z.dp_int hw
    walk_at "z"
    refine Z.ixD d1 W1.fh 1 (d := .int (xs[1]'(by omega))) (by rw [List.getElem?_map, g1']; rfl) fun w hw2 => ?_
    cases Z.dp_int hw2
    walk_at "z"
    refine ⟨by simp only [List.length_cons, List.length_nil]; decide, fun q hq => ?_⟩
    obtain ⟨sz, hsz, hs1, hs8⟩ : ∃ sz : Nat, (1 : Int) + xs[0]'(by omega) % 8 = (sz : Int) ∧ 1 ≤ sz ∧ sz ≤ 8 := ⟨((1 : Int) + xs[0]'(by omega) % 8).toNat, by omega, by omega, by omega⟩
    rw [hsz]
    obtain ⟨t, ht, hts⟩ : ∃ t : Nat, xs[1]'(by omega) % (sz : Int) = (t : Int) ∧ t < sz := ⟨(xs[1]'(by omega) % (sz : Int)).toNat, by have := Int.emod_nonneg (xs[1]'(by omega)) (show (sz : Int) ≠ 0 by omega); omega, by have := Int.emod_lt_of_pos (xs[1]'(by omega)) (show (0 : Int) < sz by omega); have := Int.emod_nonneg (xs[1]'(by omega)) (show (sz : Int) ≠ 0 by omega); omega⟩
    have W2 := W1.new (o := .lst []) hq
    walk_at "z"
    refine ⟨(n : Int), rfl, by omega, by omega, ?_⟩
    rw [Int.toNat_natCast, ht]
    refine (for_range (lo := 0) (n := n) (fun i σ H' => ∃ (v7 v8 v9 v10 : Option V), σ = [some (.int c), some (.int n), some (.str LET), some v1, some (.int sz), some (.int t), some (.ref q), v7, v8, v9, v10] ∧ Z.Ws [(q, .lst (((List.range i).map (nmOf xs sz t)).map .str))] F0 H F1 H')
      ⟨none, none, none, none, rfl, W2⟩ ?_ ?_)
    · rintro i σ H2 hi ⟨v7, v8, v9, v10, rfl, W⟩
      walk_at "z"
      refine ⟨.int (sz : Int), rfl, (sz : Int), rfl, by omega, by omega, ?_⟩
      rw [Int.toNat_natCast]
      intro g hg
      refine lc_range (lo := 0) (n := sz) (fun j H' => Z.Ws [(g, .lst (((List.range j).map (nmSign xs t i)).map .int)), (q, .lst (((List.range i).map (nmOf xs sz t)).map .str))] F0 H F1 H') (W.new hg) ?_ ?_
      · rintro j H3 hj W3
        refine ⟨rfl, ?_⟩
        walk_at "z"
        have g2 : xs[2 + j]? = some (xs[2 + j]'(by omega)) := List.getElem?_eq_getElem _
        rw [show (2 : Int) + (0 + (j : Int)) = ((2 + j : Nat) : Int) by omega]
        refine Z.ixD d1 W3.fh (2 + j) (d := .int (xs[2 + j]'(by omega))) (by rw [List.getElem?_map, g2]; rfl) fun w hw3 => ?_
        cases Z.dp_int hw3
        walk_at "z"
        refine .inr ⟨_, rfl, ?_⟩
        refine Z.ic ?hc ?_
        case hc => exact .inl ⟨by omega, by omega⟩
        walk_at "z"
        refine ⟨_, W3.at 0 rfl, by simp; exact Nat.lt_of_le_of_lt (show j ≤ 1000 by omega) (by decide), ?_⟩
        have ev : nmSign xs t i j = (xs[2 + j]'(by omega) + (0 + (i : Int)) * (if decide (V.int (0 + (j : Int)) = V.int (t : Int)) = true then 1 else 0)) % 26 := by
          unfold nmSign
          rw [List.getD_eq_getElem?_getD, g2, Option.getD_some, Int.zero_add]
          by_cases e : j = t
          · rw [if_pos e, if_pos (decide_eq_true (by rw [e, Int.zero_add]))]
          · rw [if_neg e, if_neg (fun h => e (by have := V.int.inj (of_decide_eq_true h); omega))]
        rw [List.range_succ, List.map_append, List.map_append, show List.map V.int (List.map (nmSign xs t i) [j]) = [V.int _] from congrArg (fun x => [V.int x]) ev]
        exact W3.set 0 rfl _
      · rintro H3 W3
        walk_at "z"
        refine ⟨.inl ⟨rfl, _, SqL.of (W3.at 1 rfl)⟩, ?_⟩
        walk_at "z"
        refine ⟨⟨_, rfl⟩, .ref g, rfl, g, rfl, ⟨_, SqL.of (W3.at 0 rfl)⟩, fun D hD => ?_⟩
        refine lc_list (fun j H' => Z.Ws [(D, .lst ((((List.range j).map fun j => 97 + (nmSign xs t i j).toNat).map fun c => (⟨#[c]⟩ : Str)).map .str)), (g, .lst (((List.range sz).map (nmSign xs t i)).map .int)), (q, .lst (((List.range i).map (nmOf xs sz t)).map .str))] F0 H F1 H') (W3.new hD) (fun i H' hi W4 => SqL.of (W4.at 1 rfl)) ?_ ?_
        · rintro j x H4 hx W4
          have hjl : j < sz := by simpa using (List.getElem?_eq_some_iff.mp hx).1
          have hx' : x = .int (nmSign xs t i j) := by
            rw [List.getElem?_map, List.getElem?_map, List.getElem?_range hjl] at hx
            exact (Option.some.inj hx).symm
          subst hx'
          obtain ⟨y0, y1⟩ := nmSign_lt xs t i j
          refine ⟨rfl, ?_⟩
          walk_at "z"
          have eL : LET.length = 26 := by decide +kernel
          refine Z.ixS (by rw [eL]; decide) y0 (by rw [eL]; exact y1) fun c hc => ?_
          rw [let_in _ (by omega)] at hc
          cases hc
          walk_at "z"
          refine ⟨_, W4.at 0 rfl, by simp; exact Nat.lt_of_le_of_lt (show j ≤ 1000 by omega) (by decide), ?_⟩
          rw [List.range_succ, List.map_append, List.map_append, List.map_append]
          exact W4.set 0 rfl _
        · rintro H4 W4
          rw [List.length_map, List.length_map, List.length_range] at W4
          walk_at "z"
          refine ⟨_, D, _, rfl, rfl, .inl (SqL.of (W4.at 0 rfl)), by rw [sum_one]; show _ + _ * 0 ≤ _; simp; omega, ?_⟩
          rw [join_one]
          walk_at "z"
          refine ⟨q, _, _, rfl, rfl, W4.at 2 rfl, by simp; exact Nat.lt_of_le_of_lt (show i ≤ 1000 by omega) (by decide), ?_⟩
          walk_at "z"
          have : Z.Ws [(q, .lst (((List.range i).map (nmOf xs sz t)).map .str ++ [.str (nmOf xs sz t i)]))] F0 H F1 _ := (W4.set 2 rfl (.lst (((List.range i).map (nmOf xs sz t)).map .str ++ [.str (nmOf xs sz t i)]))).pick [2] (by decide) rfl
          exact ⟨_, _, _, _, rfl, by rw [List.range_succ, List.map_append, List.map_append]; exact this⟩
    · rintro σ H2 ⟨v7, v8, v9, v10, rfl, W⟩
      walk_at "z"
      obtain ⟨F', W', s', g'⟩ := W.frz 0 rfl
      exact k F' H2 _ _ (by simp) (fun z hz => by obtain ⟨j, hj, rfl⟩ := List.mem_map.mp hz; exact nm_name hs1 hs8) (nm_nodup hts hn) W'.g (.lst (SqL.of g') (Z.dpa_of_strs _))

/-! ### schemas as data -/
abbrev Col := Str × Str
abbrev Tab := Str × List Col
def pairD (c : Str × Str) : PyData := .tuple [.str c.1, .str c.2]
structure ColsOk (cs : List Col) : Prop where
  lo : 1 ≤ cs.length
  hi : cs.length ≤ 4
  nm : ∀ c ∈ cs, Name c.1 ∧ Kind c.2
  nd : (cs.map (·.1)).Nodup
structure TabsOk (ts : List Tab) : Prop where
  lo : 1 ≤ ts.length
  hi : ts.length ≤ 4
  nm : ∀ t ∈ ts, Name t.1 ∧ ColsOk t.2
  nd : (ts.map (·.1)).Nodup
structure OrdsOk (ts : List Tab) (os : List (Str × Str)) : Prop where
  hi : os.length ≤ 4
  nm : ∀ o ∈ os, ∃ t ∈ ts, t.1 = o.1 ∧ ∃ c ∈ t.2.drop 1, c.1 = o.2
  nd : os.Nodup
def SeqOf (K : PySem.W.Frag) (H : Hp) (v : V) (xs : List V) : Prop := ∃ a, v = .ref a ∧ (SqL K H a xs ∨ SqT K H a xs)
/-- columns handed in: a list, or a tuple that is data -/
def HandC (K : PySem.W.Frag) (F H : Hp) (v : V) (cs : List (Str × Str)) : Prop := (∃ a xs, v = .ref a ∧ SqL K H a xs ∧ DpAll K F xs (cs.map pairD)) ∨ Dp K F v (.tuple (cs.map pairD))
theorem HandC.seq {K : PySem.W.Frag} {F H : Hp} {v : V} {cs : List (Str × Str)} (h : HandC K F H v cs) (s : Same F H) : ∃ a xs, v = .ref a ∧ (SqL K H a xs ∨ SqT K H a xs) ∧ DpAll K F xs (cs.map pairD) := by
  rcases h with ⟨a, xs, rfl, h1, h2⟩ | h
  · exact ⟨a, xs, rfl, .inl h1, h2⟩
  · obtain ⟨a, xs, rfl, h1, h2⟩ := Z.dp_tup h
    exact ⟨a, xs, rfl, .inr (Z.seqT s h1), h2⟩
theorem HandC.same {K : PySem.W.Frag} {F F' H H' : Hp} {v : V} {cs : List (Str × Str)} (h : HandC K F H v cs) (s : Same F F') (e : Same H H') : HandC K F' H' v cs := by
  rcases h with ⟨a, xs, rfl, h1, h2⟩ | h
  · exact .inl ⟨a, xs, rfl, e.seq h1, Z.dpa_same s h2⟩
  · exact .inr (Z.dp_same s h)
def HandT (K : PySem.W.Frag) (F H : Hp) (v : V) (ts : List Tab) : Prop := ∃ (a : Addr) (xs : List V), v = .ref a ∧ (SqL K H a xs ∨ SqT K H a xs) ∧ xs.length = ts.length ∧
  ∀ (i : Nat) (x : V) (t : Tab), xs[i]? = some x → ts[i]? = some t → ∃ (b : Addr) (w : V), x = .ref b ∧ SqT K H b [.str t.1, w] ∧ HandC K F H w t.2
theorem seqOf_len {K : PySem.W.Frag} {H : Hp} {Q : VK} {a : Addr} {xs : List V} (h : SqL K H a xs ∨ SqT K H a xs) {R : List V → Prop} (k : R xs) : ∃ q ys, [V.ref a] = [.ref q] ∧ (SqL K H q ys ∨ SqT K H q ys) ∧ R ys := ⟨a, xs, rfl, h, k⟩
section
variable {K : PySem.W.Frag} {F F' H H' H1 : Hp} {a p : Addr} {xs : List V} {Q : VK} {z : Str} {kvs : List (Key × V)}
theorem ty_sqL (h : SqL K H a xs) : TyX K H (.ref a) (.type "list") := by
  rcases h with (h | ⟨o, h⟩) | ⟨o, its, n, h, hc, _⟩
  · exact .base (.lst h)
  · exact .base (.frz h)
  · exact .kList h hc
theorem ty_sqT (h : SqT K H a xs) : TyX K H (.ref a) (.type "tuple") := by
  rcases h with (h | ⟨o, h⟩) | ⟨o, its, n, h, hc, _⟩
  · exact .base (.tup h)
  · exact .fTuple h
  · exact .kTuple h hc
theorem isiSq (h : SqL K H a xs ∨ SqT K H a xs) (hp : H p = some (.tup [.ty "list", .ty "tuple"])) (k : Q (.bl true) H) : rIsiT K [.ref a, .ref p] H Q := by
  rcases h with h | h
  · exact ⟨_, p, _, _, _, _, rfl, hp, .cons (.ty "list") (.cons (.ty "tuple") .nil), ty_sqL h, Z.kitSeq (d := .list []), k⟩
  · exact ⟨_, p, _, _, _, _, rfl, hp, .cons (.ty "list") (.cons (.ty "tuple") .nil), ty_sqT h, Z.kitSeq (d := .tuple []), k⟩
theorem isiT (h : SqT K H a xs) (k : Q (.bl true) H) : rIsi K [.ref a, .ty "tuple"] H Q := ⟨_, .ty "tuple", _, .type "tuple", _, rfl, .ty "tuple", ty_sqT h, Z.kitD (d := .tuple []) (by simp), k⟩
theorem isiL (h : SqL K H a xs) (k : Q (.bl true) H) : rIsi K [.ref a, .ty "list"] H Q := ⟨_, .ty "list", _, .type "list", _, rfl, .ty "list", ty_sqL h, Z.kitD (d := .list []) (by simp), k⟩
theorem inV_str (zs : List Str) : inV (.str z) (zs.map V.str) = decide (z ∈ zs) := by
  rw [Bool.eq_iff_iff]
  simp only [inV, List.any_map, List.any_eq_true, Function.comp, eqV, beq_iff_eq, decide_eq_true_eq]
  exact ⟨fun ⟨x, h, e⟩ => e ▸ h, fun h => ⟨z, h, rfl⟩⟩
theorem flat_str (zs : List Str) : (zs.map V.str).all flatV = true := by simp [flatV]
theorem dinS {R : Option V → Prop} (ho : H a = some (.dK kvs)) (k : R (valV kvs (.inr z))) : ∃ a' o, (V.ref a) = .ref a' ∧ DGet H a' (.str z) o ∧ R o := ⟨a, _, rfl, DGet.k (k := Sum.inr z) ho, k⟩
theorem dgetS {v : V} {R : V → Prop} (ho : H a = some (.dK kvs)) (e : valV kvs (Sum.inr z) = some v) (q : R v) : ∃ a' v, (V.ref a) = .ref a' ∧ DGet H a' (.str z) (some v) ∧ R v := ⟨a, v, rfl, e ▸ DGet.k (k := Sum.inr z) ho, q⟩
theorem dputS {v : V} {R : Hp → Prop} (ho : H a = some (.dK kvs)) (l : kvs.length < 1000) (q : R (upd H a (.dK (putK kvs (Sum.inr z) v)))) :
    ∃ a' H4, (V.ref a) = .ref a' ∧ DPut H a' (.str z) v H4 ∧ R H4 := ⟨a, _, rfl, DPut.k (k := Sum.inr z) ho (Nat.lt_of_lt_of_le l (by decide)), q⟩
end
/-- the dict of columns -/
inductive KvOk (K : PySem.W.Frag) (F : Hp) : List (Key × V) → List Tab → Prop
  | nil : KvOk K F [] []
  | cons {v : V} {t : Tab} {kvs : List (Key × V)} {ts : List Tab} : Dp K F v (.tuple (t.2.map pairD)) → KvOk K F kvs ts → KvOk K F ((.inr t.1, v) :: kvs) (t :: ts)
section
variable {K : PySem.W.Frag} {F F' H : Hp}
theorem KvOk.same (s : Same F F') : ∀ {kvs : List (Key × V)} {ts : List Tab}, KvOk K F kvs ts → KvOk K F' kvs ts
  | _, _, .nil => .nil
  | _, _, .cons h r => .cons (Z.dp_same s h) (r.same s)
theorem KvOk.len : ∀ {kvs : List (Key × V)} {ts : List Tab}, KvOk K F kvs ts → kvs.length = ts.length
  | _, _, .nil => rfl
  | _, _, .cons _ r => by rw [List.length_cons, List.length_cons, r.len]
theorem KvOk.snoc {v : V} {t : Tab} (h : Dp K F v (.tuple (t.2.map pairD))) : ∀ {kvs : List (Key × V)} {ts : List Tab}, KvOk K F kvs ts → KvOk K F (kvs ++ [(.inr t.1, v)]) (ts ++ [t])
  | _, _, .nil => .cons h .nil
  | _, _, .cons h' r => .cons h' (r.snoc h)
theorem KvOk.none {z : Str} : ∀ {kvs : List (Key × V)} {ts : List Tab}, KvOk K F kvs ts → z ∉ ts.map (·.1) → valV kvs (.inr z) = Option.none
  | _, _, .nil, _ => rfl
  | _, _, .cons (t := t) h r, hn => by
    rw [List.map_cons, List.mem_cons, not_or] at hn
    rw [valV_neg (show ¬ (Sum.inr t.1 : Key) = .inr z from fun e => hn.1 (Sum.inr.inj e).symm)]
    exact r.none hn.2
theorem KvOk.some : ∀ {kvs : List (Key × V)} {ts : List Tab} {t : Tab}, KvOk K F kvs ts → (ts.map (·.1)).Nodup → t ∈ ts → ∃ v, valV kvs (.inr t.1) = Option.some v ∧ Dp K F v (.tuple (t.2.map pairD))
  | _, _, t, .cons (t := t') (v := v) h r, nd, m => by
    rw [List.map_cons, List.nodup_cons] at nd
    rcases List.mem_cons.mp m with m | m
    · subst m
      exact ⟨v, valV_pos rfl, h⟩
    · rw [valV_neg (show ¬ (Sum.inr t'.1 : Key) = .inr t.1 from fun e => nd.1 (by rw [Sum.inr.inj e]; exact List.mem_map.mpr ⟨t, m, rfl⟩))]
      exact r.some nd.2 m
theorem KvOk.keys : ∀ {kvs : List (Key × V)} {ts : List Tab}, KvOk K F kvs ts → (kvs.map fun kv => kV kv.1) = ts.map fun t => V.str t.1
  | _, _, .nil => rfl
  | _, _, .cons h r => by rw [List.map_cons, List.map_cons, r.keys]; rfl
theorem put_end {kvs : List (Key × V)} {k : Key} {v : V} (h : valV kvs k = Option.none) : putK kvs k v = kvs ++ [(k, v)] := by
  unfold putK
  rw [valV_any, h]
  rfl
end
theorem ixTv {K : PySem.W.Frag} {H : Hp} {Q : VK} {a : Addr} {xs : List V} {v : V} {i : Nat} (h : SqT K H a xs) (e : xs[i]? = some v) (k : Q v H) : rIxT K (.ref a) (.int (i : Int)) H Q := ⟨a, xs, i, v, rfl, rfl, h, atI_nat e, k⟩
theorem take_nd {α : Type} {f : α → Str} {cs : List α} {c : α} {i : Nat} (nd : (cs.map f).Nodup) (h : cs[i]? = some c) : f c ∉ (cs.take i).map f := by
  rw [← List.take_append_drop i cs, List.map_append, List.nodup_append] at nd
  have m2 : f c ∈ (cs.drop i).map f := List.mem_map.mpr ⟨c, List.mem_of_getElem? (i := 0) (by rw [List.getElem?_drop]; exact h), rfl⟩
  exact fun m => nd.2.2 _ m _ m2 rfl
theorem eqv_pair (a b : Str × Str) : PyData.eqv (pairD a) (pairD b) = decide (a = b) := by
  rw [Bool.eq_iff_iff]
  simp only [pairD, PyData.eqv, PyData.eqvAll, Bool.and_true, Bool.and_eq_true, beq_iff_eq, decide_eq_true_eq]
  exact ⟨fun h => Prod.ext h.1 h.2, fun h => h ▸ ⟨rfl, rfl⟩⟩
theorem any_pair (os : List (Str × Str)) (o : Str × Str) : ((os.map pairD).any fun z => PyData.eqv z (pairD o)) = decide (o ∈ os) := by
  rw [Bool.eq_iff_iff]
  simp only [List.any_map, List.any_eq_true, Function.comp, eqv_pair, decide_eq_true_eq]
  exact ⟨fun ⟨x, h, e⟩ => e ▸ h, fun h => ⟨o, h, rfl⟩⟩
def PairOk (o : Str × Str) : Prop := PyData.strOk o.1 = true ∧ PyData.strOk o.2 = true
theorem lay_pair {o : Str × Str} (h : PairOk o) : PyData.canLay0 (pairD o) = true := by simp only [pairD, PyData.canLay0, PyData.canLayAll0, h.1, h.2, Bool.and_true]
theorem shaped_pair {o : Str × Str} (h : PairOk o) : SeqAt.shaped (pairD o) = true := by
  unfold SeqAt.shaped
  rw [lay_pair h]
  simp [pairD, PyData.depth, PyData.depthAll]
theorem lay_pairs {os : List (Str × Str)} (h : ∀ o ∈ os, PairOk o) : PyData.canLayAll0 (os.map pairD) = true := by
  induction os with
  | nil => simp [PyData.canLayAll0]
  | cons o r ih => rw [List.map_cons, PyData.canLayAll0, lay_pair (h o List.mem_cons_self), ih fun x hx => h x (List.mem_cons_of_mem _ hx)]; rfl
theorem depth_pairs (os : List (Str × Str)) : PyData.depthAll (os.map pairD) ≤ 1 := by
  induction os with
  | nil => simp [PyData.depthAll]
  | cons o r ih =>
    rw [List.map_cons, PyData.depthAll]
    have : PyData.depth (pairD o) = 1 := by simp [pairD, PyData.depth, PyData.depthAll]
    omega
theorem shaped_pairsL {os : List (Str × Str)} (h : ∀ o ∈ os, PairOk o) : SeqAt.shaped (.list (os.map pairD)) = true := by
  unfold SeqAt.shaped
  rw [PyData.canLay0, lay_pairs h, PyData.depth]
  have := depth_pairs os
  simp; omega
theorem shaped_pairsT {os : List (Str × Str)} (h : ∀ o ∈ os, PairOk o) : SeqAt.shaped (.tuple (os.map pairD)) = true := by
  unfold SeqAt.shaped
  rw [PyData.canLay0, lay_pairs h, PyData.depth]
  have := depth_pairs os
  simp; omega
theorem OrdsOk.pair {ts : List Tab} {os : List (Str × Str)} (ok : OrdsOk ts os) (tk : TabsOk ts) : ∀ o ∈ os, Name o.1 ∧ Name o.2 := fun o ho => by
  obtain ⟨t, ht, e1, c, hc, e2⟩ := ok.nm o ho
  obtain ⟨n1, ck⟩ := tk.nm t ht
  exact ⟨e1 ▸ n1, e2 ▸ (ck.nm c (List.mem_of_mem_drop hc)).1⟩
theorem pairOk_of {o : Str × Str} (h : Name o.1 ∧ Name o.2) : PairOk o := ⟨h.1.ok, h.2.ok⟩
theorem cutD_tail (ds : List PyData) (n : Nat) : Z.cutD ds (some (n : Int)) none = ds.drop n := by
  unfold Z.cutD
  rw [HT.sIx_none, HT.sIx_nat]
  by_cases h : n ≤ ds.length
  · rw [Nat.min_eq_left h]
    exact List.take_of_length_le (by rw [List.length_drop]; omega)
  · rw [Nat.min_eq_right (by omega), List.drop_of_length_le (by omega), List.drop_of_length_le (by omega)]
    simp

/-! ### what is accepted -/
def Acc (d : PyData) (cs : List Col) : Prop := (d = .list (cs.map pairD) ∨ d = .tuple (cs.map pairD)) ∧ ColsOk cs
def AccT (d : PyData) (ts : List Tab) : Prop := ∃ tds : List PyData, (d = .list tds ∨ d = .tuple tds) ∧ tds.length = ts.length ∧ (∀ (i : Nat) (e : PyData) (t : Tab), tds[i]? = some e → ts[i]? = some t → ∃ c, e = .tuple [.str t.1, c] ∧ Acc c t.2) ∧ TabsOk ts
def AccO (ts : List Tab) (d : PyData) (os : List (Str × Str)) : Prop := (d = .list (os.map pairD) ∨ d = .tuple (os.map pairD)) ∧ OrdsOk ts os
/-- lengths within bounds, at the top and within -/
def Fit1 : PyData → Prop
  | .str z => z.length ≤ 10000
  | _ => True
def Fit2 : PyData → Prop
  | .tuple ds => ∀ d ∈ ds, Fit1 d
  | _ => True
def Fit3 : PyData → Prop
  | .list ds => ∀ d ∈ ds, Fit1 d ∧ Fit2 d
  | .tuple ds => ∀ d ∈ ds, Fit1 d ∧ Fit2 d
  | _ => True
def Fit4 : PyData → Prop
  | .tuple ds => ∀ d ∈ ds, Fit1 d ∧ Fit3 d
  | _ => True
def Fit5 : PyData → Prop
  | .list ds => ∀ d ∈ ds, Fit4 d
  | .tuple ds => ∀ d ∈ ds, Fit4 d
  | _ => True
theorem fit_small {d : PyData} (h : Fit1 d) : SmallS d := by
  cases d <;> first | exact h | exact True.intro
section
variable {K : PySem.W.Frag} {F H : Hp} {v : V} {d : PyData} {ds : List PyData}
def seqD : PyData → Option (List PyData)
  | .list ds => some ds
  | .tuple ds => some ds
  | _ => none
theorem seq_ty (d : PyData) : (Z.isTy "list" d || Z.isTy "tuple" d) = (seqD d).isSome := by cases d <;> rfl
theorem dx_seq (h : Z.DX K F v d) (e : seqD d = some ds) : ∃ a vs, v = .ref a ∧ (SqL K F a vs ∨ SqT K F a vs) ∧ Z.DXs K F vs ds := by
  cases d with
  | list es => cases e; obtain ⟨a, vs, e, h1, h2⟩ := Z.dx_lst h; exact ⟨a, vs, e, .inl h1, h2⟩
  | tuple es => cases e; obtain ⟨a, vs, e, h1, h2⟩ := Z.dx_tup h; exact ⟨a, vs, e, .inr h1, h2⟩
  | none => cases e
  | bool b => cases e
  | int i => cases e
  | str z => cases e
  | dict kv => cases e
end
def rowOf (lo hi : Int) : Option (List PyData) → Bool
  | some ds => decide (lo ≤ ds.length ∧ (ds.length : Int) ≤ hi)
  | none => false
def sp_is_row_of (K : PySem.W.Frag) (A : Adr) : Sp := fun vs H Q _ => ∃ (v : V) (d : PyData) (lo hi : Int), vs = [v, .int lo, .int hi] ∧ Z.DX K H v d ∧ ∀ H', Same H H' → Q (.bl (rowOf lo hi (seqD d))) H'
theorem ok_is_row_of (T : Txt K mg A) : ∃ fd, FnOk P w K mg base CX0 1 A.f_is_row_of fd ["thing", "least", "most"] (sp_is_row_of K A) ∧ Binds K fd ["thing", "least", "most"] [] := by
  have ⟨fd, F, b⟩ := T.d_is_row_of
  refine ⟨fd, F.ok sc_is_row_of (fun vs H Q E h => ?_) (fun cdv Ar outer s H vs Q E hr h => ?_), b⟩
  · obtain ⟨v, d, lo, hi, rfl, _⟩ := h
    rfl
  · obtain ⟨v, d, lo, hi, rfl, hv, k⟩ := h
    have nd := sc_is_row_of.nd
    have hu := hu_of hr
    refine ⟨_, (pss_one (ps_ret (pe_and (pe_callB call_isiT (by rfl) T.b_isinstance (by decide +kernel) (pa_cons (pv 0) (pa_cons (pe_tup (pa_cons (pe_bltn (v := .ty "list") (u := .type "list") (by rfl) T.b_list (by decide +kernel) rfl) (pa_cons (pe_bltn (v := .ty "tuple") (u := .type "tuple") (by rfl) T.b_tuple (by decide +kernel) rfl) pa_nil))) pa_nil))) (pe_one (pe_chain op_le op_le (pv 1) (pe_callB call_len_seq (by rfl) T.b_len PySem.boot_len (pa_cons (pv 0) pa_nil)) (pv 2)))))), ?_⟩
    simp only [cxOf, Cx.nox, L2.start, List.map_cons, List.map_nil, List.length_cons, List.length_nil, Nat.reduceAdd, Nat.reduceSub, List.replicate, List.cons_append, List.nil_append]
    walk_at "z"
    refine ⟨by simp only [List.length_cons, List.length_nil]; decide, fun p hp => ?_⟩
    have s := Z.same_new (o := .tup [.ty "list", .ty "tuple"]) hp
    walk_at "z"
    refine Z.isiSeqX hv s upd_same ?_
    rw [seq_ty]
    cases e : seqD d with
    | none =>
      rw [e] at k
      walk_at "z"
      exact k _ s
    | some ds =>
      rw [e] at k
      obtain ⟨a, vs, rfl, hq, hds⟩ := dx_seq (Z.dx_same s hv) e
      have hl := Z.dxs_len hds
      walk_at "z"
      refine seqOf_len (Q := Q) hq ?_
      walk_at "z"
      refine Z.iteD (fun h1 => ?_) (fun h1 => ?_)
      · walk_at "z"
        have : Q (.bl (decide (lo ≤ (ds.length : Int) ∧ (ds.length : Int) ≤ hi))) _ := k _ s
        rw [show decide (lo ≤ (ds.length : Int) ∧ (ds.length : Int) ≤ hi) = decide ((vs.length : Int) ≤ hi) from decide_eq_decide.mpr ⟨fun h => by omega, fun h => by omega⟩] at this
        exact this
      · have : Q (.bl (decide (lo ≤ (ds.length : Int) ∧ (ds.length : Int) ≤ hi))) _ := k _ s
        rw [show decide (lo ≤ (ds.length : Int) ∧ (ds.length : Int) ≤ hi) = false from decide_eq_false fun h => h1 (by omega)] at this
        exact this
def pair2 : PyData → Option (PyData × PyData)
  | .tuple [a, b] => some (a, b)
  | _ => none
theorem pair2_some {d a b : PyData} (h : pair2 d = some (a, b)) : d = .tuple [a, b] := by
  match d, h with
  | .tuple [x, y], h => cases h; rfl
def sp_need_pair (K : PySem.W.Frag) (A : Adr) : Sp := fun vs H Q E => ∃ (v : V) (d : PyData), vs = [v] ∧ Z.DX K H v d ∧ (∀ a b, pair2 d = some (a, b) → Q .non H) ∧ (pair2 d = none → E (.ref A.NoSchema) none H)
theorem ok_need_pair (T : Txt K mg A) : ∃ fd, FnOk P w K mg base (L2.CX P w) 1 A.f_need_pair fd ["thing"] (sp_need_pair K A) ∧ Binds K fd ["thing"] [] := by
  have ⟨fd, F, b⟩ := T.d_need_pair
  refine ⟨fd, F.okX sc_need_pair (fun vs H Q E h => ?_) (fun cdv Ar outer s H vs Q E hr h => ?_), b⟩
  · obtain ⟨v, d, rfl, _⟩ := h
    rfl
  · obtain ⟨v, d, rfl, hv, k, kx⟩ := h
    have nd := sc_need_pair.nd
    have hu := hu_of hr
    refine ⟨_, (pss_one (ps_if (PW.pt (pw_or (pt_not (pt_val (pe_callB call_isi (by rfl) T.b_isinstance (by decide +kernel) (pa_cons (pv 0) (pa_cons (pe_bltn (v := .ty "tuple") (u := .type "tuple") (by rfl) T.b_tuple (by decide +kernel) rfl) pa_nil))))) (pw_or1 (pt_cmpR op_ne (pe_callB call_len_seq (by rfl) T.b_len PySem.boot_len (pa_cons (pv 0) pa_nil)) pe_int (nomark _))))) (pss_one (ps_raise rfl (takes_of rfl rfl rfl rfl) (Z.pmk_own0 PySem.F.excBase_ValueError T.xF_NoSchema T.g_NoSchema T.kc_NoSchema (raises_own T.sb_NoSchema T.tb_NoSchema)))) pss_nil)), ?_⟩
    simp only [cxOf, Cx.nox, L2.start, List.map_cons, List.map_nil, List.length_cons, List.length_nil, Nat.reduceAdd, Nat.reduceSub, List.replicate, List.cons_append, List.nil_append]
    walk_at "z"
    refine Z.isiX hv (Same.refl _) (by simp) ?_
    walk_at "z"
    cases hty : Z.isTy "tuple" d with
    | false =>
      walk_at "z"
      exact kx (by cases d <;> first | rfl | exact absurd hty (by simp [Z.isTy, Z.tyN]))
    | true =>
      obtain ⟨ds, rfl⟩ : ∃ ds, d = .tuple ds := by cases d <;> first | exact ⟨_, rfl⟩ | exact absurd hty (by simp [Z.isTy, Z.tyN])
      obtain ⟨a, ys, rfl, g1, g2⟩ := Z.dx_tup hv
      have gl := Z.dxs_len g2
      walk_at "z"
      refine seqOf_len (Q := Q) (.inr g1) ?_
      walk_at "z"
      refine Z.iteN (fun hne => ?_) (fun heq => ?_)
      · walk_at "z"
        refine kx ?_
        match ds, gl with
        | [], _ => rfl
        | [_], _ => rfl
        | [_, _], gl => exact absurd (by rw [gl]; rfl) hne
        | _ :: _ :: _ :: _, _ => rfl
      · have hl2 : ds.length = 2 := by have := V.int.inj heq; omega
        walk_at "z"
        match ds, hl2 with
        | [x, y], _ => exact k x y rfl

theorem pairD_inj {a b : Str × Str} (h : pairD a = pairD b) : a = b := by
  simp only [pairD, PyData.tuple.injEq, List.cons.injEq, PyData.str.injEq, and_true] at h
  exact Prod.ext h.1 h.2
theorem map_pairD_inj {xs ys : List (Str × Str)} (h : xs.map pairD = ys.map pairD) : xs = ys := (List.map_inj_right (fun _ _ e => pairD_inj e)).mp h
theorem seqD_of {d : PyData} {ds es : List PyData} (hs : seqD d = some ds) (h : d = .list es ∨ d = .tuple es) : ds = es := by
  rcases h with rfl | rfl <;> exact (Option.some.inj hs).symm
theorem seqD_to {d : PyData} {ds es : List PyData} (hs : seqD d = some ds) (h : ds = es) : d = .list es ∨ d = .tuple es := by
  subst h
  cases d <;> first | (cases hs; exact .inl rfl) | (cases hs; exact .inr rfl) | cases hs
theorem Acc.seq {d : PyData} {ds : List PyData} {cs : List Col} (h : Acc d cs) (hs : seqD d = some ds) : ds = cs.map pairD := seqD_of hs h.1
theorem Acc.not {d : PyData} {cs : List Col} (h : Acc d cs) : seqD d ≠ none := by
  rcases h.1 with rfl | rfl <;> exact fun e => by cases e
theorem Acc.at {d e : PyData} {ds : List PyData} {cs : List Col} {i : Nat} (h : Acc d cs) (hs : seqD d = some ds) (he : ds[i]? = some e) : ∃ c, cs[i]? = some c ∧ e = pairD c ∧ Name c.1 ∧ Kind c.2 := by
  rw [h.seq hs, List.getElem?_map] at he
  obtain ⟨c, hc, rfl⟩ := Option.map_eq_some_iff.mp he
  exact ⟨c, hc, rfl, h.2.nm c (List.mem_of_getElem? hc)⟩
theorem dx_pair {K : PySem.W.Frag} {F : Hp} {v : V} {c : Str × Str} (h : Z.DX K F v (pairD c)) : Dp K F v (pairD c) := by
  obtain ⟨a, vs, rfl, h1, h2⟩ := Z.dx_tup h
  obtain ⟨v1, v2, rfl, e1, e2⟩ := Z.dxs2 h2
  cases Z.dx_str e1
  cases Z.dx_str e2
  exact .tup h1 (.cons (.str _) (.cons (.str _) .nil))
theorem dx_pairs {K : PySem.W.Frag} {F : Hp} : ∀ {vs : List V} {cs : List (Str × Str)}, Z.DXs K F vs (cs.map pairD) → DpAll K F vs (cs.map pairD)
  | _, [], .nil => .nil
  | _, c :: r, .cons h k => .cons (dx_pair h) (dx_pairs k)
theorem named_str {d : PyData} (h : named d = true) : ∃ z, d = .str z ∧ Name z := by
  cases d <;> first | exact ⟨_, rfl, of_decide_eq_true h⟩ | exact absurd h (by simp [named])
theorem kinded_str {d : PyData} (h : kinded d = true) : ∃ z, d = .str z ∧ Kind z := by
  cases d <;> first | exact ⟨_, rfl, of_decide_eq_true h⟩ | exact absurd h (by simp [kinded])
theorem fit3_seq {d : PyData} {ds : List PyData} (h : Fit3 d) (hs : seqD d = some ds) : ∀ e ∈ ds, Fit1 e ∧ Fit2 e := by
  cases d <;> first | (cases hs; exact h) | cases hs
theorem fit5_seq {d : PyData} {ds : List PyData} (h : Fit5 d) (hs : seqD d = some ds) : ∀ e ∈ ds, Fit4 e := by
  cases d <;> first | (cases hs; exact h) | cases hs
def sp_columns_in (K : PySem.W.Frag) (A : Adr) : Sp := fun vs H Q E => ∃ (F : Hp) (v : V) (d : PyData), vs = [v] ∧ Same F H ∧ Z.DX K F v d ∧ Fit3 d ∧ (∀ cs, Acc d cs → ∀ F' H' r, Z.Gr F H F' H' → Dp K F' r (.tuple (cs.map pairD)) → Q r H') ∧ ((∀ cs, ¬ Acc d cs) → ∀ H', Same H H' → E (.ref A.NoSchema) none H')
theorem ok_columns_in (T : Txt K mg A) : ∃ fd, FnOk P w K mg base (L2.CX P w) 2 A.f_columns_in fd ["thing"] (sp_columns_in K A) ∧ Binds K fd ["thing"] [] := by
  have ⟨fd, F, b⟩ := T.d_columns_in
  refine ⟨fd, F.okX sc_columns_in (fun vs H Q E h => ?_) (fun cdv Ar outer s H vs Q E hr h => ?_), b⟩
  · obtain ⟨F0, v, d, rfl, _⟩ := h
    rfl
  · obtain ⟨F0, v, d, rfl, sm, hv, fit, k, kx⟩ := h
    have nd := sc_columns_in.nd
    have hu := hu_of hr
    have ⟨fd_is_row_of, G_is_row_of, b_is_row_of⟩ := ok_is_row_of (P := P) (w := w) (base := base) T
    have ⟨fd_need_pair, G_need_pair, b_need_pair⟩ := ok_need_pair (P := P) (w := w) (base := base) T
    have ⟨fd_is_kind, G_is_kind, b_is_kind⟩ := ok_is_kind (P := P) (w := w) (base := base) T
    have ⟨fd_is_name, G_is_name, b_is_name⟩ := ok_is_name (P := P) (w := w) (base := base) T
    refine ⟨_, (pss_cons (ps_if (pt_not (pt_val (pe_call G_is_row_of (hr.mono (by decide)) (by rfl) T.g_is_row_of T.d_is_row_of.kp b_is_row_of .nil pass0 (pa_cons (pv 0) (pa_cons pe_int (pa_cons (Z.pe_gint rfl T.v_MOST_COLUMNS) pa_nil)))))) (pss_one (ps_raise rfl (takes_of rfl rfl rfl rfl) (Z.pmk_own0 PySem.F.excBase_ValueError T.xF_NoSchema T.g_NoSchema T.kc_NoSchema (raises_own T.sb_NoSchema T.tb_NoSchema)))) pss_nil)
      (pss_cons (ps_set (i := 1) nd rfl (Or.inl rfl) (pe_lst pa_nil))
      (pss_cons (ps_for (passes_of rfl) rfl (Z.pi_seq (pv 0)) (pg_name (i := 2) nd rfl (Or.inl rfl)) (pss_cons (ps_expr (pe_call G_need_pair (hr.mono (by decide)) (by rfl) T.g_need_pair T.d_need_pair.kp b_need_pair .nil (passes_call (takes_of rfl rfl rfl rfl) (fun _ _ _ _ h => h)) (pa_cons (pv 2) pa_nil)))
      (pss_cons (ps_asg (pv 2) (pg_tup rfl (pgs_cons (pg_name (i := 3) nd rfl (Or.inl rfl)) (pgs_cons (pg_name (i := 4) nd rfl (Or.inl rfl)) pgs_nil))))
      (pss_cons (ps_if (PW.pt (pw_or (pt_not (pt_val (pe_call G_is_name (hr.mono (by decide)) (by rfl) T.g_is_name T.d_is_name.kp b_is_name .nil pass0 (pa_cons (pv 3) pa_nil)))) (pw_or (pt_cmpR op_in_seq (pv 3) (pv 1) (by rfl)) (pw_or1 (pt_not (pt_val (pe_call G_is_kind (hr.mono (by decide)) (by rfl) T.g_is_kind T.d_is_kind.kp b_is_kind .nil pass0 (pa_cons (pv 4) pa_nil)))))))) (pss_one (ps_raise rfl (takes_of rfl rfl rfl rfl) (Z.pmk_own0 PySem.F.excBase_ValueError T.xF_NoSchema T.g_NoSchema T.kc_NoSchema (raises_own T.sb_NoSchema T.tb_NoSchema)))) pss_nil)
      (pss_one (ps_expr (pe_bm PySem.F.plainAttrs_list PySem.F.slot_list_append PySem.F.type_list_append mt_append (pv 1) (pa_cons (pv 3) pa_nil))))))))
      (pss_one (ps_ret (pe_callTy call_tuple_of (by rfl) T.b_tuple (by decide +kernel) (pa_cons (pv 0) pa_nil))))))), ?_⟩
    simp only [cxOf, Cx.nox, L2.start, List.map_cons, List.map_nil, List.length_cons, List.length_nil, Nat.reduceAdd, Nat.reduceSub, List.replicate, List.cons_append, List.nil_append]
    walk_at "z"
    refine ⟨v, d, 1, 4, rfl, Z.dx_same sm hv, fun H1 s1 => ?_⟩
    cases hs : seqD d with
    | none =>
      walk_at "z"
      exact kx (fun cs h => h.not hs) _ s1
    | some ds =>
    have W1 := (Z.Ws.init sm).exts s1
    obtain ⟨a, xs, rfl, hq, hds⟩ := dx_seq hv hs
    have hl := Z.dxs_len hds
    have fit' := fit3_seq fit hs
    have bad : ∀ {i : Nat} {e : PyData}, ds[i]? = some e → (∀ c : Col, e = pairD c → Name c.1 → Kind c.2 → False) → ∀ cs, ¬ Acc d cs := fun he hno cs h => by
      obtain ⟨c, _, e, h1, h2⟩ := h.at hs he
      exact hno c e h1 h2
    by_cases hb : (1 : Int) ≤ ds.length ∧ (ds.length : Int) ≤ 4
    · rw [show rowOf 1 4 (some ds) = true from decide_eq_true hb]
      walk_at "z"
      refine ⟨by simp only [List.length_cons, List.length_nil]; decide, fun q hq1 => ?_⟩
      have W2 := W1.new (o := .lst []) hq1
      generalize upd H1 q (.lst []) = H2 at W2 ⊢
      walk_at "z"
      refine Z.forSqD (hq.imp (W2.fh.seq ·) (Z.seqT W2.fh ·)) (fun i σ H' => (∃ v2 v3 v4, σ = [some (.ref a), some (.ref q), v2, v3, v4]) ∧ ∃ cs' : List Col, Z.Ws [(q, .lst ((cs'.map (·.1)).map .str))] F0 H F0 H' ∧ ds.take i = cs'.map pairD ∧ (∀ c ∈ cs', Name c.1 ∧ Kind c.2) ∧ (cs'.map (·.1)).Nodup)
        ⟨⟨_, _, _, rfl⟩, [], W2, rfl, (fun c h => nomatch h), List.nodup_nil⟩ hq (fun i σ H' ⟨_, _, W, _⟩ => W.fh) ?_ ?_
      · rintro i x σ H' hx ⟨⟨v2, v3, v4, rfl⟩, cs', W, et, hnm, hnd⟩
        obtain ⟨e, he, hxe⟩ := Z.dxs_ix hds hx
        have fe := fit' e (List.mem_of_getElem? he)
        have bad := fun h => bad (i := i) he h
        walk_at "z"
        refine ⟨x, e, rfl, Z.dx_same W.fh hxe, fun ea eb hp => ?_, fun hp => kx (bad fun c hc _ _ => by rw [hc] at hp; cases hp) _ W.same⟩
        have ee := pair2_some hp
        subst ee
        walk_at "z"
        refine Z.gtupX hxe W.fh fun ys hys => ?_
        obtain ⟨x1, x2, rfl, hx1, hx2⟩ := Z.dxs2 hys
        walk_at "z"
        refine ⟨x1, ea, rfl, Z.dx_same W.fh hx1, fit_small (fe.2 ea (by simp)), ?_⟩
        cases hna : named ea with
        | false =>
          walk_at "z"
          exact kx (bad fun c hc h1 _ => by
            simp only [pairD, PyData.tuple.injEq, List.cons.injEq, and_true] at hc
            rw [hc.1] at hna
            exact absurd h1 (of_decide_eq_false hna)) _ W.same
        | true =>
          obtain ⟨z, rfl, hz⟩ := named_str hna
          cases Z.dx_str hx1
          walk_at "z"
          refine ⟨q, _, rfl, .inl (SqL.of (W.at 0 rfl)), rfl, flat_str _, ?_⟩
          rw [inV_str]
          by_cases hin : z ∈ cs'.map (·.1)
          · rw [decide_eq_true hin]
            walk_at "z"
            refine kx (fun cs h => ?_) _ W.same
            have e2 := h.seq hs
            rw [e2, ← List.map_take] at et
            have e3 := map_pairD_inj et
            rw [e2, List.getElem?_map] at he
            obtain ⟨c, hc, ec⟩ := Option.map_eq_some_iff.mp he
            simp only [pairD, PyData.tuple.injEq, List.cons.injEq, and_true, PyData.str.injEq] at ec
            have := take_nd h.2.nd hc
            rw [e3, ec.1] at this
            exact this hin
          · rw [decide_eq_false hin]
            walk_at "z"
            refine ⟨x2, eb, rfl, Z.dx_same W.fh hx2, fun H3 s3 => ?_⟩
            have W3 := W.exts s3
            cases hkb : kinded eb with
            | false =>
              walk_at "z"
              exact kx (bad fun c hc _ h2 => by
                simp only [pairD, PyData.tuple.injEq, List.cons.injEq, and_true] at hc
                rw [hc.2] at hkb
                exact absurd h2 (of_decide_eq_false hkb)) _ W3.same
            | true =>
              obtain ⟨y, rfl, hy⟩ := kinded_str hkb
              walk_at "z"
              refine ⟨.inl ⟨rfl, _, SqL.of (W3.at 0 rfl)⟩, ?_⟩
              walk_at "z"
              have ln : cs'.length = (ds.take i).length := by rw [et, List.length_map]
              rw [List.length_take] at ln
              refine Z.appW W3 0 rfl (fun H4 W4 => ?_) (by simp; omega)
              walk_at "z"
              refine ⟨⟨_, _, _, rfl⟩, cs' ++ [(z, y)], ?_, ?_, ?_, ?_⟩
              · rw [List.map_append, List.map_append]
                exact W4
              · rw [List.take_add_one, he, et, List.map_append]
                rfl
              · intro c hc
                rcases List.mem_append.mp hc with h | h
                · exact hnm c h
                · rw [List.mem_singleton.mp h]; exact ⟨hz, hy⟩
              · rw [List.map_append, List.nodup_append]
                exact ⟨hnd, by simp, fun a ha b hb e => by
                  rw [List.map_cons, List.map_nil, List.mem_singleton] at hb
                  rw [e, hb] at ha
                  exact hin ha⟩
      · rintro σ H' ⟨⟨v2, v3, v4, rfl⟩, cs', W, et, hnm, hnd⟩
        rw [List.take_of_length_le (by omega)] at et
        have hln : ds.length = cs'.length := by rw [et, List.length_map]
        have cok : ColsOk cs' := ⟨by omega, by omega, hnm, hnd⟩
        have hds' : DpAll K F0 xs (cs'.map pairD) := dx_pairs (by rw [← et]; exact hds)
        have hacc : Acc d cs' := ⟨seqD_to hs et, cok⟩
        walk_at "z"
        refine ⟨a, xs, rfl, ?_⟩
        rcases hq with hq | hq
        · refine .inl ⟨W.fh.seq hq, fun p hp => ?_⟩
          have W5 := W.dat (o := .tup xs) hp
          exact k cs' hacc _ _ _ W5.g (.tup (SqT.of upd_same) (Z.dpa_same (Z.same_new (W.freeF hp)) hds'))
        · exact .inr ⟨Z.seqT W.fh hq, k cs' hacc _ _ _ W.g (.tup hq hds')⟩
    · rw [show rowOf 1 4 (some ds) = false from decide_eq_false hb]
      walk_at "z"
      refine kx (fun cs h => hb ?_) _ s1
      have := h.seq hs
      have l := h.2.lo
      have l2 := h.2.hi
      rw [this, List.length_map]
      omega

def sp_tables_in (K : PySem.W.Frag) (A : Adr) : Sp := fun vs H Q E => ∃ (F : Hp) (v : V) (d : PyData), vs = [v] ∧ Same F H ∧ Z.DX K F v d ∧ Fit5 d ∧ (∀ ts, AccT d ts → ∀ F' H' q kvs, Z.Ws [(q, .dK kvs)] F H F' H' → KvOk K F' kvs ts → Q (.ref q) H') ∧ ((∀ ts, ¬ AccT d ts) → ∀ H', Same H H' → E (.ref A.NoSchema) none H')
theorem AccT.not {d : PyData} {ts : List Tab} (h : AccT d ts) : seqD d ≠ none := by
  obtain ⟨tds, h, _⟩ := h
  rcases h with rfl | rfl <;> exact fun e => by cases e
theorem AccT.at {d e : PyData} {ds : List PyData} {ts : List Tab} {i : Nat} (h : AccT d ts) (hs : seqD d = some ds) (he : ds[i]? = some e) : ∃ t c, ts[i]? = some t ∧ e = .tuple [.str t.1, c] ∧ Acc c t.2 ∧ Name t.1 := by
  obtain ⟨tds, h1, h2, h3, h4⟩ := h
  have := seqD_of hs h1
  subst this
  have hl := (List.getElem?_eq_some_iff.mp he).1
  have ht : ts[i]? = some (ts[i]'(by omega)) := List.getElem?_eq_getElem _
  obtain ⟨c, e1, e2⟩ := h3 i e _ he ht
  exact ⟨_, c, ht, e1, e2, (h4.nm _ (List.mem_of_getElem? ht)).1⟩
theorem ok_tables_in (T : Txt K mg A) : ∃ fd, FnOk P w K mg base (L2.CX P w) 3 A.f_tables_in fd ["thing"] (sp_tables_in K A) ∧ Binds K fd ["thing"] [] := by
  have ⟨fd, F, b⟩ := T.d_tables_in
  refine ⟨fd, F.okX sc_tables_in (fun vs H Q E h => ?_) (fun cdv Ar outer s H vs Q E hr h => ?_), b⟩
  · obtain ⟨F0, v, d, rfl, _⟩ := h
    rfl
  · obtain ⟨F0, v, d, rfl, sm, hv, fit, k, kx⟩ := h
    have nd := sc_tables_in.nd
    have hu := hu_of hr
    have ⟨fd_is_row_of, G_is_row_of, b_is_row_of⟩ := ok_is_row_of (P := P) (w := w) (base := base) T
    have ⟨fd_need_pair, G_need_pair, b_need_pair⟩ := ok_need_pair (P := P) (w := w) (base := base) T
    have ⟨fd_is_name, G_is_name, b_is_name⟩ := ok_is_name (P := P) (w := w) (base := base) T
    have ⟨fd_columns_in, G_columns_in, b_columns_in⟩ := ok_columns_in (P := P) (w := w) (base := base) T
    refine ⟨_, (pss_cons (ps_if (pt_not (pt_val (pe_call G_is_row_of (hr.mono (by decide)) (by rfl) T.g_is_row_of T.d_is_row_of.kp b_is_row_of .nil pass0 (pa_cons (pv 0) (pa_cons pe_int (pa_cons (Z.pe_gint rfl T.v_MOST_TABLES) pa_nil)))))) (pss_one (ps_raise rfl (takes_of rfl rfl rfl rfl) (Z.pmk_own0 PySem.F.excBase_ValueError T.xF_NoSchema T.g_NoSchema T.kc_NoSchema (raises_own T.sb_NoSchema T.tb_NoSchema)))) pss_nil)
      (pss_cons (ps_set (i := 1) nd rfl (Or.inl rfl) pe_dnewK)
      (pss_cons (ps_for (passes_of rfl) rfl (Z.pi_seq (pv 0)) (pg_name (i := 2) nd rfl (Or.inl rfl)) (pss_cons (ps_expr (pe_call G_need_pair (hr.mono (by decide)) (by rfl) T.g_need_pair T.d_need_pair.kp b_need_pair .nil (passes_call (takes_of rfl rfl rfl rfl) (fun _ _ _ _ h => h)) (pa_cons (pv 2) pa_nil)))
      (pss_cons (ps_if (PW.pt (pw_or (pt_not (pt_val (pe_call G_is_name (hr.mono (by decide)) (by rfl) T.g_is_name T.d_is_name.kp b_is_name .nil pass0 (pa_cons (pe_ix ix_tup (pv 2) pe_int (fun _ _ => rfl)) pa_nil)))) (pw_or1 (pt_cmp (pc_din hu (pe_ix ix_tup (pv 2) pe_int (fun _ _ => rfl)) (pv 1)))))) (pss_one (ps_raise rfl (takes_of rfl rfl rfl rfl) (Z.pmk_own0 PySem.F.excBase_ValueError T.xF_NoSchema T.g_NoSchema T.kc_NoSchema (raises_own T.sb_NoSchema T.tb_NoSchema)))) pss_nil)
      (pss_one (ps_dput hu (pv 1) (pe_ix ix_tup (pv 2) pe_int (fun _ _ => rfl)) (pe_call G_columns_in (hr.mono (by decide)) (by rfl) T.g_columns_in T.d_columns_in.kp b_columns_in .nil (passes_call (takes_of rfl rfl rfl rfl) (fun _ _ _ _ h => h)) (pa_cons (pe_ix ix_tup (pv 2) pe_int (fun _ _ => rfl)) pa_nil)) rfl)))))
      (pss_one (ps_ret (pv 1)))))), ?_⟩
    simp only [cxOf, Cx.nox, L2.start, List.map_cons, List.map_nil, List.length_cons, List.length_nil, Nat.reduceAdd, Nat.reduceSub, List.replicate, List.cons_append, List.nil_append]
    walk_at "z"
    refine ⟨v, d, 1, 4, rfl, Z.dx_same sm hv, fun H1 s1 => ?_⟩
    cases hs : seqD d with
    | none =>
      walk_at "z"
      exact kx (fun cs h => h.not hs) _ s1
    | some ds =>
    have W1 := (Z.Ws.init sm).exts s1
    obtain ⟨a, xs, rfl, hq, hds⟩ := dx_seq hv hs
    have hl := Z.dxs_len hds
    have fit' := fit5_seq fit hs
    have bad : ∀ {i : Nat} {e : PyData}, ds[i]? = some e → (∀ (z : Str) (c : PyData) (cs : List Col), e = .tuple [.str z, c] → Acc c cs → Name z → False) → ∀ ts, ¬ AccT d ts := fun he hno ts h => by
      obtain ⟨t, c, _, e, h1, h2⟩ := h.at hs he
      exact hno t.1 c t.2 e h1 h2
    by_cases hb : (1 : Int) ≤ ds.length ∧ (ds.length : Int) ≤ 4
    · rw [show rowOf 1 4 (some ds) = true from decide_eq_true hb]
      walk_at "z"
      intro q hq1
      have W2 := W1.new (o := .dK []) hq1
      generalize upd H1 q (.dK []) = H2 at W2 ⊢
      walk_at "z"
      refine Z.forSqD (hq.imp (W2.fh.seq ·) (Z.seqT W2.fh ·)) (fun i σ H' => (∃ v2, σ = [some (.ref a), some (.ref q), v2]) ∧ ∃ F' kvs ts', Z.Ws [(q, .dK kvs)] F0 H F' H' ∧ Same F0 F' ∧ KvOk K F' kvs ts' ∧ ts'.length = min i ds.length ∧
          (∀ (j : Nat) (e : PyData) (t : Tab), ds[j]? = some e → ts'[j]? = some t → ∃ c, e = .tuple [.str t.1, c] ∧ Acc c t.2) ∧ (∀ t ∈ ts', Name t.1) ∧ (ts'.map (·.1)).Nodup)
        ⟨⟨_, rfl⟩, F0, [], [], W2, Same.refl _, .nil, by simp, (fun j e t _ h => by simp at h), (fun c h => nomatch h), List.nodup_nil⟩ hq (fun i σ H' ⟨_, _, _, _, W, s, _⟩ => s.trans W.fh) ?_ ?_
      · rintro i x σ H' hx ⟨⟨v2, rfl⟩, F1, kvs, ts', W, sF, kv, tl, hpre, hnm, hnd⟩
        obtain ⟨e, he, hxe⟩ := Z.dxs_ix hds hx
        have hxe := Z.dx_same sF hxe
        have hil := (List.getElem?_eq_some_iff.mp he).1
        have fe := fit' e (List.mem_of_getElem? he)
        have bad := fun h => bad (i := i) he h
        walk_at "z"
        refine ⟨x, e, rfl, Z.dx_same W.fh hxe, fun ea eb hp => ?_, fun hp => kx (bad fun z c cs hc _ _ => by rw [hc] at hp; cases hp) _ W.same⟩
        have ee := pair2_some hp
        subst ee
        obtain ⟨y, yx, rfl, hy, hyx⟩ := Z.dx_tup hxe
        obtain ⟨x1, x2, rfl, hx1, hx2⟩ := Z.dxs2 hyx
        have hyH := Z.seqT W.fh hy
        walk_at "z"
        refine ixTv (i := 0) hyH rfl ?_
        walk_at "z"
        refine ⟨x1, ea, rfl, Z.dx_same W.fh hx1, fit_small ((fe ea (by simp)).1), ?_⟩
        cases hna : named ea with
        | false =>
          walk_at "z"
          exact kx (bad fun z c cs hc _ h1 => by
            simp only [PyData.tuple.injEq, List.cons.injEq, and_true] at hc
            rw [hc.1] at hna
            exact absurd h1 (of_decide_eq_false hna)) _ W.same
        | true =>
          obtain ⟨z, rfl, hz⟩ := named_str hna
          cases Z.dx_str hx1
          walk_at "z"
          refine ixTv (i := 0) hyH rfl ?_
          walk_at "z"
          refine dinS (W.at 0 rfl) ?_
          by_cases hin : z ∈ ts'.map (·.1)
          · obtain ⟨t', ht', rfl⟩ := List.mem_map.mp hin
            obtain ⟨w', ew, _⟩ := kv.some hnd ht'
            rw [ew]
            walk_at "z"
            refine kx (fun ts h => ?_) _ W.same
            obtain ⟨j, hj⟩ := List.mem_iff_getElem?.mp ht'
            have hjl := (List.getElem?_eq_some_iff.mp hj).1
            have hdj : ds[j]? = some (ds[j]'(by omega)) := List.getElem?_eq_getElem _
            obtain ⟨c1, e1, _⟩ := hpre j _ t' hdj hj
            obtain ⟨t1, c2, g1, e2, _, _⟩ := h.at hs hdj
            obtain ⟨t2, c3, g2, e3, _, _⟩ := h.at hs he
            rw [e2] at e1
            simp only [PyData.tuple.injEq, List.cons.injEq, and_true, PyData.str.injEq] at e1 e3
            obtain ⟨_, _, _, _, tk⟩ := h
            have n1 : (ts.map (·.1))[j]? = some t'.1 := by rw [List.getElem?_map, g1, ← e1.1]; rfl
            have n2 : (ts.map (·.1))[i]? = some t'.1 := by rw [List.getElem?_map, g2, e3.1]; rfl
            have := nd_ix tk.nd n1 n2
            omega
          · rw [kv.none hin]
            walk_at "z"
            refine ixTv (i := 1) hyH rfl ?_
            walk_at "z"
            refine ⟨F1, x2, eb, rfl, W.fh, hx2, (fe eb (by simp)).2, fun cs hcs F2 H3 r g2 hr => ?_, fun hno H3 s3 => kx (bad fun z' c cs hc h1 _ => by
              simp only [PyData.tuple.injEq, List.cons.injEq, and_true] at hc
              rw [← hc.2] at h1
              exact hno cs h1) _ (W.exts s3).same⟩
            have W3 := W.ext g2
            have hyH3 := Z.seqT g2.h hyH
            walk_at "z"
            refine ixTv (i := 0) hyH3 rfl ?_
            have kl := kv.len
            refine dputS (W3.at 0 rfl) (by omega) ?_
            walk_at "z"
            refine ⟨⟨_, rfl⟩, F2, _, ts' ++ [(z, cs)], W3.set 0 rfl _, sF.trans g2.f, ?_, ?_, ?_, ?_, ?_⟩
            · rw [put_end (kv.none hin)]
              exact (kv.same g2.f).snoc (t := (z, cs)) hr
            · rw [List.length_append]
              show ts'.length + 1 = _
              omega
            · intro j e' t' hj ht'
              by_cases hji : j < ts'.length
              · rw [List.getElem?_append_left hji] at ht'
                exact hpre j e' t' hj ht'
              · have hjl := (List.getElem?_eq_some_iff.mp ht').1
                rw [List.length_append] at hjl
                have : j = i := by simp at hjl; omega
                subst this
                rw [he] at hj
                cases hj
                rw [List.getElem?_append_right (by omega), show j - ts'.length = 0 by omega] at ht'
                cases ht'
                exact ⟨eb, rfl, hcs⟩
            · intro t ht
              rcases List.mem_append.mp ht with h | h
              · exact hnm t h
              · rw [List.mem_singleton.mp h]; exact hz
            · rw [List.map_append, List.nodup_append]
              exact ⟨hnd, by simp, fun a ha b hb e => by
                rw [List.map_cons, List.map_nil, List.mem_singleton] at hb
                rw [e, hb] at ha
                exact hin ha⟩
      · rintro σ H' ⟨⟨v2, rfl⟩, F1, kvs, ts', W, sF, kv, tl, hpre, hnm, hnd⟩
        rw [hl, Nat.min_self] at tl
        have hok : TabsOk ts' := ⟨by omega, by omega, fun t ht => ⟨hnm t ht, by
          obtain ⟨j, hj⟩ := List.mem_iff_getElem?.mp ht
          have hjl := (List.getElem?_eq_some_iff.mp hj).1
          obtain ⟨c, _, h⟩ := hpre j _ t (List.getElem?_eq_getElem (by omega)) hj
          exact h.2⟩, hnd⟩
        walk_at "z"
        exact k ts' ⟨ds, seqD_to hs rfl, by omega, fun i e t h1 h2 => hpre i e t h1 h2, hok⟩ F1 H' q kvs W kv
    · rw [show rowOf 1 4 (some ds) = false from decide_eq_false hb]
      walk_at "z"
      refine kx (fun ts h => hb ?_) _ s1
      obtain ⟨tds, h1, h2, _, tk⟩ := h
      have := seqD_of hs h1
      have l := tk.lo
      have l2 := tk.hi
      rw [this]
      omega

def sp_orders_in (K : PySem.W.Frag) (A : Adr) : Sp := fun vs H Q E => ∃ (F : Hp) (v : V) (d : PyData) (dd : Addr) (kvs : List (Key × V)) (ts : List Tab), vs = [v, .ref dd] ∧ Same F H ∧ Z.DX K F v d ∧ Fit3 d ∧ H dd = some (.dK kvs) ∧ KvOk K F kvs ts ∧ TabsOk ts ∧
  (∀ os, AccO ts d os → ∀ F' H' r, Z.Gr F H F' H' → Dp K F' r (.tuple (os.map pairD)) → Q r H') ∧ ((∀ os, ¬ AccO ts d os) → ∀ H', Same H H' → E (.ref A.NoSchema) none H')
theorem AccO.seq {d : PyData} {ds : List PyData} {ts : List Tab} {os : List (Str × Str)} (h : AccO ts d os) (hs : seqD d = some ds) : ds = os.map pairD := seqD_of hs h.1
theorem AccO.not {d : PyData} {ts : List Tab} {os : List (Str × Str)} (h : AccO ts d os) : seqD d ≠ none := by
  rcases h.1 with rfl | rfl <;> exact fun e => by cases e
theorem ok_orders_in (T : Txt K mg A) : ∃ fd, FnOk P w K mg base (L2.CX P w) 2 A.f_orders_in fd ["thing", "tables"] (sp_orders_in K A) ∧ Binds K fd ["thing", "tables"] [] := by
  have ⟨fd, F, b⟩ := T.d_orders_in
  refine ⟨fd, F.okX sc_orders_in (fun vs H Q E h => ?_) (fun cdv Ar outer s H vs Q E hr h => ?_), b⟩
  · obtain ⟨F0, v, d, dd, kvs, ts, rfl, _⟩ := h
    rfl
  · obtain ⟨F0, v, d, dd, kvs, ts, rfl, sm, hv, fit, hdk, kv, tk, k, kx⟩ := h
    have nd := sc_orders_in.nd
    have hu := hu_of hr
    have ⟨fd_is_row_of, G_is_row_of, b_is_row_of⟩ := ok_is_row_of (P := P) (w := w) (base := base) T
    have ⟨fd_need_pair, G_need_pair, b_need_pair⟩ := ok_need_pair (P := P) (w := w) (base := base) T
    have ⟨fd_is_name, G_is_name, b_is_name⟩ := ok_is_name (P := P) (w := w) (base := base) T
    refine ⟨_, (pss_cons (ps_if (pt_not (pt_val (pe_call G_is_row_of (hr.mono (by decide)) (by rfl) T.g_is_row_of T.d_is_row_of.kp b_is_row_of .nil pass0 (pa_cons (pv 0) (pa_cons pe_int (pa_cons (Z.pe_gint rfl T.v_MOST_ORDERS) pa_nil)))))) (pss_one (ps_raise rfl (takes_of rfl rfl rfl rfl) (Z.pmk_own0 PySem.F.excBase_ValueError T.xF_NoSchema T.g_NoSchema T.kc_NoSchema (raises_own T.sb_NoSchema T.tb_NoSchema)))) pss_nil)
      (pss_cons (ps_set (i := 2) nd rfl (Or.inl rfl) (pe_lst pa_nil))
      (pss_cons (ps_for (passes_of rfl) rfl (Z.pi_seq (pv 0)) (pg_name (i := 3) nd rfl (Or.inl rfl)) (pss_cons (ps_expr (pe_call G_need_pair (hr.mono (by decide)) (by rfl) T.g_need_pair T.d_need_pair.kp b_need_pair .nil (passes_call (takes_of rfl rfl rfl rfl) (fun _ _ _ _ h => h)) (pa_cons (pv 3) pa_nil)))
      (pss_cons (ps_asg (pv 3) (pg_tup rfl (pgs_cons (pg_name (i := 4) nd rfl (Or.inl rfl)) (pgs_cons (pg_name (i := 5) nd rfl (Or.inl rfl)) pgs_nil))))
      (pss_cons (ps_if (PW.pt (pw_or (pt_not (pt_val (pe_call G_is_name (hr.mono (by decide)) (by rfl) T.g_is_name T.d_is_name.kp b_is_name .nil pass0 (pa_cons (pv 4) pa_nil)))) (pw_or (pt_not (pt_val (pe_call G_is_name (hr.mono (by decide)) (by rfl) T.g_is_name T.d_is_name.kp b_is_name .nil pass0 (pa_cons (pv 5) pa_nil)))) (pw_or (pt_cmp (pc_dnotin hu (pv 4) (pv 1))) (pw_or1 (pt_cmpR (op_inD (Z.hu65 hr)) (pv 3) (pv 2) (by rfl))))))) (pss_one (ps_raise rfl (takes_of rfl rfl rfl rfl) (Z.pmk_own0 PySem.F.excBase_ValueError T.xF_NoSchema T.g_NoSchema T.kc_NoSchema (raises_own T.sb_NoSchema T.tb_NoSchema)))) pss_nil)
      (pss_cons (ps_if (pt_cmpR op_notIn_seq (pv 5) (pe_lc (own := [("name", 6), ("kind", 7)]) rfl nd (pi_tup (pe_slice sl_tupA (pe_dget hu (pv 1) (pv 4) (fun _ _ => rfl)) (po_some pe_int) po_none)) (blkOk_by (own := [("name", 6), ("kind", 7)]) (N := ["thing", "tables", "found", "order", "table", "column", "name", "kind"]) (sc := defScope s_orders_in) (by decide +kernel)) (fun _ _ _ _ _ => (pg_tupK (K := K) (n := 2) rfl rfl (pgs_cons (pg_name (i := 6) nd rfl (Or.inl rfl)) (pgs_cons (pg_name (i := 7) nd rfl (Or.inl rfl)) pgs_nil)))) (fun _ _ _ _ _ => pts_nil) (fun _ _ _ _ _ => (pv 6))) (by rfl)) (pss_one (ps_raise rfl (takes_of rfl rfl rfl rfl) (Z.pmk_own0 PySem.F.excBase_ValueError T.xF_NoSchema T.g_NoSchema T.kc_NoSchema (raises_own T.sb_NoSchema T.tb_NoSchema)))) pss_nil)
      (pss_one (ps_expr (pe_bm PySem.F.plainAttrs_list PySem.F.slot_list_append PySem.F.type_list_append mt_append (pv 2) (pa_cons (pv 3) pa_nil)))))))))
      (pss_one (ps_ret (pe_callTy call_tuple_of (by rfl) T.b_tuple (by decide +kernel) (pa_cons (pv 2) pa_nil))))))), ?_⟩
    simp only [cxOf, Cx.nox, L2.start, List.map_cons, List.map_nil, List.length_cons, List.length_nil, Nat.reduceAdd, Nat.reduceSub, List.replicate, List.cons_append, List.nil_append]
    walk_at "z"
    refine ⟨v, d, 0, 4, rfl, Z.dx_same sm hv, fun H1 s1 => ?_⟩
    cases hs : seqD d with
    | none =>
      walk_at "z"
      exact kx (fun cs h => h.not hs) _ s1
    | some ds =>
    have W1 := (Z.Ws.init sm).exts s1
    obtain ⟨a, xs, rfl, hq, hds⟩ := dx_seq hv hs
    have hl := Z.dxs_len hds
    have fit' := fit3_seq fit hs
    have bad : ∀ {i : Nat} {e : PyData}, ds[i]? = some e → (∀ o : Str × Str, e = pairD o → (∃ t ∈ ts, t.1 = o.1 ∧ ∃ c ∈ t.2.drop 1, c.1 = o.2) → False) → ∀ os, ¬ AccO ts d os := fun he hno os h => by
      rw [h.seq hs, List.getElem?_map] at he
      obtain ⟨o, ho, rfl⟩ := Option.map_eq_some_iff.mp he
      exact hno o rfl (h.2.nm o (List.mem_of_getElem? ho))
    by_cases hb : (0 : Int) ≤ ds.length ∧ (ds.length : Int) ≤ 4
    · rw [show rowOf 0 4 (some ds) = true from decide_eq_true hb]
      walk_at "z"
      refine ⟨by simp only [List.length_cons, List.length_nil]; decide, fun q hq1 => ?_⟩
      have W2 := W1.new (o := .lst []) hq1
      generalize upd H1 q (.lst []) = H2 at W2 ⊢
      walk_at "z"
      refine Z.forSqD (hq.imp (W2.fh.seq ·) (Z.seqT W2.fh ·)) (fun i σ H' => (∃ v3 v4 v5 v6 v7, σ = [some (.ref a), some (.ref dd), some (.ref q), v3, v4, v5, v6, v7]) ∧ ∃ F' os', Z.Ws [(q, .lst (xs.take i))] F0 H F' H' ∧ Same F0 F' ∧ ds.take i = os'.map pairD ∧ (∀ o ∈ os', Name o.1 ∧ Name o.2) ∧ (∀ o ∈ os', ∃ t ∈ ts, t.1 = o.1 ∧ ∃ c ∈ t.2.drop 1, c.1 = o.2) ∧ os'.Nodup)
        ⟨⟨_, _, _, _, _, rfl⟩, F0, [], W2, Same.refl _, rfl, (fun c h => nomatch h), (fun c h => nomatch h), List.nodup_nil⟩ hq (fun i σ H' ⟨_, _, _, W, s, _⟩ => s.trans W.fh) ?_ ?_
      · rintro i x σ H' hx ⟨⟨v3, v4, v5, v6, v7, rfl⟩, F1, os', W, sF, et, hnm, hin, hnd⟩
        obtain ⟨e, he, hxe0⟩ := Z.dxs_ix hds hx
        have hxe := Z.dx_same sF hxe0
        have hil := (List.getElem?_eq_some_iff.mp he).1
        have fe := fit' e (List.mem_of_getElem? he)
        have bad := fun h => bad (i := i) he h
        have hdk' := W.same _ _ hdk
        walk_at "z"
        refine ⟨x, e, rfl, Z.dx_same W.fh hxe, fun ea eb hp => ?_, fun hp => kx (bad fun o hc _ => by rw [hc] at hp; cases hp) _ W.same⟩
        have ee := pair2_some hp
        subst ee
        walk_at "z"
        refine Z.gtupX hxe W.fh fun ys hys => ?_
        obtain ⟨x1, x2, rfl, hx1, hx2⟩ := Z.dxs2 hys
        walk_at "z"
        refine ⟨x1, ea, rfl, Z.dx_same W.fh hx1, fit_small (fe.2 ea (by simp)), ?_⟩
        cases hna : named ea with
        | false =>
          walk_at "z"
          exact kx (bad fun o hc h => by
            simp only [pairD, PyData.tuple.injEq, List.cons.injEq, and_true] at hc
            obtain ⟨t, ht, e1, _⟩ := h
            rw [hc.1, ← e1] at hna
            exact absurd (tk.nm t ht).1 (of_decide_eq_false hna)) _ W.same
        | true =>
        obtain ⟨z, rfl, hz⟩ := named_str hna
        cases Z.dx_str hx1
        walk_at "z"
        refine ⟨x2, eb, rfl, Z.dx_same W.fh hx2, fit_small (fe.2 eb (by simp)), ?_⟩
        cases hnb : named eb with
        | false =>
          walk_at "z"
          exact kx (bad fun o hc h => by
            simp only [pairD, PyData.tuple.injEq, List.cons.injEq, and_true] at hc
            obtain ⟨t, ht, _, c, hcm, e2⟩ := h
            rw [hc.2, ← e2] at hnb
            exact absurd ((tk.nm t ht).2.nm c (List.mem_of_mem_drop hcm)).1 (of_decide_eq_false hnb)) _ W.same
        | true =>
        obtain ⟨y, rfl, hy⟩ := named_str hnb
        cases Z.dx_str hx2
        walk_at "z"
        refine dinS hdk' ?_
        by_cases htz : z ∈ ts.map (·.1)
        · obtain ⟨t, htm, et1⟩ := List.mem_map.mp htz
          obtain ⟨w', ew, hw'⟩ := kv.some tk.nd htm
          rw [et1] at ew
          rw [ew]
          walk_at "z"
          have hxp : Dp K F1 x (pairD (z, y)) := dx_pair hxe
          have hot : DpAll K F0 (xs.take i) (os'.map pairD) := dx_pairs (by rw [← et]; exact Z.dxs_take i hds)
          refine ⟨_, _, Z.dp_same W.fh hxp, .lst (SqL.of (W.at 0 rfl)) (Z.dpa_same (sF.trans W.fh) hot), shaped_pair (pairOk_of ⟨hz, hy⟩), shaped_pairsL (fun o h => pairOk_of (hnm o h)), ?_⟩
          rw [any_pair]
          by_cases hino : (z, y) ∈ os'
          · rw [decide_eq_true hino]
            walk_at "z"
            refine kx (fun os h => ?_) _ W.same
            have e2 := h.seq hs
            rw [e2, ← List.map_take] at et
            have e3 := map_pairD_inj et
            rw [e2, List.getElem?_map] at he
            obtain ⟨o, ho, eo⟩ := Option.map_eq_some_iff.mp he
            have eo' : o = (z, y) := pairD_inj eo
            subst eo'
            have nd := h.2.nd
            rw [← List.take_append_drop i os, List.nodup_append] at nd
            exact nd.2.2 (z, y) (by rw [e3]; exact hino) (z, y) (List.mem_of_getElem? (i := 0) (by rw [List.getElem?_drop]; exact ho)) rfl
          · rw [decide_eq_false hino]
            walk_at "z"
            refine dgetS hdk' ew ?_
            walk_at "z"
            refine Z.slT W (Z.dp_same sF hw') fun r F2 H2 W3 s2 hr => ?_
            rw [show Z.cutD (List.map pairD t.2) (some 1) none = (List.map pairD t.2).drop 1 from cutD_tail _ 1, List.drop_one, ← List.map_tail] at hr
            obtain ⟨ra, rx, rfl, hr1, hr2⟩ := Z.dp_tup hr
            refine ⟨ra, rfl, ⟨_, Z.seqT W3.fh hr1⟩, fun D hD => ?_⟩
            refine lc_it walk_tup (Z.LcP K D _ F0 H F2 (t.2.tail.map fun c => .str c.1)) (Z.lc0 W3 hD) (fun i H' hi ⟨F', vs, W, s, _⟩ => Z.seqT (s.trans W.fh) hr1) ?_ ?_
            · rintro j x H3 H4 hj ⟨F3, vs, W4, s4, ha⟩ ⟨rfl, hx⟩
              obtain ⟨dd, e1, e2⟩ := Z.dpa_ix hr2 hx
              rw [List.getElem?_map] at e1
              obtain ⟨c', hc', rfl⟩ := Option.map_eq_some_iff.mp e1
              have e2 := Z.dp_same s4 e2
              refine Z.gtupD e2 W4.fh fun ys hys => ?_
              obtain ⟨x1, x2, rfl, hx1, hx2⟩ := Z.dpa2 hys
              cases Z.dp_str hx1
              cases Z.dp_str hx2
              walk_at "z"
              refine ⟨rfl, ?_⟩
              walk_at "z"
              exact Z.lcS W4 s4 ha (by rw [List.getElem?_map, hc']; rfl) (.str _) (by rw [List.length_map, List.length_tail]; have := (tk.nm t htm).2.hi; omega)
            · rintro H3 ⟨F3, vs, W4, s4, ha⟩
              have hlen : rx.length = (t.2.tail.map fun c => PyData.str c.1).length := by rw [Z.dpa_len hr2, List.length_map, List.length_map]
              rw [hlen, List.take_length] at ha
              have ha : DpAll K F3 vs ((t.2.tail.map fun c => c.1).map PyData.str) := by rw [List.map_map]; exact ha
              cases Z.dpa_strs ha
              refine ⟨D, _, rfl, .inl (SqL.of (W4.at 0 rfl)), rfl, flat_str _, ?_⟩
              rw [inV_str]
              by_cases hyc : y ∈ t.2.tail.map (·.1)
              · rw [decide_eq_true hyc]
                walk_at "z"
                refine ⟨.inl ⟨rfl, _, SqL.of (W4.at 1 rfl)⟩, ?_⟩
                walk_at "z"
                refine Z.appW W4 1 rfl (fun H3 W5 => ?_) (by rw [List.length_take]; omega)
                walk_at "z"
                refine ⟨⟨_, _, _, _, _, rfl⟩, F3, os' ++ [(z, y)], ?_, sF.trans (s2.trans s4), ?_, ?_, ?_, ?_⟩
                · rw [List.take_add_one, hx]
                  exact W5.pick [1] (by decide) rfl
                · rw [List.take_add_one, he, et, List.map_append]
                  rfl
                · intro o ho
                  rcases List.mem_append.mp ho with h | h
                  · exact hnm o h
                  · rw [List.mem_singleton.mp h]; exact ⟨hz, hy⟩
                · intro o ho
                  rcases List.mem_append.mp ho with h | h
                  · exact hin o h
                  · rw [List.mem_singleton.mp h]
                    obtain ⟨c, hc, ec⟩ := List.mem_map.mp hyc
                    exact ⟨t, htm, et1, c, by rw [List.drop_one]; exact hc, ec⟩
                · rw [List.nodup_append]
                  exact ⟨hnd, by simp, fun a ha b hb e => by
                    rw [List.mem_singleton] at hb
                    rw [e, hb] at ha
                    exact hino ha⟩
              · rw [decide_eq_false hyc]
                walk_at "z"
                exact kx (bad fun o hc h => by
                  have ho : o = (z, y) := (pairD_inj (a := (z, y)) (b := o) hc).symm
                  subst ho
                  obtain ⟨t', ht', e1, c, hcm, e2⟩ := h
                  have : t' = t := by
                    obtain ⟨j, hj⟩ := List.mem_iff_getElem?.mp ht'
                    obtain ⟨l, hl⟩ := List.mem_iff_getElem?.mp htm
                    have n1 : (ts.map (·.1))[j]? = some z := by rw [List.getElem?_map, hj]; exact congrArg some e1
                    have n2 : (ts.map (·.1))[l]? = some z := by rw [List.getElem?_map, hl]; exact congrArg some et1
                    have := nd_ix tk.nd n1 n2
                    subst this
                    rw [hj] at hl
                    exact Option.some.inj hl
                  subst this
                  exact hyc (List.mem_map.mpr ⟨c, by rw [← List.drop_one]; exact hcm, e2⟩)) _ W4.same
        · rw [kv.none htz]
          walk_at "z"
          exact kx (bad fun o hc h => by
            obtain ⟨t, ht, e1, _⟩ := h
            have ho : o = (z, y) := (pairD_inj (a := (z, y)) (b := o) hc).symm
            subst ho
            exact htz (List.mem_map.mpr ⟨t, ht, e1⟩)) _ W.same
      · rintro σ H' ⟨⟨v3, v4, v5, v6, v7, rfl⟩, F1, os', W, sF, et, hnm, hin, hnd⟩
        rw [List.take_of_length_le (by omega)] at et
        rw [List.take_length] at W
        have hln : ds.length = os'.length := by rw [et, List.length_map]
        have hds' : DpAll K F0 xs (os'.map pairD) := dx_pairs (by rw [← et]; exact hds)
        walk_at "z"
        refine ⟨q, xs, rfl, .inl ⟨SqL.of (W.at 0 rfl), fun p hp => ?_⟩⟩
        have W5 := W.dat (o := .tup xs) hp
        exact k os' ⟨seqD_to hs et, by omega, hin, hnd⟩ _ _ _ W5.g (.tup (SqT.of upd_same) (Z.dpa_same (sF.trans (Z.same_new (W.freeF hp))) hds'))
    · rw [show rowOf 0 4 (some ds) = false from decide_eq_false hb]
      walk_at "z"
      refine kx (fun os h => hb ?_) _ s1
      have := h.seq hs
      have l2 := h.2.hi
      rw [this, List.length_map]
      omega
theorem Acc.one {d : PyData} {a b : List Col} (h1 : Acc d a) (h2 : Acc d b) : a = b := by
  rcases h1.1 with e1 | e1 <;> rcases h2.1 with e2 | e2 <;> rw [e1] at e2 <;> first | exact map_pairD_inj (by simpa using e2) | cases e2
theorem accT_one {d : PyData} {a b : List Tab} (h1 : AccT d a) (h2 : AccT d b) : a = b := by
  obtain ⟨x, x1, x2, x3, _⟩ := h1
  obtain ⟨y, y1, y2, y3, _⟩ := h2
  have e : x = y := by rcases x1 with e1 | e1 <;> rcases y1 with e2 | e2 <;> rw [e1] at e2 <;> first | exact (by simpa using e2) | cases e2
  subst e
  refine List.ext_getElem? fun i => ?_
  by_cases hi : i < x.length
  · have ha : a[i]? = some (a[i]'(by omega)) := List.getElem?_eq_getElem _
    have hb : b[i]? = some (b[i]'(by omega)) := List.getElem?_eq_getElem _
    obtain ⟨c, e1, e2⟩ := x3 i _ _ (List.getElem?_eq_getElem hi) ha
    obtain ⟨c', e3, e4⟩ := y3 i _ _ (List.getElem?_eq_getElem hi) hb
    rw [e1] at e3
    simp only [PyData.tuple.injEq, List.cons.injEq, PyData.str.injEq, and_true] at e3
    rw [← e3.2] at e4
    rw [ha, hb]
    exact congrArg some (Prod.ext e3.1 (e2.one e4))
  · rw [List.getElem?_eq_none (by omega), List.getElem?_eq_none (by omega)]
theorem dx_non {K : PySem.W.Frag} {F : Hp} {v : V} {d : PyData} (h : Z.DX K F v d) : v = .non ↔ d = .none := by
  cases h <;> simp
def sp_Schema___init__ (K : PySem.W.Frag) (A : Adr) : Sp := fun vs H Q E => ∃ (F B : Hp) (x dx : Addr) (v u : V) (td od : PyData), vs = [.ref x, v, u] ∧ Z.Ws [(x, .ins A.Schema dx [])] F B F H ∧ Z.DX K F v td ∧ Fit5 td ∧ Z.DX K F u od ∧ Fit3 od ∧
  (∀ ts os, AccT td ts → ((od = .none ∧ os = []) ∨ (od ≠ .none ∧ AccO ts od os)) → ∀ F' H' q kvs ko, Z.Ws [(x, .ins A.Schema dx (schF q ko)), (q, .dK kvs)] F B F' H' → Same F F' → KvOk K F' kvs ts → Dp K F' ko (.tuple (os.map pairD)) → Q .non H') ∧
  ((∀ ts, AccT td ts → od ≠ .none ∧ ∀ os, ¬ AccO ts od os) → ∀ H', Same B H' → E (.ref A.NoSchema) none H')
theorem ok_Schema___init__ (T : Txt K mg A) : ∃ fd, FnOk P w K mg base (L2.CX P w) 4 A.f_Schema___init__ fd ["self", "tables", "orders"] (sp_Schema___init__ K A) ∧ Binds K fd ["self", "tables", "orders"] [] ∧ ∃ ds, Vals [.non] ds ∧ Binds K fd ["self", "tables", "orders"] ds := by
  have ⟨fd, F, b⟩ := T.d_Schema___init__
  refine ⟨fd, FD.okX F sc_Schema___init__ (fun vs H Q E h => ?_) (fun cdv Ar outer s H vs Q E hr h => ?_), b⟩
  · obtain ⟨F0, B, x, dx, v, u, td, od, rfl, _⟩ := h
    rfl
  · obtain ⟨F0, B, x, dx, v, u, td, od, rfl, W0, ht, ft, ho, fo, k, kx⟩ := h
    have nd := sc_Schema___init__.nd
    have hu := hu_of hr
    have ⟨fd_tables_in, G_tables_in, b_tables_in⟩ := ok_tables_in (P := P) (w := w) (base := base) T
    have ⟨fd_orders_in, G_orders_in, b_orders_in⟩ := ok_orders_in (P := P) (w := w) (base := base) T
    refine ⟨_, (pss_cons (ps_fld (pv 0) (pe_call G_tables_in (hr.mono (by decide)) (by rfl) T.g_tables_in T.d_tables_in.kp b_tables_in .nil (passes_call (takes_of rfl rfl rfl rfl) (fun _ _ _ _ h => h)) (pa_cons (pv 1) pa_nil)) rfl)
      (pss_cons (ps_fld (pv 0) (pe_tup pa_nil) rfl)
      (pss_one (ps_if (pt_cmpR op_notN (pv 2) pe_non (nomark _)) (pss_one (ps_fld (pv 0) (pe_call G_orders_in (hr.mono (by decide)) (by rfl) T.g_orders_in T.d_orders_in.kp b_orders_in .nil (passes_call (takes_of rfl rfl rfl rfl) (fun _ _ _ _ h => h)) (pa_cons (pv 2) (pa_cons (pe_fld (pv 0) rfl) pa_nil))) rfl)) pss_nil)))), ?_⟩
    simp only [cxOf, Cx.nox, L2.start, List.map_cons, List.map_nil, List.length_cons, List.length_nil, Nat.reduceAdd, Nat.reduceSub, List.replicate, List.cons_append, List.nil_append]
    walk_at "z"
    refine ⟨F0, v, td, rfl, W0.fh, ht, ft, fun ts hts F1 H1 d kvs M1 kv => ?_, fun hno H1 s1 => kx (fun ts h => absurd h (hno ts)) _ (W0.same.trans s1)⟩
    have tk : TabsOk ts := by obtain ⟨_, _, _, _, h⟩ := hts; exact h
    have W1 := W0.join M1
    have hx1 : H1 x = some (.ins A.Schema dx []) := W1.at 1 rfl
    walk_at "z"
    have W2 := W1.set 1 rfl (.ins A.Schema dx [("columns", .ref d)])
    generalize upd H1 x (.ins A.Schema dx [("columns", .ref d)]) = H2 at W2 ⊢
    have hx2 : H2 x = some (.ins A.Schema dx [("columns", .ref d)]) := W2.at 1 rfl
    have hd2 : H2 d = some (.dK kvs) := W2.at 0 rfl
    walk_at "z"
    refine ⟨by simp only [List.length_nil]; decide, fun p hp => ?_⟩
    have W3 := W2.dat (o := .tup []) hp
    have sF3 := Z.same_new (o := .tup []) (W2.freeF hp)
    have dk : Dp K (upd F1 p (.tup [])) (.ref p) (.tuple ([].map pairD)) := .tup (SqT.of upd_same) .nil
    generalize upd H2 p (.tup []) = H3 at W3 ⊢
    generalize upd F1 p (.tup []) = F3 at W3 sF3 dk
    have hx3 : H3 x = some (.ins A.Schema dx [("columns", .ref d)]) := W3.at 1 rfl
    walk_at "z"
    have W4 := W3.set 1 rfl (.ins A.Schema dx [("columns", .ref d), ("kept_orders", .ref p)])
    generalize upd H3 x (.ins A.Schema dx [("columns", .ref d), ("kept_orders", .ref p)]) = H4 at W4 ⊢
    have hx4 : H4 x = some (.ins A.Schema dx (schF d (.ref p))) := W4.at 1 rfl
    have hd4 : H4 d = some (.dK kvs) := W4.at 0 rfl
    have kv3 := kv.same sF3
    have s03 := M1.f0.trans sF3
    walk_at "z"
    by_cases hne : u = .non
    · rw [decide_eq_true hne]
      walk_at "z"
      exact k ts [] hts (.inl ⟨(dx_non ho).mp hne, rfl⟩) F3 H4 d kvs _ (W4.pick [1, 0] (by decide) rfl) s03 kv3 dk
    · rw [decide_eq_false hne]
      have hod : od ≠ .none := fun e => hne ((dx_non ho).mpr e)
      walk_at "z"
      refine ⟨F3, u, od, d, kvs, ts, rfl, W4.fh, Z.dx_same s03 ho, fo, hd4, kv3, tk, fun os hos F5 H5 r g5 hr => ?_, fun hno H5 s5 => kx (fun ts' h' => ⟨hod, ?_⟩) _ (W4.same.trans s5)⟩
      · have W5 := W4.ext g5
        have hx5 : H5 x = some (.ins A.Schema dx (schF d (.ref p))) := W5.at 1 rfl
        walk_at "z"
        have W6 := W5.set 1 rfl (.ins A.Schema dx (schF d r))
        exact k ts os hts (.inr ⟨hod, hos⟩) F5 _ d kvs r (W6.pick [1, 0] (by decide) rfl) (s03.trans g5.f) (kv3.same g5.f) hr
      · rw [accT_one h' hts]
        exact hno

/-- a schema that stands -/
def IsSch (K : PySem.W.Frag) (A : Adr) (F : Hp) (v : V) (ts : List Tab) (os : List (Str × Str)) : Prop := ∃ x dx d kvs ko, v = .ref x ∧ F x = some (.ins A.Schema dx (schF d ko)) ∧ F d = some (.dK kvs) ∧ KvOk K F kvs ts ∧ Dp K F ko (.tuple (os.map pairD)) ∧ TabsOk ts ∧ OrdsOk ts os
theorem IsSch.same {K : PySem.W.Frag} {A : Adr} {F F' : Hp} {v : V} {ts : List Tab} {os : List (Str × Str)} (h : IsSch K A F v ts os) (s : Same F F') : IsSch K A F' v ts os := by
  obtain ⟨x, dx, d, kvs, ko, e, h1, h2, h3, h4, h5⟩ := h
  exact ⟨x, dx, d, kvs, ko, e, s _ _ h1, s _ _ h2, h3.same s, Z.dp_same s h4, h5⟩

def sp_Schema_table_names (K : PySem.W.Frag) (A : Adr) : Sp := fun vs H Q _ => ∃ (F : Hp) (v : V) (ts : List Tab) (os : List (Str × Str)), vs = [v] ∧ Same F H ∧ IsSch K A F v ts os ∧ ∀ H' p, Z.Ws [(p, .lst (ts.map fun t => .str t.1))] F H F H' → Q (.ref p) H'
theorem ok_Schema_table_names (T : Txt K mg A) : ∃ fd, FnOk P w K mg base CX0 1 A.f_Schema_table_names fd ["self"] (sp_Schema_table_names K A) ∧ Binds K fd ["self"] [] := by
  have ⟨fd, F, b⟩ := T.d_Schema_table_names
  refine ⟨fd, F.ok sc_Schema_table_names (fun vs H Q E h => ?_) (fun cdv Ar outer s H vs Q E hr h => ?_), b⟩
  · obtain ⟨F0, v, ts, os, rfl, _⟩ := h
    rfl
  · obtain ⟨F0, v, ts, os, rfl, sm, hs, k⟩ := h
    have nd := sc_Schema_table_names.nd
    have hu := hu_of hr
    refine ⟨_, (pss_one (ps_ret (pe_callTy (call_listD rfl) (by rfl) T.b_list (by decide +kernel) (pa_cons (pe_fld (pv 0) rfl) pa_nil)))), ?_⟩
    simp only [cxOf, Cx.nox, L2.start, List.map_cons, List.map_nil, List.length_cons, List.length_nil, Nat.reduceAdd, Nat.reduceSub, List.replicate, List.cons_append, List.nil_append]
    obtain ⟨x, dx, d, kvs, ko, rfl, hx, hd, kv, hk, tk, ok⟩ := hs
    have hx' := sm _ _ hx
    have hd' := sm _ _ hd
    walk_at "z"
    refine ⟨d, kvs, rfl, .inl hd', fun p hp => ?_⟩
    rw [kv.keys]
    exact k _ p ((Z.Ws.init sm).new hp)

/-! ### the law's schema -/
def tabD (t : Tab) : PyData := .tuple [.str t.1, .list (t.2.map pairD)]
def ValD (kd : Str) (d : PyData) : Prop := (kd = "word" ∧ ∃ z, d = .str z ∧ Name z) ∨ (kd = "number" ∧ ∃ i, d = .int i ∧ -(10 ^ 9) ≤ i ∧ i ≤ 10 ^ 9)
def sp_law_value (K : PySem.W.Frag) (A : Adr) : Sp := fun vs H Q _ => ∃ (F : Hp) (kd : Str) (c : Int), vs = [.str kd, .int c] ∧ Same F H ∧ Kind kd ∧ 0 ≤ c ∧ ∀ F' H' v d, Z.Gr F H F' H' → Dp K F' v d → ValD kd d → Q v H'
theorem ok_law_value (T : Txt K mg A) : ∃ fd, FnOk P w K mg base CX0 3 A.f_law_value fd ["_law_kind", "_law_draw"] (sp_law_value K A) ∧ Binds K fd ["_law_kind", "_law_draw"] [] := by
  have ⟨fd, F, b⟩ := T.d_law_value
  refine ⟨fd, F.ok sc_law_value (fun vs H Q E h => ?_) (fun cdv Ar outer s H vs Q E hr h => ?_), b⟩
  · obtain ⟨F0, kd, c, rfl, _⟩ := h
    rfl
  · obtain ⟨F0, kd, c, rfl, sm, hk, hc, k⟩ := h
    have nd := sc_law_value.nd
    have hu := hu_of hr
    have ⟨fd_law_names, G_law_names, b_law_names⟩ := ok_law_names (P := P) (w := w) (base := base) T
    refine ⟨_, (pss_cons (ps_if (pt_cmpR op_eq (pv 0) pe_str (nomark _)) (pss_one (ps_ret (pe_ix ix_list (pe_call G_law_names (hr.mono (by decide)) (by rfl) T.g_law_names T.d_law_names.kp b_law_names .nil pass0 (pa_cons (pe_op op_fdivW (pv 1) pe_int) (pa_cons (pe_op op_add pe_int (pe_op op_mod (pv 1) pe_int)) pa_nil))) (pe_op op_mod (pv 1) pe_int) (fun _ _ => rfl)))) pss_nil)
      (pss_cons (ps_set (i := 2) nd rfl (Or.inl rfl) (pe_ix ix_list (pe_lst (pa_cons (pe_op op_mod (pv 1) pe_int) (pa_cons (pe_op op_mod (pv 1) (pe_op op_add (pe_op op_pow pe_int pe_int) pe_int)) (pa_cons (pe_op op_sub (pe_op op_pow pe_int pe_int) (pe_op op_mod (pv 1) pe_int)) pa_nil)))) (pe_op op_mod (pe_op op_fdivW (pv 1) pe_int) pe_int) (fun _ _ => rfl)))
      (pss_one (ps_ret (pe_op op_mul (pv 2) (pe_ix ix_list (pe_lst (pa_cons pe_int (pa_cons (pe_un un_neg pe_int) pa_nil))) (pe_op op_mod (pe_op op_fdivW (pv 1) pe_int) pe_int) (fun _ _ => rfl))))))), ?_⟩
    simp only [cxOf, Cx.nox, L2.start, List.map_cons, List.map_nil, List.length_cons, List.length_nil, Nat.reduceAdd, Nat.reduceSub, List.replicate, List.cons_append, List.nil_append]
    rcases hk with rfl | rfl
    · walk_at "z"
      refine ⟨by simp only [List.length_cons, List.length_nil]; decide, fun p1 hp1 => ?_⟩
      walk_at "z"
      refine Z.ixAll (G := fun v => ∃ k, v = .int k ∧ 0 ≤ k ∧ k ≤ 10 ^ 9) (SqL.of upd_same) (by omega) (by simp only [List.length_cons, List.length_nil]; omega) (fun v hv => ?_) (fun v ⟨s, e, hs0, hs1⟩ _ => ?_)
      · simp only [List.mem_cons, List.not_mem_nil, or_false] at hv
        rcases hv with h | h | h
        · exact ⟨_, h, by omega, by omega⟩
        · refine ⟨_, h, Int.emod_nonneg _ (by decide), ?_⟩
          have := Int.emod_lt_of_pos c (show (0 : Int) < 10 ^ Int.toNat 9 + 1 by decide)
          have e9 : (10 : Int) ^ Int.toNat 9 = 10 ^ 9 := rfl
          omega
        · have e9 : (10 : Int) ^ Int.toNat 9 = 10 ^ 9 := rfl
          exact ⟨_, h, by omega, by omega⟩
      subst e
      walk_at "z"
      refine ⟨_, rfl, ?_⟩
      walk_at "z"
      refine ⟨by simp only [List.length_cons, List.length_nil]; decide, fun p2 hp2 => ?_⟩
      walk_at "z"
      refine Z.ixAll (G := fun v => ∃ k, v = .int k ∧ (k = 1 ∨ k = -1)) (SqL.of upd_same) (by omega) (by simp only [List.length_cons, List.length_nil]; omega) (fun v hv => ?_) (fun v ⟨t, e, ht⟩ _ => ?_)
      · simp only [List.mem_cons, List.not_mem_nil, or_false] at hv
        rcases hv with h | h
        · exact ⟨_, h, .inl rfl⟩
        · exact ⟨_, h, .inr rfl⟩
      subst e
      walk_at "z"
      have W := ((Z.Ws.init sm).exts (Z.same_new (o := .lst [.int (c % 5), .int (c % (10 ^ Int.toNat 9 + 1)), .int (10 ^ Int.toNat 9 - c % 3)]) hp1)).exts (Z.same_new (o := .lst [.int 1, .int (-1)]) hp2)
      rcases ht with rfl | rfl
      · exact k _ _ _ _ W.g (.int _) (.inr ⟨rfl, _, rfl, by omega, by omega⟩)
      · exact k _ _ _ _ W.g (.int _) (.inr ⟨rfl, _, rfl, by omega, by omega⟩)
    · walk_at "z"
      obtain ⟨m, hm, m3⟩ : ∃ m : Nat, c % 3 = (m : Int) ∧ m < 3 := ⟨(c % 3).toNat, by omega, by omega⟩
      rw [hm]
      refine ⟨F0, c / 3, 1 + m, rfl, sm, by omega, fun F1 H1 v zs hl hz nd g hv => ?_⟩
      have g0 : zs[m]? = some (zs[m]'(by omega)) := List.getElem?_eq_getElem _
      walk_at "z"
      rw [hm]
      refine Z.ixD hv g.fh m (d := .str (zs[m]'(by omega))) (by rw [List.getElem?_map, g0]; rfl) fun w hw => ?_
      walk_at "z"
      exact k _ _ _ _ g hw (.inl ⟨rfl, _, rfl, hz _ (List.mem_of_getElem? g0)⟩)
def somePairs (ts : List Tab) : List (Str × Str) := ts.flatMap fun t => (t.2.drop 1).map fun c => (t.1, c.1)
theorem some_mem {ts : List Tab} {o : Str × Str} (h : o ∈ somePairs ts) : ∃ t ∈ ts, t.1 = o.1 ∧ ∃ c ∈ t.2.drop 1, c.1 = o.2 := by
  obtain ⟨t, ht, m⟩ := List.mem_flatMap.mp h
  obtain ⟨c, hc, rfl⟩ := List.mem_map.mp m
  exact ⟨t, ht, rfl, c, hc, rfl⟩
theorem some_nodup : ∀ {ts : List Tab}, (ts.map (·.1)).Nodup → (∀ t ∈ ts, (t.2.map (·.1)).Nodup) → (somePairs ts).Nodup
  | [], _, _ => List.nodup_nil
  | t :: r, nd, h => by
    rw [List.map_cons, List.nodup_cons] at nd
    show (((t.2.drop 1).map fun c => (t.1, c.1)) ++ somePairs r).Nodup
    rw [List.nodup_append]
    refine ⟨?_, some_nodup nd.2 fun x hx => h x (List.mem_cons_of_mem _ hx), fun a ha b hb e => ?_⟩
    · have n1 : ((t.2.drop 1).map (·.1)).Nodup := by
        have := h t List.mem_cons_self
        rw [← List.take_append_drop 1 t.2, List.map_append, List.nodup_append] at this
        exact this.2.1
      rw [List.nodup_iff_pairwise_ne, List.pairwise_map] at n1 ⊢
      exact n1.imp fun h e => h (Prod.ext_iff.mp e).2
    · subst e
      obtain ⟨c, hc, rfl⟩ := List.mem_map.mp ha
      obtain ⟨t', ht', e1, _⟩ := some_mem hb
      exact nd.1 (List.mem_map.mpr ⟨t', ht', e1⟩)
theorem some_snoc (ts : List Tab) (t : Tab) : somePairs (ts ++ [t]) = somePairs ts ++ (t.2.drop 1).map fun c => (t.1, c.1) := by simp [somePairs]
theorem erase_map {α β : Type} {f : α → β} : ∀ {l : List α} {i : Nat}, (l.map f).eraseIdx i = (l.eraseIdx i).map f
  | [], _ => rfl
  | _ :: _, 0 => rfl
  | a :: r, i + 1 => congrArg (f a :: ·) (erase_map (l := r) (i := i))
theorem erase_perm {α : Type} {x : α} : ∀ {l : List α} {i : Nat}, l[i]? = some x → ([x] ++ l.eraseIdx i).Perm l
  | [], _, h => by simp at h
  | _ :: _, 0, h => by cases h; exact List.Perm.refl _
  | a :: r, i + 1, h => ((List.Perm.swap a x _).trans (List.Perm.cons a (erase_perm (l := r) (i := i) (by simpa using h))))
theorem some_len : ∀ ts : List Tab, (∀ t ∈ ts, ColsOk t.2) → (somePairs ts).length ≤ 4 * ts.length
  | [], _ => Nat.le_refl _
  | t :: r, h => by
    have := some_len r fun x hx => h x (List.mem_cons_of_mem _ hx)
    have h4 := (h t List.mem_cons_self).hi
    show (((t.2.drop 1).map fun c => (t.1, c.1)) ++ somePairs r).length ≤ _
    rw [List.length_append, List.length_map, List.length_drop, List.length_cons]
    omega
theorem eqv_nil (os : List (Str × Str)) : PyData.eqv (.list (os.map pairD)) (.list []) = decide (os = []) := by
  cases os with
  | nil => simp [PyData.eqv, PyData.eqvAll]
  | cons o r => simp [PyData.eqv, PyData.eqvAll]
def sp_law_schema (K : PySem.W.Frag) (A : Adr) : Sp := fun vs H Q _ => ∃ (F : Hp) (c : Int), vs = [.int c] ∧ Same F H ∧ ∀ F' H' r ts os, TabsOk ts → OrdsOk ts os → Z.Gr F H F' H' → Dp K F' r (.tuple [.list (ts.map tabD), .list (os.map pairD)]) → Q r H'
theorem ok_law_schema (T : Txt K mg A) : ∃ fd, FnOk P w K mg base CX0 3 A.f_law_schema fd ["_law_cell_here"] (sp_law_schema K A) ∧ Binds K fd ["_law_cell_here"] [] := by
  have ⟨fd, F, b⟩ := T.d_law_schema
  refine ⟨fd, F.ok sc_law_schema (fun vs H Q E h => ?_) (fun cdv Ar outer s H vs Q E hr h => ?_), b⟩
  · obtain ⟨F0, c, rfl, _⟩ := h
    rfl
  · obtain ⟨F0, c, rfl, sm, k⟩ := h
    have nd := sc_law_schema.nd
    have hu := hu_of hr
    have ⟨fd_law_draws, G_law_draws, b_law_draws⟩ := ok_law_draws (P := P) (w := w) (base := base) T
    have ⟨fd_law_names, G_law_names, b_law_names⟩ := ok_law_names (P := P) (w := w) (base := base) T
    refine ⟨_, (pss_cons (ps_set (i := 1) nd rfl (Or.inl rfl) (pe_call G_law_draws (hr.mono (by decide)) (by rfl) T.g_law_draws T.d_law_draws.kp b_law_draws .nil pass0 (pa_cons (pv 0) (pa_cons pe_int pa_nil))))
      (pss_cons (ps_set (i := 2) nd rfl (Or.inl rfl) (pe_lst pa_nil))
      (pss_cons (ps_set (i := 3) nd rfl (Or.inl rfl) (pe_lst pa_nil))
      (pss_cons (ps_for PassesOwn.never rfl (pi_enum (by rfl) T.b_enumerate (pa_cons (pe_call G_law_names (hr.mono (by decide)) (by rfl) T.g_law_names T.d_law_names.kp b_law_names .nil pass0 (pa_cons (pe_ix ix_list (pv 1) pe_int (fun _ _ => rfl)) (pa_cons (pe_op op_add pe_int (pe_op op_mod (pe_ix ix_list (pv 1) pe_int (fun _ _ => rfl)) pe_int)) pa_nil))) pa_nil)) (pg_tup rfl (pgs_cons (pg_name (i := 4) nd rfl (Or.inl rfl)) (pgs_cons (pg_name (i := 5) nd rfl (Or.inr rfl)) pgs_nil))) (pss_cons (ps_set (i := 6) nd rfl (Or.inl rfl) (pe_lst pa_nil))
      (pss_cons (ps_set (i := 7) nd rfl (Or.inl rfl) (pe_call G_law_names (hr.mono (by decide)) (by rfl) T.g_law_names T.d_law_names.kp b_law_names .nil pass0 (pa_cons (pe_ix ix_list (pv 1) (pe_op op_add pe_int (pv 4)) (fun _ _ => rfl)) (pa_cons (pe_op op_add pe_int (pe_op op_mod (pe_ix ix_list (pv 1) (pe_op op_add pe_int (pv 4)) (fun _ _ => rfl)) pe_int)) pa_nil))))
      (pss_cons (ps_for PassesOwn.never rfl (pi_enum (by rfl) T.b_enumerate (pa_cons (pv 7) pa_nil)) (pg_tup rfl (pgs_cons (pg_name (i := 8) nd rfl (Or.inl rfl)) (pgs_cons (pg_name (i := 9) nd rfl (Or.inl rfl)) pgs_nil))) (pss_one (ps_expr (pe_bm PySem.F.plainAttrs_list PySem.F.slot_list_append PySem.F.type_list_append mt_append (pv 6) (pa_cons (pe_tup (pa_cons (pv 9) (pa_cons (pe_ix ix_list (pe_lst (pa_cons pe_str (pa_cons pe_str pa_nil))) (pe_op op_mod (pe_ix ix_list (pv 1) (pe_op op_add (pe_op op_add pe_int (pe_op op_mul pe_int (pv 4))) (pv 8)) (fun _ _ => rfl)) pe_int) (fun _ _ => rfl)) pa_nil))) pa_nil)))))
      (pss_cons (ps_expr (pe_bm PySem.F.plainAttrs_list PySem.F.slot_list_append PySem.F.type_list_append mt_append (pv 2) (pa_cons (pe_tup (pa_cons (pv 5) (pa_cons (pv 6) pa_nil))) pa_nil)))
      (pss_one (ps_expr (pe_bm PySem.F.plainAttrs_list PySem.F.slot_list_extend PySem.F.type_list_extend mt_extend (pv 3) (pa_cons (pe_lc (own := [("_law_column", 9)]) rfl nd (pi_list (pe_slice sl_list (pv 7) (po_some pe_int) po_none)) (blkOk_by (own := [("_law_column", 9)]) (N := ["_law_cell_here", "_law_draws_here", "_law_tables", "_law_some", "_law_k", "_law_name", "_law_columns", "_law_names_here", "_law_j", "_law_column", "_law_orders"]) (sc := defScope s_law_schema) (by decide +kernel)) (fun _ _ _ _ _ => pg_name (i := 9) nd rfl (Or.inl rfl)) (fun _ _ _ _ _ => pts_nil) (fun _ _ _ _ _ => (pe_tup (pa_cons (pv 5) (pa_cons (pv 9) pa_nil))))) pa_nil)))))))))
      (pss_cons (ps_set (i := 10) nd rfl (Or.inl rfl) (pe_lst pa_nil))
      (pss_cons (ps_for PassesOwn.never rfl (pi_range1 rfl T.b_range (pa_cons pe_int pa_nil)) (pg_name (i := 4) nd rfl (Or.inl rfl)) (pss_one (ps_if (PW.pt (pw_and (pt_cmpR (op_neD hr.units) (pv 3) (pe_lst pa_nil) (nomark _)) (pw_and1 (pt_cmpR op_gt (pe_op op_mod (pe_ix ix_list (pv 1) (pe_op op_add pe_int (pv 4)) (fun _ _ => rfl)) pe_int) pe_int (nomark _))))) (pss_one (ps_expr (pe_bm PySem.F.plainAttrs_list PySem.F.slot_list_append PySem.F.type_list_append mt_append (pv 10) (pa_cons (pe_bm PySem.F.plainAttrs_list PySem.F.slot_list_pop PySem.F.type_list_pop mt_popAt (pv 3) (pa_cons (pe_op op_mod (pe_op op_fdivW (pe_ix ix_list (pv 1) (pe_op op_add pe_int (pv 4)) (fun _ _ => rfl)) pe_int) (pe_callB call_len_seq (by rfl) T.b_len PySem.boot_len (pa_cons (pv 3) pa_nil))) pa_nil)) pa_nil)))) pss_nil)))
      (pss_one (ps_ret (pe_tup (pa_cons (pv 2) (pa_cons (pv 10) pa_nil))))))))))), ?_⟩
    simp only [cxOf, Cx.nox, L2.start, List.map_cons, List.map_nil, List.length_cons, List.length_nil, Nat.reduceAdd, Nat.reduceSub, List.replicate, List.cons_append, List.nil_append]
    walk_at "z"
    refine ⟨F0, c, 30, rfl, sm, by decide, fun F1 H1 dv xs hxl pos g1 hdv => ?_⟩
    have W1 := (Z.Ws.init sm).ext g1
    have dr : ∀ i : Nat, i < 30 → ∃ y : Int, 0 ≤ y ∧ (xs.map PyData.int)[i]? = some (.int y) := fun i hi => by
      have e := List.getElem?_eq_getElem (l := xs) (i := i) (by omega)
      exact ⟨xs[i], (pos _ (List.getElem_mem _)).1, by rw [List.getElem?_map, e]; rfl⟩
    walk_at "z"
    refine ⟨by simp only [List.length_cons, List.length_nil]; decide, fun qt hqt => ?_⟩
    have W2 := W1.new (o := .lst []) hqt
    generalize upd H1 qt (.lst []) = H2 at W2 ⊢
    walk_at "z"
    refine ⟨by simp only [List.length_cons, List.length_nil]; decide, fun qs hqs => ?_⟩
    have W3 := W2.new (o := .lst []) hqs
    generalize upd H2 qs (.lst []) = H3 at W3 ⊢
    walk_at "z"
    refine Z.forE ?_
    walk_at "z"
    obtain ⟨y0, y00, ey0⟩ := dr 0 (by decide)
    obtain ⟨y1, y10, ey1⟩ := dr 1 (by decide)
    refine Z.ixD hdv W3.fh 0 ey0 fun w hw => ?_
    cases Z.dp_int hw
    walk_at "z"
    refine Z.ixD hdv W3.fh 1 ey1 fun w hw => ?_
    cases Z.dp_int hw
    walk_at "z"
    obtain ⟨n, hn, hn1, hn4⟩ : ∃ n : Nat, (1 : Int) + y1 % 4 = (n : Int) ∧ 1 ≤ n ∧ n ≤ 4 := ⟨((1 : Int) + y1 % 4).toNat, by omega, by omega, by omega⟩
    rw [hn]
    refine ⟨F1, y0, n, rfl, W3.fh, by omega, fun F4 H4 nv nms hnl hnm hnd g4 hnv => ?_⟩
    have W4 := W3.ext g4
    have hdv4 := Z.dp_same g4.f hdv
    obtain ⟨na, nx, rfl, hna, hnx⟩ := Z.dp_lst hnv
    cases Z.dpa_strs hnx
    walk_at "z"
    refine ⟨na, _, rfl, W4.fh.seq hna, ?_⟩
    refine for_it walk_enum (fun i σ H' => (∃ v4 v5 v6 v7 v8 v9 v10, σ = [some (.int c), some dv, some (.ref qt), some (.ref qs), v4, v5, v6, v7, v8, v9, v10]) ∧ ∃ F' vt vs ts, Z.Ws [(qs, .lst vs), (qt, .lst vt)] F0 H F' H' ∧ Same F4 F' ∧ DpAll K F' vt (ts.map tabD) ∧ DpAll K F' vs ((somePairs ts).map pairD) ∧ ts.map (·.1) = nms.take i ∧ (∀ t ∈ ts, ColsOk t.2))
      ⟨⟨_, _, _, _, _, _, _, rfl⟩, F4, [], [], [], W4, Same.refl _, .nil, .nil, rfl, fun t h => nomatch h⟩ (fun i σ H' hi ⟨_, F', _, _, _, W, s, _⟩ => (s.trans W.fh).seq hna) ?_ ?_
    · rintro i x σ H5 H6 hi ⟨⟨v4, v5, v6, v7, v8, v9, v10, rfl⟩, F5, vt, vs, ts, W, s5, ht, hs, hts, hcs⟩ ⟨T, x1, x2, rfl, hT, rfl, e1, e2⟩
      cases e1
      rw [List.length_map] at hi
      have e2 : (nms.map V.str)[i]? = some x2 := e2
      rw [List.getElem?_map] at e2
      obtain ⟨nm, hnm', rfl⟩ := Option.map_eq_some_iff.mp e2
      have W5 := W.exts (Z.same_new (o := .tup [.int (i : Nat), .str nm]) hT)
      have gT : upd H5 T (.tup [.int (i : Nat), .str nm]) T = _ := upd_same
      generalize upd H5 T (.tup [.int (i : Nat), .str nm]) = H6 at W5 gT ⊢
      refine ⟨T, _, rfl, SqT.of gT, rfl, ?_⟩
      walk_at "z"
      refine ⟨by simp only [List.length_cons, List.length_nil]; decide, fun qc hqc => ?_⟩
      have W6 := W5.new (o := .lst []) hqc
      generalize upd H6 qc (.lst []) = H7 at W6 ⊢
      have hdv5 := Z.dp_same s5 hdv4
      walk_at "z"
      obtain ⟨y2, y20, ey2⟩ := dr (2 + i) (by omega)
      obtain ⟨y6, y60, ey6⟩ := dr (6 + i) (by omega)
      rw [show (2 : Int) + (i : Int) = ((2 + i : Nat) : Int) by omega]
      refine Z.ixD hdv5 W6.fh (2 + i) ey2 fun w hw => ?_
      cases Z.dp_int hw
      walk_at "z"
      rw [show (6 : Int) + (i : Int) = ((6 + i : Nat) : Int) by omega]
      refine Z.ixD hdv5 W6.fh (6 + i) ey6 fun w hw => ?_
      cases Z.dp_int hw
      walk_at "z"
      obtain ⟨m, hm, hm1, hm4⟩ : ∃ n : Nat, (1 : Int) + y6 % 4 = (n : Int) ∧ 1 ≤ n ∧ n ≤ 4 := ⟨((1 : Int) + y6 % 4).toNat, by omega, by omega, by omega⟩
      rw [hm]
      refine ⟨F5, y2, m, rfl, W6.fh, by omega, fun F8 H8 cv cns hcl hcn hcd g8 hcv => ?_⟩
      have W8 := W6.ext g8
      have hdv8 := Z.dp_same g8.f hdv5
      have hcv0 := hcv
      obtain ⟨ca, cx, rfl, hca, hcx⟩ := Z.dp_lst hcv
      cases Z.dpa_strs hcx
      walk_at "z"
      refine Z.forE ?_
      walk_at "z"
      refine ⟨ca, _, rfl, W8.fh.seq hca, ?_⟩
      refine for_it walk_enum (fun j σ H' => (∃ v8 v9, σ = [some (.int c), some dv, some (.ref qt), some (.ref qs), some (.int (i : Nat)), some (.str nm), some (.ref qc), some (.ref ca), v8, v9, v10]) ∧ ∃ F' vc cs, Z.Ws [(qc, .lst vc), (qs, .lst vs), (qt, .lst vt)] F0 H F' H' ∧ Same F8 F' ∧ DpAll K F' vc (cs.map pairD) ∧ cs.map (·.1) = cns.take j ∧ (∀ c ∈ cs, Kind c.2))
        ⟨⟨_, _, rfl⟩, F8, [], [], W8, Same.refl _, .nil, rfl, fun t h => nomatch h⟩ (fun i σ H' hi ⟨_, F', _, _, W, s, _⟩ => (s.trans W.fh).seq hca) ?_ ?_
      · rintro j x σ H9 H10 hj ⟨⟨v8, v9, rfl⟩, F9, vc, cs, W9, s9, hc9, hcs9, hk9⟩ ⟨T2, x1, x2, rfl, hT2, rfl, e1, e2⟩
        cases e1
        rw [List.length_map] at hj
        have e2 : (cns.map V.str)[j]? = some x2 := e2
        rw [List.getElem?_map] at e2
        obtain ⟨cn, hcn', rfl⟩ := Option.map_eq_some_iff.mp e2
        have W10 := W9.exts (Z.same_new (o := .tup [.int (j : Nat), .str cn]) hT2)
        have gT2 : upd H9 T2 (.tup [.int (j : Nat), .str cn]) T2 = _ := upd_same
        generalize upd H9 T2 (.tup [.int (j : Nat), .str cn]) = H10 at W10 gT2 ⊢
        refine ⟨T2, _, rfl, SqT.of gT2, rfl, ?_⟩
        walk_at "z"
        refine ⟨.inl ⟨rfl, _, SqL.of (W10.at 0 rfl)⟩, ?_⟩
        walk_at "z"
        refine ⟨by simp only [List.length_cons, List.length_nil]; decide, fun p hp => ?_⟩
        have W11 := W10.exts (Z.same_new (o := .lst [.str "number", .str "word"]) hp)
        have gp : upd H10 p (.lst [.str "number", .str "word"]) p = _ := upd_same
        generalize upd H10 p (.lst [.str "number", .str "word"]) = H11 at W11 gp ⊢
        have hdv9 := Z.dp_same s9 hdv8
        walk_at "z"
        obtain ⟨yk, yk0, eyk⟩ := dr (10 + 4 * i + j) (by omega)
        rw [show (10 : Int) + 4 * (i : Int) + (j : Int) = ((10 + 4 * i + j : Nat) : Int) by omega]
        refine Z.ixD hdv9 W11.fh (10 + 4 * i + j) eyk fun w hw => ?_
        cases Z.dp_int hw
        walk_at "z"
        refine Z.ixAll (G := fun v => ∃ kd, v = .str kd ∧ Kind kd) (SqL.of gp) (by omega) (by simp only [List.length_cons, List.length_nil]; omega) (fun v hv => ?_) (fun v ⟨kd, e, hkd⟩ _ => ?_)
        · simp only [List.mem_cons, List.not_mem_nil, or_false] at hv
          rcases hv with rfl | rfl
          · exact ⟨_, rfl, .inl rfl⟩
          · exact ⟨_, rfl, .inr rfl⟩
        subst e
        walk_at "z"
        refine Z.tupD (K := K) W11 (.cons (.str cn) (.cons (.str kd) .nil)) fun r F12 H12 W12 s12 hr => ?_
        walk_at "z"
        have hvl := Z.dpa_len hc9
        rw [List.length_map, ← List.length_map (f := fun c : Col => c.1), hcs9, List.length_take] at hvl
        refine Z.appW W12 0 rfl (fun H13 W13 => ?_) (by omega)
        walk_at "z"
        refine ⟨⟨_, _, rfl⟩, F12, _, cs ++ [(cn, kd)], W13, s9.trans s12, ?_, ?_, ?_⟩
        · rw [List.map_append]
          exact Z.dpa_snoc (Z.dpa_same s12 hc9) hr
        · rw [List.map_append, hcs9, List.take_add_one, hcn']
          rfl
        · intro c hc
          rcases List.mem_append.mp hc with h | h
          · exact hk9 c h
          · rw [List.mem_singleton.mp h]; exact hkd
      · rintro σ H9 ⟨⟨v8, v9, rfl⟩, F9, vc, cs, W9, s9, hc9, hcs9, hk9⟩
        rw [List.length_map, List.take_length] at hcs9
        have hcsl : cs.length = m := by rw [← hcl, ← hcs9, List.length_map]
        have cok : ColsOk cs := ⟨by omega, by omega, fun c hc => ⟨hcn _ (by rw [← hcs9]; exact List.mem_map.mpr ⟨c, hc, rfl⟩), hk9 c hc⟩, by rw [hcs9]; exact hcd⟩
        walk_at "z"
        refine ⟨.inl ⟨rfl, _, SqL.of (W9.at 2 rfl)⟩, ?_⟩
        walk_at "z"
        obtain ⟨F10, W10, s10, g10⟩ := W9.frz 0 rfl
        refine Z.tupD (K := K) W10 (.cons (.str nm) (.cons (.lst (SqL.of g10) (Z.dpa_same s10 hc9)) .nil)) fun r F11 H11 W11 s11 hr => ?_
        walk_at "z"
        have s511 : Same F5 F11 := g8.f.trans (s9.trans (s10.trans s11))
        have htl := Z.dpa_len ht
        rw [List.length_map, ← List.length_map (f := fun t : Tab => t.1), hts, List.length_take] at htl
        refine Z.appW W11 1 rfl (fun H12 W12 => ?_) (by omega)
        walk_at "z"
        refine ⟨.inl ⟨rfl, _, SqL.of (W12.at 0 rfl)⟩, ?_⟩
        walk_at "z"
        refine Z.slD W12 (Z.dp_same (s9.trans (s10.trans s11)) hcv0) fun r2 F13 H13 W13 s13 hr2 => ?_
        rw [show Z.cutD (cns.map PyData.str) (some 1) none = (cns.map PyData.str).drop 1 from cutD_tail _ 1, ← List.map_drop] at hr2
        obtain ⟨ra, rx, rfl, hr3, hr4⟩ := Z.dp_lst hr2
        cases Z.dpa_strs hr4
        refine ⟨ra, rfl, ⟨_, W13.fh.seq hr3⟩, fun D hD => ?_⟩
        refine lc_it walk_list (Z.LcP K D _ F0 H F13 ((cns.drop 1).map fun z => pairD (nm, z))) (Z.lc0 W13 hD) (fun i H' hi ⟨F', vs, W, s, _⟩ => (s.trans W.fh).seq hr3) ?_ ?_
        · rintro l x H14 H15 hl ⟨F14, ws, W14, s14, ha⟩ ⟨rfl, hx⟩
          rw [List.getElem?_map] at hx
          obtain ⟨z, hz, rfl⟩ := Option.map_eq_some_iff.mp hx
          refine ⟨rfl, ?_⟩
          walk_at "z"
          refine Z.tupD (K := K) W14 (.cons (.str nm) (.cons (.str z) .nil)) fun r3 F15 H15 W15 s15 hr5 => ?_
          exact Z.lcS W15 (s14.trans s15) (Z.dpa_same s15 ha) (by rw [List.getElem?_map, hz]; rfl) hr5 (by rw [List.length_map, List.length_drop]; omega)
        · rintro H14 ⟨F14, ws, W14, s14, ha⟩
          have ea : DpAll K F14 ws (((cs.drop 1).map fun c => (nm, c.1)).map pairD) := by
            rw [List.length_map, List.take_of_length_le (by simp), ← hcs9] at ha
            rw [List.map_map]
            rw [← List.map_drop, List.map_map] at ha
            exact ha
          have hvsl := Z.dpa_len hs
          have hwl := Z.dpa_len ea
          have sml : (somePairs ts).length ≤ 100 := by
            have h1 := some_len ts hcs
            have h2 : ts.length ≤ 4 := by rw [← List.length_map (f := fun t : Tab => t.1), hts, List.length_take]; omega
            omega
          rw [List.length_map] at hvsl
          rw [List.length_map, List.length_map, List.length_drop] at hwl
          walk_at "z"
          refine ⟨qs, D, _, _, rfl, rfl, W14.at 1 rfl, W14.at 0 rfl, Nat.le_trans (show vs.length + ws.length ≤ 1000 by omega) (by decide), ?_⟩
          walk_at "z"
          have W15 := W14.set 1 rfl (.lst (vs ++ ws))
          refine ⟨⟨_, _, _, _, _, _, _, rfl⟩, F14, _, _, ts ++ [(nm, cs)], W15.pick [1, 2] (by decide) rfl, s5.trans (s511.trans (s13.trans s14)), ?_, ?_, ?_, ?_⟩
          · rw [List.map_append]
            exact Z.dpa_snoc (Z.dpa_same (s511.trans (s13.trans s14)) ht) (Z.dp_same (s13.trans s14) hr)
          · rw [some_snoc, List.map_append]
            exact Z.dpa_app (Z.dpa_same (s511.trans (s13.trans s14)) hs) ea
          · rw [List.map_append, hts, List.take_add_one, hnm']
            rfl
          · intro t ht
            rcases List.mem_append.mp ht with h | h
            · exact hcs t h
            · rw [List.mem_singleton.mp h]; exact cok
    · rintro σ H5 ⟨⟨v4, v5, v6, v7, v8, v9, v10, rfl⟩, F5, vt, vs, ts, W, s5, ht, hs, hts, hcs⟩
      rw [List.length_map, List.take_length] at hts
      have htl : ts.length = n := by rw [← hnl, ← hts, List.length_map]
      have tok : TabsOk ts := ⟨by omega, by omega, fun t ht => ⟨hnm _ (by rw [← hts]; exact List.mem_map.mpr ⟨t, ht, rfl⟩), hcs t ht⟩, by rw [hts]; exact hnd⟩
      have snd := some_nodup (ts := ts) tok.nd (fun t ht => (hcs t ht).nd)
      have spk : ∀ o ∈ somePairs ts, PairOk o := fun o ho => by
        obtain ⟨t, ht, e1, c, hc, e2⟩ := some_mem ho
        exact pairOk_of ⟨e1 ▸ (tok.nm t ht).1, e2 ▸ ((hcs t ht).nm c (List.mem_of_mem_drop hc)).1⟩
      have sml : (somePairs ts).length ≤ 100 := by
        have h1 := some_len ts hcs
        omega
      walk_at "z"
      refine ⟨by simp only [List.length_cons, List.length_nil]; decide, fun qo hqo => ?_⟩
      have W6 := W.new (o := .lst []) hqo
      generalize upd H5 qo (.lst []) = H6 at W6 ⊢
      walk_at "z"
      refine ⟨4, rfl, by decide, by decide, ?_⟩
      refine (for_range (lo := 0) (n := 4) (fun i σ H' => (∃ v4, σ = [some (.int c), some dv, some (.ref qt), some (.ref qs), v4, v5, v6, v7, v8, v9, some (.ref qo)]) ∧ ∃ F' vo vs os rest, Z.Ws [(qo, .lst vo), (qs, .lst vs), (qt, .lst vt)] F0 H F' H' ∧ Same F5 F' ∧ DpAll K F' vo (os.map pairD) ∧ DpAll K F' vs (rest.map pairD) ∧ (os ++ rest).Perm (somePairs ts) ∧ os.length ≤ i)
        ⟨⟨_, rfl⟩, F5, [], vs, [], somePairs ts, W6, Same.refl _, .nil, hs, List.Perm.refl _, Nat.le_refl _⟩ ?_ ?_)
      · rintro i σ H7 hi ⟨⟨v4, rfl⟩, F7, vo, vs7, os, rest, W7, s7, ho7, hs7, pm, hol⟩
        have hrl := pm.length_eq
        rw [List.length_append] at hrl
        have hv7 := Z.dpa_len hs7
        have hvo := Z.dpa_len ho7
        rw [List.length_map] at hv7 hvo
        have hdv7 := Z.dp_same (s5.trans s7) hdv4
        obtain ⟨yk, yk0, eyk⟩ := dr (26 + i) (by omega)
        walk_at "z"
        refine Z.lstD (K := K) W7 .nil fun r F8 H8 W8 s8 hr => ?_
        refine ⟨_, _, .lst (SqL.of (W8.at 1 rfl)) (Z.dpa_same (s8.trans W8.fh) hs7), Z.dp_same W8.fh hr, shaped_pairsL (fun o h => spk o (pm.subset (List.mem_append_right _ h))), shaped_pairsL (os := []) (fun o h => nomatch h), ?_⟩
        rw [eqv_nil]
        by_cases er : rest = []
        · rw [decide_eq_true er]
          walk_at "z"
          exact ⟨⟨_, rfl⟩, F8, vo, vs7, os, rest, W8, s7.trans s8, Z.dpa_same s8 ho7, Z.dpa_same s8 hs7, pm, by omega⟩
        · rw [decide_eq_false er]
          have hrp : 0 < rest.length := List.length_pos_iff.mpr er
          walk_at "z"
          rw [show (26 : Int) + (0 + (i : Int)) = ((26 + i : Nat) : Int) by omega]
          refine Z.ixD (Z.dp_same s8 hdv7) W8.fh (26 + i) eyk fun w hw => ?_
          cases Z.dp_int hw
          walk_at "z"
          refine Z.iteD (fun h1 => ?_) (fun h1 => ?_)
          · walk_at "z"
            refine ⟨.inl ⟨rfl, _, SqL.of (W8.at 0 rfl)⟩, ?_⟩
            walk_at "z"
            refine ⟨.inl ⟨rfl, _, SqL.of (W8.at 1 rfl)⟩, ?_⟩
            walk_at "z"
            rw [show (26 : Int) + (0 + (i : Int)) = ((26 + i : Nat) : Int) by omega]
            refine Z.ixD (Z.dp_same s8 hdv7) W8.fh (26 + i) eyk fun w hw => ?_
            cases Z.dp_int hw
            walk_at "z"
            refine Z.lenSeq (SqL.of (W8.at 1 rfl)) ?_
            walk_at "z"
            obtain ⟨kk, hkk, hklt⟩ : ∃ kk : Nat, yk / 3 % (vs7.length : Int) = (kk : Int) ∧ kk < vs7.length := ⟨(yk / 3 % (vs7.length : Int)).toNat, by have := Int.emod_nonneg (yk / 3) (show (vs7.length : Int) ≠ 0 by omega); omega, by have := Int.emod_lt_of_pos (yk / 3) (show (0 : Int) < vs7.length by omega); have := Int.emod_nonneg (yk / 3) (show (vs7.length : Int) ≠ 0 by omega); omega⟩
            rw [hkk]
            have evk : vs7[kk]? = some vs7[kk] := List.getElem?_eq_getElem hklt
            obtain ⟨d0, ed0, hd0⟩ := Z.dpa_ix (Z.dpa_same s8 hs7) evk
            rw [List.getElem?_map] at ed0
            obtain ⟨o, ho, rfl⟩ := Option.map_eq_some_iff.mp ed0
            refine ⟨qs, vs7, kk, kk, _, rfl, rfl, W8.at 1 rfl, by omega, by omega, (seqIndex_of (by omega) (by omega)).trans (by rw [Int.toNat_natCast]), evk, ?_⟩
            have W9 := W8.set 1 rfl (.lst (vs7.eraseIdx kk))
            generalize upd H8 qs (.lst (vs7.eraseIdx kk)) = H9 at W9 ⊢
            walk_at "z"
            refine Z.appW W9 0 rfl (fun H10 W10 => ?_) (by omega)
            walk_at "z"
            refine ⟨⟨_, rfl⟩, F8, _, _, os ++ [o], rest.eraseIdx kk, W10, s7.trans s8, ?_, ?_, ?_, by rw [List.length_append]; show os.length + 1 ≤ _; omega⟩
            · rw [List.map_append]
              exact Z.dpa_snoc (Z.dpa_same s8 ho7) hd0
            · have := Z.dpa_eraseIdx kk (Z.dpa_same s8 hs7)
              rw [erase_map] at this
              exact this
            · rw [List.append_assoc]
              exact (List.Perm.append_left os (erase_perm ho)).trans pm
          · walk_at "z"
            exact ⟨⟨_, rfl⟩, F8, vo, vs7, os, rest, W8, s7.trans s8, Z.dpa_same s8 ho7, Z.dpa_same s8 hs7, pm, by omega⟩
      · rintro σ H7 ⟨⟨v4, rfl⟩, F7, vo, vs7, os, rest, W7, s7, ho7, hs7, pm, hol⟩
        walk_at "z"
        obtain ⟨F8, W8, s8, g8⟩ := W7.frz 0 rfl
        obtain ⟨F9, W9, s9, g9⟩ := W8.frz 1 rfl
        refine Z.tupD (K := K) W9 (.cons (.lst (SqL.of g9) (Z.dpa_same (s7.trans (s8.trans s9)) ht)) (.cons (.lst (SqL.of (s9 _ _ g8)) (Z.dpa_same (s8.trans s9) ho7)) .nil)) fun r F10 H10 W10 s10 hr => ?_
        have nd : (os ++ rest).Nodup := pm.nodup_iff.mpr snd
        exact k F10 H10 r ts os tok ⟨by omega, fun o h => some_mem (pm.subset (List.mem_append_left _ h)), (List.nodup_append.mp nd).1⟩ W10.g hr

def sp_NoTable___init__ (K : PySem.W.Frag) (A : Adr) : Sp := Z.spX K A.NoTable ["table"]
theorem ok_NoTable___init__ (T : Txt K mg A) : ∃ fd, FnOk P w K mg base CX0 1 A.f_NoTable___init__ fd ["self", "table"] (sp_NoTable___init__ K A) ∧ Binds K fd ["self", "table"] [] := by
  have ⟨fd, F, b⟩ := T.d_NoTable___init__
  refine ⟨fd, F.ok sc_NoTable___init__ (fun vs H Q E h => ?_) (fun cdv Ar outer s H vs Q E hr h => ?_), b⟩
  · obtain ⟨a, ws, rfl, hl, _⟩ := h
    rw [List.length_cons, hl]
    rfl
  · obtain ⟨a, ws, rfl, hl, ha, k⟩ := h
    obtain ⟨w0, rfl⟩ : ∃ w0, ws = [w0] := by
      match ws, hl with
      | [w0], _ => exact ⟨_, rfl⟩
    have nd := sc_NoTable___init__.nd
    have hu := hu_of hr
    refine ⟨_, (pss_cons (ps_expr (Z.pe_oeinit (by rfl) T.g_StoreError T.xr_StoreError T.xs_StoreError T.xi_StoreError (pa_cons (pv 0) (pa_cons pe_str pa_nil))))
      (pss_one (ps_ost (pv 0) (pv 1)))), ?_⟩
    simp only [cxOf, Cx.nox, L2.start, List.map_cons, List.map_nil, List.length_cons, List.length_nil, Nat.reduceAdd, Nat.reduceSub, List.replicate, List.cons_append, List.nil_append]
    walk_at "z"
    refine ⟨a, A.NoTable, _, rfl, by simp, T.oex_NoTable, ha, ?_⟩
    walk_at "z"
    refine ⟨a, A.NoTable, rfl, T.oex_NoTable, T.xf_NoTable_table, .inl ⟨ha, fun d hd hne => ?_⟩⟩
    have ha1 : ∀ {H' : Hp} {x : HO}, (upd (upd H' d x) a (exo a A.NoTable (some d))) a = some (exo a A.NoTable (some d)) := upd_same
    have hd1 : (upd (upd H d (exd d [("table", w0)])) a (exo a A.NoTable (some d))) d = some (exd d [("table", w0)]) := by rw [upd_ne hne, upd_same]
    walk_at "z"
    exact k d _ hd hne ha1 hd1 fun b h1 h2 => by rw [upd_ne h1, upd_ne h2]
/-! ### a schema's questions, refused where there is no such table -/
/-- the refusal C with one field -/
def NoX (E : XK) (C : Addr) (f : Str) (u : V) (H : Hp) : Prop := ∀ a H', Same H H' → H' a = some (.xd [(f, u)]) → E (.ref C) (some a) H'
theorem NoX.later {E : XK} {C : Addr} {f : Str} {u : V} {H H1 : Hp} (h : NoX E C f u H) (s : Same H H1) : NoX E C f u H1 := fun a H' s' e => h a H' (s.trans s') e
def NoTab (ts : List Tab) (d : PyData) : Prop := ∀ t ∈ ts, d ≠ .str t.1
def sp_Schema_need_table (K : PySem.W.Frag) (A : Adr) : Sp := fun vs H Q E => ∃ (F : Hp) (v u : V) (d : PyData) (ts : List Tab) (os : List (Str × Str)), vs = [v, u] ∧ Same F H ∧ IsSch K A F v ts os ∧ Z.DX K F u d ∧ SmallS d ∧ (∀ t ∈ ts, d = .str t.1 → Q .non H) ∧ (NoTab ts d → NoX E A.NoTable "table" u H)
theorem ok_Schema_need_table (T : Txt K mg A) : ∃ fd, FnOk P w K mg base (L2.CX P w) 3 A.f_Schema_need_table fd ["self", "table"] (sp_Schema_need_table K A) ∧ Binds K fd ["self", "table"] [] := by
  have ⟨fd, F, b⟩ := T.d_Schema_need_table
  refine ⟨fd, F.okX sc_Schema_need_table (fun vs H Q E h => ?_) (fun cdv Ar outer s H vs Q E hr h => ?_), b⟩
  · obtain ⟨F0, v, u, d, ts, os, rfl, _⟩ := h
    rfl
  · obtain ⟨F0, v, u, d, ts, os, rfl, sm, hs, hu', hz, k, kx⟩ := h
    have nd := sc_Schema_need_table.nd
    have hu := hu_of hr
    have ⟨fd_is_name, G_is_name, b_is_name⟩ := ok_is_name (P := P) (w := w) (base := base) T
    have ⟨fd_NoTable___init__, G_NoTable___init__, b_NoTable___init__⟩ := ok_NoTable___init__ (P := P) (w := w) (base := base) T
    refine ⟨_, (pss_one (ps_if (PW.pt (pw_or (pt_not (pt_val (pe_call G_is_name (hr.mono (by decide)) (by rfl) T.g_is_name T.d_is_name.kp b_is_name .nil pass0 (pa_cons (pv 1) pa_nil)))) (pw_or1 (pt_cmp (pc_dnotin hu (pv 1) (pe_fld (pv 0) rfl)))))) (pss_one (ps_raise rfl (takes_of rfl rfl rfl rfl) (pmk_oex T.oex_NoTable T.iC_NoTable T.tI_NoTable G_NoTable___init__ (hr.mono (by decide)) b_NoTable___init__ .nil pass0 (by rfl) T.g_NoTable (pa_cons (pv 1) pa_nil)))) pss_nil)), ?_⟩
    simp only [cxOf, Cx.nox, L2.start, List.map_cons, List.map_nil, List.length_cons, List.length_nil, Nat.reduceAdd, Nat.reduceSub, List.replicate, List.cons_append, List.nil_append]
    obtain ⟨x, dx, dd, kvs, ko, rfl, hx, hd, kv, hk, tk, ok⟩ := hs
    have hx' := sm _ _ hx
    have hd' := sm _ _ hd
    walk_at "z"
    refine ⟨_, _, rfl, Z.dx_same sm hu', hz, ?_⟩
    cases hn : named d with
    | false =>
      walk_at "z"
      refine Z.raiseX (K := K) rfl (by decide) fun a ha => ?_
      exact kx (fun t ht e => by rw [e] at hn; exact absurd (tk.nm t ht).1 (of_decide_eq_false hn)) a _ (Z.same_new ha) upd_same
    | true =>
      obtain ⟨z, rfl, hzn⟩ := named_str hn
      cases Z.dx_str hu'
      by_cases hm : z ∈ ts.map (·.1)
      · obtain ⟨t, ht, rfl⟩ := List.mem_map.mp hm
        obtain ⟨w, ew, hw⟩ := kv.some tk.nd ht
        walk_at "z"
        refine dinS hd' ?_
        rw [ew]
        walk_at "z"
        exact k t ht rfl
      · walk_at "z"
        refine dinS hd' ?_
        rw [kv.none hm]
        walk_at "z"
        refine Z.raiseX (K := K) rfl (by decide) fun a ha => ?_
        exact kx (fun t ht e => hm (by cases e; exact List.mem_map.mpr ⟨t, ht, rfl⟩)) a _ (Z.same_new ha) upd_same
def sp_Schema_columns_of (K : PySem.W.Frag) (A : Adr) : Sp := fun vs H Q E => ∃ (F : Hp) (v u : V) (d : PyData) (ts : List Tab) (os : List (Str × Str)), vs = [v, u] ∧ Same F H ∧ IsSch K A F v ts os ∧ Z.DX K F u d ∧ SmallS d ∧
  (∀ t ∈ ts, d = .str t.1 → ∀ H' p xs, Z.Ws [(p, .lst xs)] F H F H' → DpAll K F xs (t.2.map pairD) → Q (.ref p) H') ∧ (NoTab ts d → NoX E A.NoTable "table" u H)
theorem ok_Schema_columns_of (T : Txt K mg A) : ∃ fd, FnOk P w K mg base (L2.CX P w) 4 A.f_Schema_columns_of fd ["self", "table"] (sp_Schema_columns_of K A) ∧ Binds K fd ["self", "table"] [] := by
  have ⟨fd, F, b⟩ := T.d_Schema_columns_of
  refine ⟨fd, F.okX sc_Schema_columns_of (fun vs H Q E h => ?_) (fun cdv Ar outer s H vs Q E hr h => ?_), b⟩
  · obtain ⟨F0, v, u, d, ts, os, rfl, _⟩ := h
    rfl
  · obtain ⟨F0, v, u, d, ts, os, rfl, sm, hs, hu', hz, k, kx⟩ := h
    have nd := sc_Schema_columns_of.nd
    have hu := hu_of hr
    have ⟨fd_Schema_need_table, G_Schema_need_table, b_Schema_need_table⟩ := ok_Schema_need_table (P := P) (w := w) (base := base) T
    refine ⟨_, (pss_cons (ps_expr (pe_meth (pv 0) T.c_Schema T.m_Schema_need_table G_Schema_need_table (hr.mono (by decide)) b_Schema_need_table .nil (passes_call (takes_of rfl rfl rfl rfl) (fun _ _ _ _ h => h)) (pa_cons (pv 1) pa_nil)))
      (pss_one (ps_ret (pe_callTy call_list_of (by rfl) T.b_list (by decide +kernel) (pa_cons (pe_dget hu (pe_fld (pv 0) rfl) (pv 1) (fun _ _ => rfl)) pa_nil))))), ?_⟩
    simp only [cxOf, Cx.nox, L2.start, List.map_cons, List.map_nil, List.length_cons, List.length_nil, Nat.reduceAdd, Nat.reduceSub, List.replicate, List.cons_append, List.nil_append]
    have hs0 := hs
    obtain ⟨x, dx, dd, kvs, ko, rfl, hx, hd, kv, hk, tk, ok⟩ := hs
    have hx' := sm _ _ hx
    have hd' := sm _ _ hd
    walk_at "z"
    refine ⟨F0, _, u, d, ts, os, rfl, sm, hs0, hu', hz, fun t ht e => ?_, kx⟩
    subst e
    cases Z.dx_str hu'
    obtain ⟨w, ew, hw⟩ := kv.some tk.nd ht
    walk_at "z"
    refine dgetS hd' ew ?_
    walk_at "z"
    obtain ⟨a, xs, rfl, h1, h2⟩ := Z.dp_tup hw
    refine ⟨a, xs, rfl, .inr (Z.seqT sm h1), fun p hp => ?_⟩
    exact k t ht rfl _ p xs ((Z.Ws.init sm).new hp) h2

/-! ### disks -/
/-- what is due, as a value and as a cell -/
def dueV (due : Option (Int × Int)) (t : Addr) : V := if due.isSome then .ref t else .non
def dueC (due : Option (Int × Int)) (t : Addr) : List (Addr × HO) := match due with
  | none => []
  | some (a, s) => [(t, .tup [.int a, .int s])]
structure Dk where
  p : Addr
  dx : Addr
  r : Addr
  g : Addr
  rows : List Str
  pages : List Str
  n : Int
  due : Option (Int × Int)
  t : Addr
  down : Bool
def dc (C : Addr) (d : Dk) : List (Addr × HO) := (d.p, .ins C d.dx (DF d.r d.g d.n (dueV d.due d.t) d.down)) :: (d.r, .lst (d.rows.map .str)) :: (d.g, .lst (d.pages.map .str)) :: dueC d.due d.t
/-- a write comes: refused, whole, or so many signs of it -/
def comeR (due : Option (Int × Int)) (down : Bool) : Option (Option Int) := if down then none else match due with
  | none => some none
  | some (a, s) => if 0 < a then some none else some (some s)
def comeS (due : Option (Int × Int)) (down : Bool) : Option (Int × Int) × Bool := if down then (due, true) else match due with
  | none => (none, false)
  | some (a, s) => if 0 < a then (some (a - 1, s), false) else (none, true)
structure After (d d' : Dk) : Prop where
  p : d'.p = d.p
  n : d'.n = d.n + 1
  st : (d'.due, d'.down) = comeS d.due d.down
/-- what a deed does to rows and pages: w the deed, r how many signs come (none: all) -/
def eff (w : Nat) (i : Nat) (z : Str) (m : Int) (r : Option Int) (s : List Str × List Str) : List Str × List Str := match r with
  | none => if w = 0 then (s.1 ++ [z], s.2) else if w = 1 then (s.1, s.2.set i z) else if w = 2 then (Z.cutT s.1 none (some m), s.2) else (Z.cutT s.1 (some m) none, s.2)
  | some k => if w = 0 then (if cutS z none (some k) = "" then s.1 else s.1 ++ [cutS z none (some k)], s.2) else if w = 1 then (s.1, s.2.set i (cutS z none (some k))) else
      if 0 < k then (if w = 2 then (Z.cutT s.1 none (some m), s.2) else (Z.cutT s.1 (some m) none, s.2)) else s
/-- a deed's promise -/
def Deed (A : Adr) (F H : Hp) (d : Dk) (w i : Nat) (z : Str) (m : Int) (Q : VK) (E : XK) : Prop :=
  (comeR d.due d.down = none → ∀ H', Z.Hs (dc A.Disk d) F H' → E (.ref A.Fell) none H') ∧
  (∀ H' d', comeR d.due d.down = some none → After d d' → (d'.rows, d'.pages) = eff w i z m none (d.rows, d.pages) → Z.Hs (dc A.Disk d') F H' → Q .non H') ∧
  ∀ k H' d', comeR d.due d.down = some (some k) → After d d' → (d'.rows, d'.pages) = eff w i z m (some k) (d.rows, d.pages) → Z.Hs (dc A.Disk d') F H' → E (.ref A.Fell) none H'
def sp_Disk___init__ (K : PySem.W.Frag) (A : Adr) : Sp := fun vs H Q _ => ∃ (F : Hp) (p dx : Addr), vs = [.ref p] ∧ Z.Hs [(p, .ins A.Disk dx [])] F H ∧
  ∀ H' (d : Dk), d.p = p → d.rows = [] → d.pages = List.replicate 8 ("" : Str) → d.n = 0 → d.due = none → d.down = false → Z.Hs (dc A.Disk d) F H' → Q .non H'
def sp_Disk_coming (K : PySem.W.Frag) (A : Adr) : Sp := fun vs H Q E => ∃ (F : Hp) (d : Dk), vs = [.ref d.p] ∧ Z.Hs (dc A.Disk d) F H ∧
  (comeR d.due d.down = none → E (.ref A.Fell) none H) ∧ ∀ k H' d', comeR d.due d.down = some k → After d d' → d'.r = d.r → d'.g = d.g → d'.dx = d.dx → d'.rows = d.rows → d'.pages = d.pages → Z.Hs (dc A.Disk d') F H' → Q (match k with | none => .non | some k => .int k) H'
def sp_Disk_page (K : PySem.W.Frag) (A : Adr) : Sp := fun vs H Q _ => ∃ (d : Dk) (i : Nat) (z : Str), vs = [.ref d.p, .int i] ∧ Z.Sees (dc A.Disk d) H ∧ d.pages[i]? = some z ∧ Q (.str z) H
def sp_Disk_writes (K : PySem.W.Frag) (A : Adr) : Sp := fun vs H Q _ => ∃ (d : Dk), vs = [.ref d.p] ∧ Z.Sees (dc A.Disk d) H ∧ Q (.int d.n) H
def sp_Disk_power (K : PySem.W.Frag) (A : Adr) : Sp := fun vs H Q _ => ∃ (F : Hp) (d : Dk), vs = [.ref d.p] ∧ Z.Hs (dc A.Disk d) F H ∧ ∀ H', Z.Hs (dc A.Disk { d with due := none, down := false }) F H' → Q .non H'
def sp_Disk_fall_at (K : PySem.W.Frag) (A : Adr) : Sp := fun vs H Q _ => ∃ (F : Hp) (d : Dk) (a s : Int), vs = [.ref d.p, .int a, .int s] ∧ Z.Hs (dc A.Disk d) F H ∧ ∀ H' t, Z.Hs (dc A.Disk { d with due := some (a, s), t := t }) F H' → Q .non H'
def sp_Disk_put_page (K : PySem.W.Frag) (A : Adr) : Sp := fun vs H Q E => ∃ (F : Hp) (d : Dk) (i : Nat) (z : Str), vs = [.ref d.p, .int i, .str z] ∧ Z.Hs (dc A.Disk d) F H ∧ i < d.pages.length ∧ z.length ≤ 1000 ∧ Deed A F H d 1 i z 0 Q E
theorem ok_Disk_coming (T : Txt K mg A) : ∃ fd, FnOk P w K mg base (L2.CX P w) 1 A.f_Disk_coming fd ["self"] (sp_Disk_coming K A) ∧ Binds K fd ["self"] [] := by
  have ⟨fd, F, b⟩ := T.d_Disk_coming
  refine ⟨fd, F.okX sc_Disk_coming (fun vs H Q E h => ?_) (fun cdv Ar outer s H vs Q E hr h => ?_), b⟩
  · obtain ⟨F0, d, rfl, _⟩ := h
    rfl
  · obtain ⟨F0, d, rfl, S, k0, k1⟩ := h
    have nd := sc_Disk_coming.nd
    have hu := hu_of hr
    refine ⟨_, (pss_cons (ps_if (pt_val (pe_fld (pv 0) rfl)) (pss_one (ps_raise rfl (takes_of rfl rfl rfl rfl) (Z.pmk_own0 PySem.F.excBase_ValueError T.xF_Fell T.g_Fell T.kc_Fell (raises_own T.sb_Fell T.tb_Fell)))) pss_nil)
      (pss_cons (ps_fldaug (pv 0) pe_int in_add)
      (pss_cons (ps_if (pt_cmpR op_isN (pe_fld (pv 0) rfl) pe_non (nomark _)) (pss_one (ps_ret pe_non)) pss_nil)
      (pss_cons (ps_asg (pe_fld (pv 0) rfl) (pg_tup rfl (pgs_cons (pg_name (i := 1) nd rfl (Or.inl rfl)) (pgs_cons (pg_name (i := 2) nd rfl (Or.inl rfl)) pgs_nil))))
      (pss_cons (ps_fld (pv 0) (pe_tup (pa_cons (pe_op op_sub (pv 1) pe_int) (pa_cons (pv 2) pa_nil))) rfl)
      (pss_cons (ps_if (pt_cmpR op_gt (pv 1) pe_int (nomark _)) (pss_one (ps_ret pe_non)) pss_nil)
      (pss_cons (ps_fld (pv 0) pe_non rfl)
      (pss_cons (ps_fld (pv 0) pe_bl rfl)
      (pss_one (ps_ret (pv 2))))))))))), ?_⟩
    simp only [cxOf, Cx.nox, L2.start, List.map_cons, List.map_nil, List.length_cons, List.length_nil, Nat.reduceAdd, Nat.reduceSub, List.replicate, List.cons_append, List.nil_append]
    obtain ⟨p, dx, r, g, rows, pages, n, due, t, down⟩ := d
    have h0 : H p = _ := S.at 0 rfl
    cases down with
    | true =>
      walk_at "z"
      exact k0 rfl
    | false =>
      cases due with
      | none =>
        walk_at "z"
        exact k1 none _ ⟨p, dx, r, g, rows, pages, n + 1, none, t, false⟩ rfl ⟨rfl, rfl, rfl⟩ rfl rfl rfl rfl rfl (S.set 0 rfl _)
      | some as =>
        obtain ⟨a, s⟩ := as
        have S1 := S.set 0 rfl (.ins A.Disk dx (DF r g (n + 1) (.ref t) false))
        walk_at "z"
        refine ⟨t, _, rfl, SqT.of (S1.at 3 rfl), rfl, ?_⟩
        walk_at "z"
        refine ⟨by simp only [List.length_cons, List.length_nil]; decide, fun t2 ht2 => ?_⟩
        have S2 := S1.new (o := .tup [.int (a - 1), .int s]) ht2
        have h2 := S2.at 1 rfl
        walk_at "z"
        have S3 := S2.set 1 rfl (.ins A.Disk dx (DF r g (n + 1) (.ref t2) false))
        have h3 := S3.at 1 rfl
        refine Z.iteD (fun e => ?_) (fun e => ?_)
        · walk_at "z"
          have e' : 0 < a := e
          exact k1 none _ ⟨p, dx, r, g, rows, pages, n + 1, some (a - 1, s), t2, false⟩ (by simp [comeR, e']) ⟨rfl, rfl, by simp [comeS, e']⟩ rfl rfl rfl rfl rfl (S3.pick [1, 2, 3, 0] (by decide) rfl)
        · walk_at "z"
          have e' : ¬ 0 < a := e
          exact k1 (some s) _ ⟨p, dx, r, g, rows, pages, n + 1, none, t2, true⟩ (by simp [comeR, e']) ⟨rfl, rfl, by simp [comeS, e']⟩ rfl rfl rfl rfl rfl (((S3.set 1 rfl _).set 1 rfl (.ins A.Disk dx (DF r g (n + 1) .non true))).pick [1, 2, 3] (by decide) rfl)
theorem ok_Disk_fall_at (T : Txt K mg A) : ∃ fd, FnOk P w K mg base CX0 1 A.f_Disk_fall_at fd ["self", "after", "signs"] (sp_Disk_fall_at K A) ∧ Binds K fd ["self", "after", "signs"] [] := by
  have ⟨fd, F, b⟩ := T.d_Disk_fall_at
  refine ⟨fd, F.ok sc_Disk_fall_at (fun vs H Q E h => ?_) (fun cdv Ar outer s H vs Q E hr h => ?_), b⟩
  · obtain ⟨F0, d, a, s, rfl, _⟩ := h
    rfl
  · obtain ⟨F0, d, a, s, rfl, S, k⟩ := h
    have nd := sc_Disk_fall_at.nd
    have hu := hu_of hr
    refine ⟨_, (pss_one (ps_fld (pv 0) (pe_tup (pa_cons (pv 1) (pa_cons (pv 2) pa_nil))) rfl)), ?_⟩
    simp only [cxOf, Cx.nox, L2.start, List.map_cons, List.map_nil, List.length_cons, List.length_nil, Nat.reduceAdd, Nat.reduceSub, List.replicate, List.cons_append, List.nil_append]
    obtain ⟨p, dx, r, g, rows, pages, n, due, t, down⟩ := d
    have h0 : H p = _ := S.at 0 rfl
    walk_at "z"
    refine ⟨by simp only [List.length_cons, List.length_nil]; decide, fun t2 ht2 => ?_⟩
    have S2 := S.new (o := .tup [.int a, .int s]) ht2
    have h2 := S2.at 1 rfl
    walk_at "z"
    exact k _ t2 ((S2.set 1 rfl (.ins A.Disk dx (DF r g n (.ref t2) down))).pick [1, 2, 3, 0] (by decide) rfl)
theorem ok_Disk_power (T : Txt K mg A) : ∃ fd, FnOk P w K mg base CX0 1 A.f_Disk_power fd ["self"] (sp_Disk_power K A) ∧ Binds K fd ["self"] [] := by
  have ⟨fd, F, b⟩ := T.d_Disk_power
  refine ⟨fd, F.ok sc_Disk_power (fun vs H Q E h => ?_) (fun cdv Ar outer s H vs Q E hr h => ?_), b⟩
  · obtain ⟨F0, d, rfl, _⟩ := h
    rfl
  · obtain ⟨F0, d, rfl, S, k⟩ := h
    have nd := sc_Disk_power.nd
    have hu := hu_of hr
    refine ⟨_, (pss_cons (ps_fld (pv 0) pe_non rfl)
      (pss_one (ps_fld (pv 0) pe_bl rfl))), ?_⟩
    simp only [cxOf, Cx.nox, L2.start, List.map_cons, List.map_nil, List.length_cons, List.length_nil, Nat.reduceAdd, Nat.reduceSub, List.replicate, List.cons_append, List.nil_append]
    obtain ⟨p, dx, r, g, rows, pages, n, due, t, down⟩ := d
    have h0 : H p = _ := S.at 0 rfl
    walk_at "z"
    exact k _ (((S.set 0 rfl _).set 0 rfl (.ins A.Disk dx (DF r g n .non false))).pick [0, 1, 2] (by decide) rfl)
theorem ok_Disk_page (T : Txt K mg A) : ∃ fd, FnOk P w K mg base CX0 1 A.f_Disk_page fd ["self", "slot"] (sp_Disk_page K A) ∧ Binds K fd ["self", "slot"] [] := by
  have ⟨fd, F, b⟩ := T.d_Disk_page
  refine ⟨fd, F.ok sc_Disk_page (fun vs H Q E h => ?_) (fun cdv Ar outer s H vs Q E hr h => ?_), b⟩
  · obtain ⟨d, i, z, rfl, _⟩ := h
    rfl
  · obtain ⟨d, i, z, rfl, S, hi, k⟩ := h
    have nd := sc_Disk_page.nd
    have hu := hu_of hr
    refine ⟨_, (pss_one (ps_ret (pe_ix ix_list (pe_fld (pv 0) rfl) (pv 1) (fun _ _ => rfl)))), ?_⟩
    simp only [cxOf, Cx.nox, L2.start, List.map_cons, List.map_nil, List.length_cons, List.length_nil, Nat.reduceAdd, Nat.reduceSub, List.replicate, List.cons_append, List.nil_append]
    have h0 : H d.p = _ := S.at 0 rfl
    walk_at "z"
    exact ⟨d.g, _, _, _, rfl, rfl, SqL.of (S.at 2 rfl), atI_nat (by rw [List.getElem?_map, hi]; rfl), k⟩
theorem ok_Disk_writes (T : Txt K mg A) : ∃ fd, FnOk P w K mg base CX0 1 A.f_Disk_writes fd ["self"] (sp_Disk_writes K A) ∧ Binds K fd ["self"] [] := by
  have ⟨fd, F, b⟩ := T.d_Disk_writes
  refine ⟨fd, F.ok sc_Disk_writes (fun vs H Q E h => ?_) (fun cdv Ar outer s H vs Q E hr h => ?_), b⟩
  · obtain ⟨d, rfl, _⟩ := h
    rfl
  · obtain ⟨d, rfl, S, k⟩ := h
    have nd := sc_Disk_writes.nd
    have hu := hu_of hr
    refine ⟨_, (pss_one (ps_ret (pe_fld (pv 0) rfl))), ?_⟩
    simp only [cxOf, Cx.nox, L2.start, List.map_cons, List.map_nil, List.length_cons, List.length_nil, Nat.reduceAdd, Nat.reduceSub, List.replicate, List.cons_append, List.nil_append]
    have h0 : H d.p = _ := S.at 0 rfl
    walk_at "z"
    exact k
theorem ok_Disk___init__ (T : Txt K mg A) : ∃ fd, FnOk P w K mg base CX0 1 A.f_Disk___init__ fd ["self"] (sp_Disk___init__ K A) ∧ Binds K fd ["self"] [] := by
  have ⟨fd, F, b⟩ := T.d_Disk___init__
  refine ⟨fd, F.ok sc_Disk___init__ (fun vs H Q E h => ?_) (fun cdv Ar outer s H vs Q E hr h => ?_), b⟩
  · obtain ⟨F0, p, dx, rfl, _⟩ := h
    rfl
  · obtain ⟨F0, p, dx, rfl, S, k⟩ := h
    have nd := sc_Disk___init__.nd
    have hu := hu_of hr
    refine ⟨_, (pss_cons (ps_fld (pv 0) (pe_lst pa_nil) rfl)
      (pss_cons (ps_fld (pv 0) (pe_op op_rep (pe_lst (pa_cons pe_str pa_nil)) (Z.pe_gint rfl T.v_MOST_SLOTS)) rfl)
      (pss_cons (ps_fld (pv 0) pe_int rfl)
      (pss_cons (ps_fld (pv 0) pe_non rfl)
      (pss_one (ps_fld (pv 0) pe_bl rfl)))))), ?_⟩
    simp only [cxOf, Cx.nox, L2.start, List.map_cons, List.map_nil, List.length_cons, List.length_nil, Nat.reduceAdd, Nat.reduceSub, List.replicate, List.cons_append, List.nil_append]
    have hp : H p = _ := S.at 0 rfl
    walk_at "z"
    refine ⟨Nat.zero_le _, fun r hr0 => ?_⟩
    have npr : p ≠ r := ne_of_none hp hr0
    have S1 := (S.new (o := .lst []) hr0).set 1 rfl (.ins A.Disk dx [("held_rows", .ref r)])
    walk_at "z"
    refine ⟨by decide, fun q hq => ?_⟩
    have S2 := S1.new (o := .lst [.str ""]) hq
    walk_at "z"
    refine ⟨q, 8, _, rfl, rfl, S2.at 0 rfl, by decide, by decide, by decide, fun g hg => ?_⟩
    have S3 := (S2.new (o := .lst (List.replicate (8 : Int).toNat [V.str ""]).flatten) hg)
    have hp3 := S3.at 3 rfl
    walk_at "z"
    refine k _ ⟨p, dx, r, g, [], List.replicate 8 "", 0, none, p, false⟩ rfl rfl rfl rfl rfl rfl ((((((S3.set 3 rfl _).set 3 rfl _).set 3 rfl _).set 3 rfl (.ins A.Disk dx (DF r g 0 .non false))).pick [3, 2, 0] (by decide) rfl))
theorem ok_Disk_put_page (T : Txt K mg A) : ∃ fd, FnOk P w K mg base (L2.CX P w) 2 A.f_Disk_put_page fd ["self", "slot", "text"] (sp_Disk_put_page K A) ∧ Binds K fd ["self", "slot", "text"] [] := by
  have ⟨fd, F, b⟩ := T.d_Disk_put_page
  refine ⟨fd, F.okX sc_Disk_put_page (fun vs H Q E h => ?_) (fun cdv Ar outer s H vs Q E hr h => ?_), b⟩
  · obtain ⟨F0, d, i, z, rfl, _⟩ := h
    rfl
  · obtain ⟨F0, d, i, z, rfl, S, hi, hz, k0, k1, k2⟩ := h
    have nd := sc_Disk_put_page.nd
    have hu := hu_of hr
    have ⟨fd_Disk_coming, G_Disk_coming, b_Disk_coming⟩ := ok_Disk_coming (P := P) (w := w) (base := base) T
    refine ⟨_, (pss_cons (ps_set (i := 3) nd rfl (Or.inl rfl) (pe_meth0 (pv 0) T.c_Disk T.m_Disk_coming G_Disk_coming (hr.mono (by decide)) b_Disk_coming .nil (passes_call (takes_of rfl rfl rfl rfl) (fun _ _ _ _ h => h))))
      (pss_cons (ps_if (pt_cmpR op_isN (pv 3) pe_non (nomark _)) (pss_cons (ps_asg (pv 2) (pg_sub (pe_fld (pv 0) rfl) (pv 1) set_list))
      (pss_one ps_retN)) pss_nil)
      (pss_cons (ps_asg (pe_slice sl_str (pv 2) po_none (po_some (pv 3))) (pg_sub (pe_fld (pv 0) rfl) (pv 1) set_list))
      (pss_one (ps_raise rfl (takes_of rfl rfl rfl rfl) (Z.pmk_own0 PySem.F.excBase_ValueError T.xF_Fell T.g_Fell T.kc_Fell (raises_own T.sb_Fell T.tb_Fell))))))), ?_⟩
    simp only [cxOf, Cx.nox, L2.start, List.map_cons, List.map_nil, List.length_cons, List.length_nil, Nat.reduceAdd, Nat.reduceSub, List.replicate, List.cons_append, List.nil_append]
    obtain ⟨p, dx, r, g, rows, pages, n, due, t, down⟩ := d
    have h0 : H p = _ := S.at 0 rfl
    walk_at "z"
    refine ⟨F0, ⟨p, dx, r, g, rows, pages, n, due, t, down⟩, rfl, S, fun c => k0 c H S, fun kk H1 d1 c a e1 e2 e3 e4 e5 S1 => ?_⟩
    obtain ⟨p1, dx1, r1, g1, rows1, pages1, n1, due1, t1, down1⟩ := d1
    obtain rfl : p1 = p := a.p
    obtain rfl : r1 = r := e1
    obtain rfl : g1 = g := e2
    obtain rfl : dx1 = dx := e3
    obtain rfl : rows1 = rows := e4
    obtain rfl : pages1 = pages := e5
    have h1 : H1 p1 = _ := S1.at 0 rfl
    have sp : ∀ y : Str, (pages1.set i y).map V.str = (pages1.map V.str).set i (V.str y) := fun y => List.map_set
    have hi' : i < (pages1.map V.str).length := by rw [List.length_map]; exact hi
    cases kk with
    | none =>
      walk_at "z"
      refine Z.setLE (S1.at 2 rfl) hi' ?_
      walk_at "z"
      refine k1 _ ⟨p1, dx1, r1, g1, rows1, pages1.set i z, n1, due1, t1, down1⟩ c ⟨rfl, a.n, a.st⟩ rfl ?_
      have := S1.set 2 rfl (.lst ((pages1.set i z).map .str))
      show Z.Hs _ F0 (upd H1 g1 (.lst ((pages1.map V.str).set i (V.str z))))
      rw [← sp]
      exact this
    | some kk =>
      walk_at "z"
      refine Z.slS (Nat.le_trans hz (by decide)) ?_
      walk_at "z"
      refine Z.setLE (S1.at 2 rfl) hi' ?_
      walk_at "z"
      refine k2 kk _ ⟨p1, dx1, r1, g1, rows1, pages1.set i (cutS z none (some kk)), n1, due1, t1, down1⟩ c ⟨rfl, a.n, a.st⟩ rfl ?_
      have := S1.set 2 rfl (.lst ((pages1.set i (cutS z none (some kk))).map .str))
      show Z.Hs _ F0 (upd H1 g1 (.lst ((pages1.map V.str).set i (V.str (cutS z none (some kk))))))
      rw [← sp]
      exact this

/-! ### pages as texts -/
def txtD : PyData → Str
  | .int i => Str.ofString (toString i)
  | .str z => z
  | _ => ""
def RowOk (cs : List Col) (ds : List PyData) : Prop := ds.length = cs.length ∧ ∀ (j : Nat) (c : Col) (d : PyData), cs[j]? = some c → ds[j]? = some d → ValD c.2 d
def rowT (ds : List PyData) : Str := Txt.join (" " : Str) (ds.map txtD)
def headT (nm : Str) (l m : Int) : Str := Txt.join (" " : Str) [("page" : Str), nm, Str.ofString (toString l), Str.ofString (toString m)]
def bodyT (nm : Str) (l m : Int) (rows : List (List PyData)) : Str := Txt.join (" | " : Str) (headT nm l m :: rows.map rowT)
def pageT (nm : Str) (l m : Int) (rows : List (List PyData)) : Str := bodyT nm l m rows ++ ";"
/-- without blanks, strokes and the closing sign -/
structure Clean (z : Str) : Prop where
  c : ∀ c ∈ TL.tl z, c ≠ 32 ∧ c ≠ 124 ∧ c ≠ 59
  ok : PyData.strOk z = true
  len : z.length ≤ 11
theorem name_clean {z : Str} (h : Name z) : Clean z := by
  refine ⟨fun c hc => ?_, h.ok, by have := h.2.1; omega⟩
  have m := h.2.2 c hc
  have all : ∀ c ∈ LET.cps.toList, c ≠ 32 ∧ c ≠ 124 ∧ c ≠ 59 := by decide +kernel
  exact all c m
theorem num_clean {i : Int} (h0 : -(10 ^ 9) ≤ i) (h1 : i ≤ 10 ^ 9) : Clean (Str.ofString (toString i)) := by
  obtain ⟨_, hl, ho⟩ := num_facts h0 h1
  refine ⟨fun c hc => ?_, ho, hl⟩
  have hd := TL.numL_digits i.natAbs
  have hc : c ∈ (Str.ofString (toString i)).cps.toList := hc
  rw [tl_int] at hc
  split at hc
  · rcases List.mem_cons.mp hc with h | h
    · omega
    · have := hd c h; omega
  · have := hd c hc; omega
theorem val_clean {k : Str} {d : PyData} (h : ValD k d) : Clean (txtD d) := by
  rcases h with ⟨_, z, rfl, n⟩ | ⟨_, i, rfl, h0, h1⟩
  · exact name_clean n
  · exact num_clean h0 h1
theorem word_clean : Clean ("page" : Str) := ⟨by decide +kernel, by decide +kernel, by decide +kernel⟩
theorem joinL_mem {S : List Nat} {c : Nat} : ∀ {ps : List (List Nat)}, c ∈ TL.joinL S ps → c ∈ S ∨ ∃ p ∈ ps, c ∈ p
  | [], h => by cases h
  | [p], h => .inr ⟨p, List.mem_singleton.mpr rfl, h⟩
  | p :: q :: r, h => by
    rcases List.mem_append.mp (show c ∈ p ++ (S ++ TL.joinL S (q :: r)) from h) with h | h
    · exact .inr ⟨p, List.mem_cons_self, h⟩
    · rcases List.mem_append.mp h with h | h
      · exact .inl h
      · rcases joinL_mem h with h | ⟨x, hx, hc⟩
        · exact .inl h
        · exact .inr ⟨x, List.mem_cons_of_mem _ hx, hc⟩
theorem joinL_len {S : List Nat} {B : Nat} : ∀ {ps : List (List Nat)}, (∀ p ∈ ps, p.length ≤ B) → (TL.joinL S ps).length ≤ ps.length * (B + S.length)
  | [], _ => by simp [TL.joinL]
  | [p], h => by
    have := h p (List.mem_singleton.mpr rfl)
    show p.length ≤ 1 * (B + S.length)
    omega
  | p :: q :: r, h => by
    have h1 := h p List.mem_cons_self
    have h2 := joinL_len (S := S) (B := B) (ps := q :: r) fun x hx => h x (List.mem_cons_of_mem _ hx)
    show (p ++ (S ++ TL.joinL S (q :: r))).length ≤ (q :: r).length.succ * (B + S.length)
    rw [List.length_append, List.length_append, Nat.succ_mul]
    omega
theorem tl_txt_join (y : Str) (ps : List Str) : TL.tl (Txt.join y ps) = TL.joinL (TL.tl y) (ps.map TL.tl) := by rw [TL.join_eq, TL.tl_join]
theorem join_mem {y : Str} {ps : List Str} {c : Nat} (h : c ∈ TL.tl (Txt.join y ps)) : c ∈ TL.tl y ∨ ∃ p ∈ ps, c ∈ TL.tl p := by
  rw [tl_txt_join] at h
  rcases joinL_mem h with h | ⟨x, hx, hc⟩
  · exact .inl h
  · obtain ⟨p, hp, rfl⟩ := List.mem_map.mp hx
    exact .inr ⟨p, hp, hc⟩
theorem join_len {y : Str} {ps : List Str} {B : Nat} (h : ∀ p ∈ ps, p.length ≤ B) : (Txt.join y ps).length ≤ ps.length * (B + y.length) := by
  have := joinL_len (S := TL.tl y) (B := B) (ps := ps.map TL.tl) fun x hx => by
    obtain ⟨p, hp, rfl⟩ := List.mem_map.mp hx
    rw [len_toList]
    exact h p hp
  rw [← tl_txt_join, List.length_map, len_toList, len_toList] at this
  exact this
theorem join_ok {y : Str} {ps : List Str} (hy : PyData.strOk y = true) (h : ∀ p ∈ ps, PyData.strOk p = true) : PyData.strOk (Txt.join y ps) = true := by
  unfold PyData.strOk
  rw [← Array.all_toList, List.all_eq_true]
  intro c hc
  have of : ∀ {z : Str}, PyData.strOk z = true → c ∈ TL.tl z → decide (c < 1114112) = true := fun {z} ho hz => by
    unfold PyData.strOk at ho
    rw [← Array.all_toList, List.all_eq_true] at ho
    exact ho c hz
  rcases join_mem hc with h1 | ⟨p, hp, h1⟩
  · exact of hy h1
  · exact of (h p hp) h1
structure PageOk (cs : List Col) (nm : Str) (l m : Int) (rows : List (List PyData)) : Prop where
  nm : Name nm
  l0 : 0 ≤ l
  l1 : l ≤ 10 ^ 9
  m0 : 0 ≤ m
  m1 : m ≤ 10 ^ 9
  rw : ∀ ds ∈ rows, RowOk cs ds
  many : rows.length ≤ 6
section
variable {cs : List Col} {ds : List PyData} {nm : Str} {l m : Int} {rows : List (List PyData)}
theorem row_vals (h : RowOk cs ds) : ∀ z ∈ ds.map txtD, Clean z := fun z hz => by
  obtain ⟨d, hd, rfl⟩ := List.mem_map.mp hz
  obtain ⟨j, hj⟩ := List.mem_iff_getElem?.mp hd
  have hl := (List.getElem?_eq_some_iff.mp hj).1
  have := h.1
  exact val_clean (h.2 j _ d (List.getElem?_eq_getElem (by omega)) hj)
theorem head_vals (p : PageOk cs nm l m rows) : ∀ z ∈ [("page" : Str), nm, Str.ofString (toString l), Str.ofString (toString m)], Clean z := fun z hz => by
  simp only [List.mem_cons, List.not_mem_nil, or_false] at hz
  rcases hz with rfl | rfl | rfl | rfl
  · exact word_clean
  · exact name_clean p.nm
  · exact num_clean (by have := p.l0; omega) p.l1
  · exact num_clean (by have := p.m0; omega) p.m1
theorem row_split (ok : ColsOk cs) (h : RowOk cs ds) : Txt.split (rowT ds) " " = ds.map txtD :=
  PG.split_blank (fun e => by have h1 := congrArg List.length e; rw [List.length_map, h.1, List.length_nil] at h1; have h2 := ok.lo; omega) fun z hz hc => ((row_vals h z hz).c 32 hc).1 rfl
theorem head_split (p : PageOk cs nm l m rows) : Txt.split (headT nm l m) " " = [("page" : Str), nm, Str.ofString (toString l), Str.ofString (toString m)] :=
  PG.split_blank (by simp) fun z hz hc => ((head_vals p z hz).c 32 hc).1 rfl
theorem tl_one : TL.tl (" " : Str) = [32] := by decide +kernel
theorem clean_join {ps : List Str} (h : ∀ z ∈ ps, Clean z) : 124 ∉ TL.tl (Txt.join (" " : Str) ps) ∧ 59 ∉ TL.tl (Txt.join (" " : Str) ps) ∧ PyData.strOk (Txt.join (" " : Str) ps) = true ∧ (Txt.join (" " : Str) ps).length ≤ ps.length * 12 := by
  refine ⟨fun hc => ?_, fun hc => ?_, join_ok (by decide +kernel) fun z hz => (h z hz).ok, ?_⟩
  · rcases join_mem hc with h1 | ⟨p, hp, h1⟩
    · rw [tl_one] at h1; simp at h1
    · exact ((h p hp).c _ h1).2.1 rfl
  · rcases join_mem hc with h1 | ⟨p, hp, h1⟩
    · rw [tl_one] at h1; simp at h1
    · exact ((h p hp).c _ h1).2.2 rfl
  · have := join_len (y := (" " : Str)) (ps := ps) (B := 11) fun z hz => (h z hz).len
    have l1 : (" " : Str).length = 1 := by decide +kernel
    rw [l1] at this
    exact this
theorem parts_clean (ok : ColsOk cs) (p : PageOk cs nm l m rows) : ∀ z ∈ headT nm l m :: rows.map rowT, 124 ∉ TL.tl z ∧ 59 ∉ TL.tl z ∧ PyData.strOk z = true ∧ z.length ≤ 48 := fun z hz => by
  rcases List.mem_cons.mp hz with rfl | hz
  · obtain ⟨a, b, c, d⟩ := clean_join (head_vals p)
    exact ⟨a, b, c, d⟩
  · obtain ⟨ds, hd, rfl⟩ := List.mem_map.mp hz
    obtain ⟨a, b, c, d⟩ := clean_join (row_vals (p.rw ds hd))
    have h1 := (p.rw ds hd).1
    have h2 := ok.hi
    rw [List.length_map] at d
    exact ⟨a, b, c, by unfold rowT; omega⟩
theorem body_split (ok : ColsOk cs) (p : PageOk cs nm l m rows) : Txt.split (bodyT nm l m rows) " | " = headT nm l m :: rows.map rowT :=
  PG.split_bar (by simp) fun z hz => (parts_clean ok p z hz).1
theorem body_facts (ok : ColsOk cs) (p : PageOk cs nm l m rows) : 59 ∉ TL.tl (bodyT nm l m rows) ∧ PyData.strOk (bodyT nm l m rows) = true ∧ (bodyT nm l m rows).length ≤ 400 := by
  refine ⟨fun hc => ?_, join_ok (by decide +kernel) fun z hz => (parts_clean ok p z hz).2.2.1, ?_⟩
  · rcases join_mem hc with h1 | ⟨z, hz, h1⟩
    · rw [PG.tl_bar] at h1; simp [PG.BAR] at h1
    · exact (parts_clean ok p z hz).2.1 h1
  · have h := join_len (y := (" | " : Str)) (ps := headT nm l m :: rows.map rowT) (B := 48) fun z hz => (parts_clean ok p z hz).2.2.2
    have l1 : (" | " : Str).length = 3 := by decide +kernel
    have h2 := p.many
    rw [l1, List.length_cons, List.length_map] at h
    unfold bodyT
    omega
end

/-! ### schemas made: what fits -/
theorem ws_make {F B : Hp} {x dx C : Addr} (s : Same F B) (nx : B x = none) (ndx : B dx = none) (ne : dx ≠ x) : Z.Ws [(x, .ins C dx [])] F B F (upd (upd B dx (.own x)) x (.ins C dx [])) :=
  ((Z.Ws.init s).exts (Z.same_new ndx)).new (by rw [upd_ne (Ne.symm ne)]; exact nx)
theorem fit_cols {cs : List Col} (ok : ColsOk cs) : Fit3 (.list (cs.map pairD)) := fun d hd => by
  obtain ⟨c, hc, rfl⟩ := List.mem_map.mp hd
  obtain ⟨n, kd⟩ := ok.nm c hc
  refine ⟨trivial, fun x hx => ?_⟩
  simp only [List.mem_cons, List.not_mem_nil, or_false] at hx
  rcases hx with rfl | rfl
  · show Str.length _ ≤ _
    have := n.2.1
    omega
  · show Str.length _ ≤ _
    rcases kd with e | e <;> rw [e] <;> decide +kernel
theorem fit_tab {t : Tab} (n : Name t.1) (ok : ColsOk t.2) : Fit4 (tabD t) := fun d hd => by
  simp only [List.mem_cons, List.not_mem_nil, or_false] at hd
  rcases hd with rfl | rfl
  · have := n.2.1
    exact ⟨by show Str.length _ ≤ _; omega, trivial⟩
  · exact ⟨trivial, fit_cols ok⟩
theorem fit_ords {ts : List Tab} {os : List (Str × Str)} (tk : TabsOk ts) (ok : OrdsOk ts os) : ∀ e ∈ os.map pairD, Fit1 e ∧ Fit2 e := fun e he => by
  obtain ⟨o, ho, rfl⟩ := List.mem_map.mp he
  obtain ⟨t, ht, e1, c, hc, e2⟩ := ok.nm o ho
  obtain ⟨tn, ck⟩ := tk.nm t ht
  have cn := (ck.nm c (List.mem_of_mem_drop hc)).1.2.1
  have tn8 := tn.2.1
  refine ⟨trivial, fun d hd => ?_⟩
  simp only [List.mem_cons, List.not_mem_nil, or_false] at hd
  rcases hd with rfl | rfl
  · show Str.length _ ≤ _
    rw [← e1]
    omega
  · show Str.length _ ≤ _
    rw [← e2]
    omega
theorem same_tab {ts : List Tab} {t t' : Tab} (tk : TabsOk ts) (h : t ∈ ts) (h' : t' ∈ ts) (e : t'.1 = t.1) : t' = t := by
  obtain ⟨i, hi⟩ := List.mem_iff_getElem?.mp h
  obtain ⟨j, hj⟩ := List.mem_iff_getElem?.mp h'
  have n1 : (ts.map (·.1))[i]? = some t.1 := by rw [List.getElem?_map, hi]; rfl
  have n2 : (ts.map (·.1))[j]? = some t.1 := by rw [List.getElem?_map, hj]; exact congrArg some e
  have := nd_ix tk.nd n1 n2
  subst this
  rw [hi] at hj
  exact (Option.some.inj hj).symm
theorem tabs_acc {ts : List Tab} (tk : TabsOk ts) : AccT (.list (ts.map tabD)) ts :=
  ⟨_, .inl rfl, by rw [List.length_map], fun i e t he ht => by
    rw [List.getElem?_map, ht] at he
    cases he
    exact ⟨_, rfl, .inl rfl, (tk.nm t (List.mem_of_getElem? ht)).2⟩, tk⟩
theorem fit_tabs {ts : List Tab} (tk : TabsOk ts) : Fit5 (.list (ts.map tabD)) := fun e he => by
  obtain ⟨t, ht, rfl⟩ := List.mem_map.mp he
  exact fit_tab (tk.nm t ht).1 (tk.nm t ht).2
theorem cutV_int (xs : List Int) (lo hi : Option Int) : ∃ ys : List Int, cutV (xs.map V.int) lo hi = ys.map V.int ∧ ys.length ≤ xs.length := by
  refine ⟨(xs.drop (HT.sIx xs.length 0 lo)).take (HT.sIx xs.length xs.length hi - HT.sIx xs.length 0 lo), ?_, ?_⟩
  · unfold cutV
    rw [List.length_map, List.map_take, List.map_drop]
  · rw [List.length_take, List.length_drop]
    omega
theorem ixDa {K : PySem.W.Frag} {F H : Hp} {Q : VK} {v : V} {ds : List PyData} {z : Int} (h : Dp K F v (.list ds)) (s : Same F H) (h0 : 0 ≤ z) (h1 : z < ds.length) (k : ∀ w d, d ∈ ds → ds[z.toNat]? = some d → Dp K F w d → Q w H) : rIxL K v (.int z) H Q := by
  have e : ds[z.toNat]? = some (ds[z.toNat]'(by omega)) := List.getElem?_eq_getElem _
  have := Z.ixD h s z.toNat e fun w hw => k w _ (List.getElem_mem _) e hw
  rwa [show ((z.toNat : Nat) : Int) = z by omega] at this

/-! ### cuts of pages -/
theorem cut_but {b : Str} {c : Nat} : cutS (b ++ ⟨#[c]⟩) none (some (-1)) = b ∧ cutS (b ++ ⟨#[c]⟩) (some (-1)) none = ⟨#[c]⟩ := by
  have hl : (b ++ (⟨#[c]⟩ : Str)).length = b.length + 1 := Array.size_append
  have ht : (b ++ (⟨#[c]⟩ : Str)).cps.toList = b.cps.toList ++ [c] := TL.tl_append b ⟨#[c]⟩
  have hb : b.cps.toList.length = b.length := Array.length_toList
  have e : HT.sIx (b.length + 1) (b.length + 1) (some (-1)) = b.length := by
    simp only [HT.sIx]
    rw [if_pos (by decide)]
    omega
  have e0 : HT.sIx (b.length + 1) 0 (some (-1)) = b.length := by
    simp only [HT.sIx]
    rw [if_pos (by decide)]
    omega
  constructor
  · unfold cutS
    rw [hl, e, HT.sIx_none, ht, List.drop_zero, Nat.sub_zero, ← hb, List.take_left]
  · unfold cutS
    rw [hl, e0, HT.sIx_none, ht, ← hb, List.drop_left, List.take_of_length_le (by simp)]
theorem tl_cut {z : Str} {lo hi : Option Int} {c : Nat} (h : c ∈ TL.tl (cutS z lo hi)) : c ∈ TL.tl z := by
  unfold cutS at h
  exact List.mem_of_mem_drop (List.mem_of_mem_take h)
theorem no_end {z : Str} (h : 59 ∉ TL.tl z) : cutS z (some (-1)) none ≠ ";" := fun e => by
  have : 59 ∈ TL.tl (cutS z (some (-1)) none) := by rw [e]; decide +kernel
  exact h (tl_cut this)
theorem torn {b : Str} {m : Nat} (hb : 59 ∉ TL.tl b) (hm : m < (b ++ ";" : Str).length) : 59 ∉ TL.tl (cutS (b ++ ";") none (some (m : Int))) := fun h => by
  have hl : (b ++ (";" : Str)).length = b.length + 1 := Array.size_append
  have ht : TL.tl (b ++ (";" : Str)) = TL.tl b ++ [59] := TL.tl_append b ";"
  unfold cutS at h
  rw [HT.sIx_nat, HT.sIx_none] at h
  have h' : 59 ∈ (TL.tl (b ++ (";" : Str))).take m := by
    rw [Nat.min_eq_left (by omega)] at h
    simpa using h
  rw [ht, List.take_append_of_le_length (by rw [show (TL.tl b).length = b.length from Array.length_toList]; omega)] at h'
  exact hb (List.mem_of_mem_take h')
/-- what is no page: it does not end as one -/
def NotPage (z : Str) : Prop := cutS z (some (-1)) none ≠ ";"
/-! ### words for texts -/
section
variable {K : PySem.W.Frag} {L : List (Addr × HO)} {F0 H0 F H : Hp} {Q : VK}
theorem joinE {sep : Str} {D : Addr} {ys : List Str} (h : SqL K H D (ys.map V.str)) (B : ∀ z ∈ ys, z.length ≤ 1000) (hl : ys.length ≤ 1000) (hs : sep.length ≤ 10) (k : Q (.str (Txt.join sep ys)) H) :
    ∃ a p, ∃ zs : List Str, (V.str sep) = .str a ∧ [V.ref D] = [.ref p] ∧ (SqL K H p (zs.map V.str) ∨ SqT K H p (zs.map V.str)) ∧ (zs.map (·.length)).sum + zs.length * a.length ≤ 16777216 ∧ Q (.str (Txt.join a zs)) H := by
  refine ⟨sep, D, ys, rfl, rfl, .inl h, ?_, k⟩
  have : ∀ zs : List Str, (∀ z ∈ zs, z.length ≤ 1000) → (zs.map (·.length)).sum ≤ zs.length * 1000 := by
    intro zs
    induction zs with
    | nil => intro _; simp
    | cons z r ih =>
      intro hz
      have h1 := hz z List.mem_cons_self
      have h2 := ih fun y hy => hz y (List.mem_cons_of_mem _ hy)
      rw [List.map_cons, List.sum_cons, List.length_cons, Nat.succ_mul]
      omega
  have h1 := this ys B
  have h2 : ys.length * sep.length ≤ 1000 * 10 := Nat.mul_le_mul hl hs
  omega
theorem splitW (W : Z.Ws L F0 H0 F H) {z s : Str} (hz : z.length ≤ 100000) (hs : (s.length == 0) = false) (k : ∀ p H', Z.Ws ((p, .lst ((Txt.split z s).map .str)) :: L) F0 H0 F H' → Q (.ref p) H') :
    ∃ a b, (V.str z) = .str a ∧ [V.str s] = [.str b] ∧ (b.length == 0) = false ∧ a.length + 2 ≤ sizeLine ∧ rNewStrs (Txt.split a b) H Q :=
  ⟨z, s, rfl, rfl, hs, by rw [sizeLine_eq]; omega, fun p hp => k p _ (W.new hp)⟩
end
def valV : PyData → V
  | .int i => .int i
  | .str z => .str z
  | _ => .non
theorem valD_dp {K : PySem.W.Frag} {F : Hp} {k : Str} {d : PyData} (h : ValD k d) : Dp K F (valV d) d := by
  rcases h with ⟨_, z, rfl, n⟩ | ⟨_, i, rfl, h0, h1⟩
  · exact .str z
  · exact .int i
/-- the value that a value's text writes -/
theorem val_back {k : Str} {d : PyData} (h : ValD k d) : ∃ r, ((k = "word" ∧ r = optS (if Name (txtD d) then some (txtD d) else none)) ∨ (k = "number" ∧ r = optN (numIn (txtD d)))) ∧ r = valV d := by
  rcases h with ⟨rfl, z, rfl, n⟩ | ⟨rfl, i, rfl, h0, h1⟩
  · exact ⟨_, .inl ⟨rfl, rfl⟩, by show optS (if Name z then _ else _) = _; rw [if_pos n]; rfl⟩
  · exact ⟨_, .inr ⟨rfl, rfl⟩, by show optN (numIn (Str.ofString (toString i))) = _; rw [(num_facts h0 h1).1]; rfl⟩
theorem rows_dp {K : PySem.W.Frag} {F : Hp} : ∀ {cs : List Col} {ds : List PyData}, RowOk cs ds → DpAll K F (ds.map valV) ds := by
  intro cs ds h
  have all : ∀ d ∈ ds, Dp K F (valV d) d := fun d hd => by
    obtain ⟨j, hj⟩ := List.mem_iff_getElem?.mp hd
    have hl := (List.getElem?_eq_some_iff.mp hj).1
    have := h.1
    exact valD_dp (h.2 j _ d (List.getElem?_eq_getElem (by omega)) hj)
  clear h
  induction ds with
  | nil => exact .nil
  | cons d r ih => exact .cons (all d List.mem_cons_self) (ih fun x hx => all x (List.mem_cons_of_mem _ hx))
theorem iZipE {K : PySem.W.Frag} {ta : TA} {σ : L2.St} {H : Hp} {R : It → Hp → Prop} (h : ta σ H fun vs H1 => ∃ a b xs ys, vs = [.ref a, .ref b] ∧ SqL K H1 a xs ∧ SqL K H1 b ys ∧ R (Itz K a b) H1) : iZip K ta σ H R := h
local macro_rules | `(tactic| walk_at "z1") => `(tactic| (with_reducible refine iZipE ?_))
theorem row_val {cs : List Col} {ds : List PyData} (row : RowOk cs ds) : ∀ d ∈ ds, ∃ k, ValD k d := fun d hd => by
  obtain ⟨j, hj⟩ := List.mem_iff_getElem?.mp hd
  have hl := (List.getElem?_eq_some_iff.mp hj).1
  have := row.1
  exact ⟨_, row.2 j _ d (List.getElem?_eq_getElem (by omega)) hj⟩
theorem valV_flat {k : Str} {d : PyData} (h : ValD k d) : flatV (valV d) = true ∧ eqV (valV d) .non = false := by
  rcases h with ⟨_, z, rfl, n⟩ | ⟨_, i, rfl, h0, h1⟩ <;> exact ⟨rfl, rfl⟩
theorem noNone {K : PySem.W.Frag} {H : Hp} {Q : VK} {p : Addr} {ds : List PyData} (h : SqL K H p (ds.map valV)) (hv : ∀ d ∈ ds, ∃ k, ValD k d) (k : Q (.bl false) H) : rIn K false .non (.ref p) H Q := by
  refine ⟨p, _, rfl, .inl h, rfl, ?_, ?_⟩
  · rw [List.all_map]
    refine List.all_eq_true.mpr fun d hd => ?_
    obtain ⟨kk, hk⟩ := hv d hd
    exact (valV_flat hk).1
  · rw [if_neg Bool.false_ne_true]
    have : inV .non (ds.map valV) = false := by
      unfold inV
      rw [List.any_map]
      refine List.any_eq_false.mpr fun d hd => ?_
      obtain ⟨kk, hk⟩ := hv d hd
      show ¬ eqV (valV d) .non = true
      rw [(valV_flat hk).2]
      exact Bool.false_ne_true
    rw [this]
    exact k
def sp_values_in (K : PySem.W.Frag) (A : Adr) : Sp := fun vs H Q _ => ∃ (F : Hp) (ca wa : Addr) (cx : List V) (cs : List Col) (ds : List PyData), vs = [.ref ca, .ref wa] ∧ Same F H ∧ SqL K H ca cx ∧ DpAll K F cx (cs.map pairD) ∧ SqL K H wa ((ds.map txtD).map .str) ∧ ColsOk cs ∧ RowOk cs ds ∧
  ∀ F' H' r, Z.Gr F H F' H' → Dp K F' r (.tuple ds) → Q r H'
theorem ok_values_in (T : Txt K mg A) : ∃ fd, FnOk P w K mg base CX0 3 A.f_values_in fd ["columns", "words"] (sp_values_in K A) ∧ Binds K fd ["columns", "words"] [] := by
  have ⟨fd, F, b⟩ := T.d_values_in
  refine ⟨fd, F.ok sc_values_in (fun vs H Q E h => ?_) (fun cdv Ar outer s H vs Q E hr h => ?_), b⟩
  · obtain ⟨F0, ca, wa, cx, cs, ds, rfl, _⟩ := h
    rfl
  · obtain ⟨F0, ca, wa, cx, cs, ds, rfl, sm, hc, hcx, hw, ok, row, k⟩ := h
    have nd := sc_values_in.nd
    have hu := hu_of hr
    have ⟨fd_value_in, G_value_in, b_value_in⟩ := ok_value_in (P := P) (w := w) (base := base) T
    refine ⟨_, (pss_cons (ps_if (pt_cmpR op_ne (pe_callB call_len_seq (by rfl) T.b_len PySem.boot_len (pa_cons (pv 1) pa_nil)) (pe_callB call_len_seq (by rfl) T.b_len PySem.boot_len (pa_cons (pv 0) pa_nil)) (nomark _)) (pss_one (ps_ret pe_non)) pss_nil)
      (pss_cons (ps_setLc (i := 2) rfl nd rfl rfl (sw_true rfl rfl rfl (by decide +kernel)) (own := [("column", 3), ("word", 4)]) (pi_zip (by rfl) T.b_zip (pa_cons (pv 0) (pa_cons (pv 1) pa_nil))) (blkOk_by (own := [("column", 3), ("word", 4)]) (N := ["columns", "words", "values", "column", "word"]) (sc := defScope s_values_in) (by decide +kernel)) (fun _ _ _ _ _ => (pg_tupK (K := K) (n := 2) rfl rfl (pgs_cons (pg_name (i := 3) nd rfl (Or.inl rfl)) (pgs_cons (pg_name (i := 4) nd rfl (Or.inl rfl)) pgs_nil)))) (fun _ _ _ _ _ => pts_nil) (fun _ _ _ _ _ => (pe_call G_value_in (hr.mono (by decide)) (by rfl) T.g_value_in T.d_value_in.kp b_value_in .nil pass0 (pa_cons (pe_ix (ix_tupK (K := K) rfl) (pv 3) pe_int (fun _ _ => rfl)) (pa_cons (pv 4) pa_nil)))))
      (pss_cons (ps_if (pt_cmpR op_in_seq pe_non (pv 2) (by rfl)) (pss_one (ps_ret pe_non)) pss_nil)
      (pss_one (ps_ret (pe_callTy call_tuple_of (by rfl) T.b_tuple (by decide +kernel) (pa_cons (pv 2) pa_nil))))))), ?_⟩
    simp only [cxOf, Cx.nox, L2.start, List.map_cons, List.map_nil, List.length_cons, List.length_nil, Nat.reduceAdd, Nat.reduceSub, List.replicate, List.cons_append, List.nil_append]
    have chi := ok.hi
    have hcl := Z.dpa_len hcx
    rw [List.length_map] at hcl
    have hrl := row.1
    walk_at "z"
    refine Z.lenSeq hw ?_
    walk_at "z"
    refine Z.lenSeq hc ?_
    rw [List.length_map, List.length_map, hcl, hrl]
    walk_at "z"
    refine ⟨ca, wa, _, _, rfl, hc, hw, fun D hD => ?_⟩
    have W0 := (Z.Ws.init sm).new (o := .lst []) hD
    refine lc_it (walk_zip (n := cs.length) (by rw [List.length_map, List.length_map]; omega)) (fun i H' => Z.Ws [(D, .lst ((ds.take i).map valV))] F0 H F0 H') W0 (fun i H' hi W => ⟨W.same.seq hc, W.same.seq hw⟩) ?_ ?_
    · rintro i x H1 H2 hi W1 ⟨T1, x1, x2, rfl, hT, rfl, e1, e2⟩
      have W2 := W1.exts (Z.same_new (o := .tup [x1, x2]) hT)
      have gT : upd H1 T1 (.tup [x1, x2]) T1 = _ := upd_same
      generalize upd H1 T1 (.tup [x1, x2]) = H2 at W2 gT ⊢
      have e1 : cx[i]? = some x1 := e1
      obtain ⟨dc, g1, g2⟩ := Z.dpa_ix hcx e1
      rw [List.getElem?_map] at g1
      obtain ⟨c, hci, rfl⟩ := Option.map_eq_some_iff.mp g1
      have e2 : ((ds.map txtD).map V.str)[i]? = some x2 := e2
      rw [List.getElem?_map, List.getElem?_map] at e2
      obtain ⟨z, e3, rfl⟩ := Option.map_eq_some_iff.mp e2
      obtain ⟨d, hdi, rfl⟩ := Option.map_eq_some_iff.mp e3
      have vd := row.2 i c d hci hdi
      refine ⟨T1, _, rfl, SqT.of gT, rfl, ?_⟩
      walk_at "z"
      refine ⟨rfl, ?_⟩
      walk_at "z"
      refine Z.ixT g2 W2.fh 1 rfl fun w hw => ?_
      cases Z.dp_str hw
      walk_at "z"
      obtain ⟨r, hr, rfl⟩ := val_back vd
      refine ⟨c.2, txtD d, _, rfl, by have := (val_clean vd).len; omega, hr, ?_⟩
      walk_at "z"
      refine ⟨_, W2.at 0 rfl, by rw [List.length_map, List.length_take]; exact Nat.lt_of_le_of_lt (show _ ≤ 1000 by omega) (by decide), ?_⟩
      rw [List.take_add_one, hdi, List.map_append]
      exact W2.set 0 rfl _
    · rintro H1 W1
      rw [List.take_of_length_le (by omega)] at W1
      walk_at "z"
      refine noNone (SqL.of (W1.at 0 rfl)) (row_val row) ?_
      walk_at "z"
      refine ⟨D, _, rfl, .inl ⟨SqL.of (W1.at 0 rfl), fun p hp => ?_⟩⟩
      have W2 := W1.dat (o := .tup (ds.map valV)) hp
      exact k _ _ _ W2.g (.tup (SqT.of upd_same) (rows_dp row))
def sp_count_from (K : PySem.W.Frag) (A : Adr) : Sp := fun vs H Q _ => ∃ (i : Int), vs = [.str (Str.ofString (toString i))] ∧ 0 ≤ i ∧ i ≤ 10 ^ 9 ∧ Q (.int i) H
theorem ok_count_from (T : Txt K mg A) : ∃ fd, FnOk P w K mg base CX0 3 A.f_count_from fd ["word"] (sp_count_from K A) ∧ Binds K fd ["word"] [] := by
  have ⟨fd, F, b⟩ := T.d_count_from
  refine ⟨fd, F.ok sc_count_from (fun vs H Q E h => ?_) (fun cdv Ar outer s H vs Q E hr h => ?_), b⟩
  · obtain ⟨i, rfl, _⟩ := h
    rfl
  · obtain ⟨i, rfl, h0, h1, k⟩ := h
    have nd := sc_count_from.nd
    have hu := hu_of hr
    have ⟨fd_value_in, G_value_in, b_value_in⟩ := ok_value_in (P := P) (w := w) (base := base) T
    refine ⟨_, (pss_cons (ps_set (i := 1) nd rfl (Or.inl rfl) (pe_call G_value_in (hr.mono (by decide)) (by rfl) T.g_value_in T.d_value_in.kp b_value_in .nil pass0 (pa_cons pe_str (pa_cons (pv 0) pa_nil))))
      (pss_cons (ps_if (PW.pt (pw_or (pt_cmpR op_isN (pv 1) pe_non (nomark _)) (pw_or1 (pt_cmpR op_lt (pv 1) pe_int (nomark _))))) (pss_one (ps_ret pe_non)) pss_nil)
      (pss_one (ps_ret (pv 1))))), ?_⟩
    simp only [cxOf, Cx.nox, L2.start, List.map_cons, List.map_nil, List.length_cons, List.length_nil, Nat.reduceAdd, Nat.reduceSub, List.replicate, List.cons_append, List.nil_append]
    walk_at "z"
    obtain ⟨nf, nl, _⟩ := num_facts (i := i) (by omega) h1
    refine ⟨"number", _, _, rfl, by omega, .inr ⟨rfl, rfl⟩, ?_⟩
    rw [nf, show optN (some i) = V.int i from rfl]
    walk_at "z"
    refine Z.iteD (fun h => absurd h (by omega)) (fun h => ?_)
    walk_at "z"
    exact k
/-! ### flat data, laid out -/
def flatOk : PyData → Prop
  | .int _ => True
  | .bool _ => True
  | .none => True
  | .str z => PyData.strOk z = true
  | _ => False
theorem lay_flats : ∀ {ds : List PyData}, (∀ d ∈ ds, flatOk d) → PyData.canLayAll0 ds = true
  | [], _ => by simp [PyData.canLayAll0]
  | d :: r, h => by
    rw [PyData.canLayAll0, lay_flats fun y hy => h y (List.mem_cons_of_mem _ hy), Bool.and_true]
    have := h d List.mem_cons_self
    cases d <;> first | exact this | (simp [PyData.canLay0]; done) | exact this.elim
theorem depth_flats : ∀ {ds : List PyData}, (∀ d ∈ ds, flatOk d) → PyData.depthAll ds = 0
  | [], _ => by simp [PyData.depthAll]
  | d :: r, h => by
    rw [PyData.depthAll, depth_flats fun y hy => h y (List.mem_cons_of_mem _ hy)]
    have := h d List.mem_cons_self
    cases d <;> first | (simp [PyData.depth]; done) | exact this.elim
theorem shaped_flats {ds : List PyData} (h : ∀ d ∈ ds, flatOk d) : SeqAt.shaped (.list ds) = true := by
  unfold SeqAt.shaped
  rw [Bool.and_eq_true]
  refine ⟨by rw [PyData.canLay0]; exact lay_flats h, decide_eq_true ?_⟩
  rw [PyData.depth, depth_flats h]
  decide

theorem val_flat {k : Str} {d : PyData} (h : ValD k d) : flatOk d := by
  rcases h with ⟨_, z, rfl, n⟩ | ⟨_, i, rfl, h0, h1⟩
  · exact n.ok
  · exact trivial
theorem lay_rows : ∀ {rows : List (List PyData)}, (∀ ds ∈ rows, ∀ d ∈ ds, flatOk d) → PyData.canLayAll0 (rows.map PyData.tuple) = true
  | [], _ => by simp [PyData.canLayAll0]
  | ds :: r, h => by
    rw [List.map_cons, PyData.canLayAll0, lay_rows fun x hx => h x (List.mem_cons_of_mem _ hx), Bool.and_true, PyData.canLay0]
    exact lay_flats (h ds List.mem_cons_self)
theorem depth_rows : ∀ {rows : List (List PyData)}, (∀ ds ∈ rows, ∀ d ∈ ds, flatOk d) → PyData.depthAll (rows.map PyData.tuple) ≤ 1
  | [], _ => by simp [PyData.depthAll]
  | ds :: r, h => by
    have h1 := depth_rows fun x hx => h x (List.mem_cons_of_mem _ hx)
    have h2 := depth_flats (h ds List.mem_cons_self)
    rw [List.map_cons, PyData.depthAll, PyData.depth, h2]
    omega
theorem shaped_rows {rows : List (List PyData)} (h : ∀ ds ∈ rows, ∀ d ∈ ds, flatOk d) : SeqAt.shaped (.list (rows.map PyData.tuple)) = true := by
  have h1 := depth_rows h
  unfold SeqAt.shaped
  rw [Bool.and_eq_true]
  refine ⟨by rw [PyData.canLay0]; exact lay_rows h, decide_eq_true ?_⟩
  rw [PyData.depth]
  omega
theorem eqv_nilL (xs : List PyData) : PyData.eqv (.list xs) (.list []) = decide (xs = []) := by
  cases xs <;> simp [PyData.eqv, PyData.eqvAll]
/-- one key below another -/
def keyLt : PyData → PyData → Prop
  | .int i, .int j => i < j
  | .str a, .str b => a.cps.toList < b.cps.toList
  | _, _ => False
def RowLt (a b : List PyData) : Prop := ∃ x y, a[0]? = some x ∧ b[0]? = some y ∧ keyLt x y
def Rising (rows : List (List PyData)) : Prop := rows.Pairwise RowLt
theorem ixLast {K : PySem.W.Frag} {H : Hp} {Q : VK} {a : Addr} {vs : List V} {v : V} (h : SqL K H a (vs ++ [v])) (k : Q v H) : rIxL K (.ref a) (.int (-1)) H Q := by
  refine ⟨a, vs ++ [v], -1, v, rfl, rfl, h, ?_, k⟩
  have : ixN (vs ++ [v]).length (-1) = some vs.length := by
    unfold ixN
    rw [if_neg (by decide), if_pos (by rw [List.length_append, List.length_singleton]; omega), List.length_append, List.length_singleton]
    congr 1
    omega
  unfold atI
  rw [this]
  simp
def rLtA : R2 := fun x y H Q => (∃ i j, x = .int i ∧ y = .int j ∧ Q (.bl (decide (i < j))) H) ∨ (∃ a b, x = .str a ∧ y = .str b ∧ Q (.bl (decide (a.cps.toList < b.cps.toList))) H)
theorem lt_keys {H : Hp} {Q : VK} {x y : PyData} (h : keyLt x y) (k : Q (.bl true) H) : rLtA (valV x) (valV y) H Q := by
  cases x <;> cases y <;> first | exact h.elim | skip
  · rename_i i j
    have h : i < j := h
    exact .inl ⟨i, j, rfl, rfl, by rw [decide_eq_true h]; exact k⟩
  · rename_i a b
    have h : a.cps.toList < b.cps.toList := h
    exact .inr ⟨a, b, rfl, rfl, by rw [decide_eq_true h]; exact k⟩
theorem op_ltA {X : Cx} : OpR X (compareOp .Lt) rLtA := by
  rintro pins s σ H x y v u Q I rx ry (⟨i, j, rfl, rfl, q⟩ | ⟨a, b, rfl, rfl, q⟩)
  · exact op_lt pins s σ H _ _ v u Q I rx ry ⟨i, j, rfl, rfl, q⟩
  · exact op_lt_str pins s σ H _ _ v u Q I rx ry ⟨a, b, rfl, rfl, q⟩
theorem dp_val {K : PySem.W.Frag} {F : Hp} {k : Str} {d : PyData} {v : V} (h : ValD k d) (hv : Dp K F v d) : v = valV d := by
  rcases h with ⟨_, z, rfl, n⟩ | ⟨_, i, rfl, h0, h1⟩
  · exact Z.dp_str hv
  · exact Z.dp_int hv
theorem rise_at {rows : List (List PyData)} (h : Rising rows) {j : Nat} {a b : List PyData} (ha : rows[j]? = some a) (hb : rows[j + 1]? = some b) : RowLt a b := by
  obtain ⟨h1, e1⟩ := List.getElem?_eq_some_iff.mp ha
  obtain ⟨h2, e2⟩ := List.getElem?_eq_some_iff.mp hb
  have := List.pairwise_iff_getElem.mp h j (j + 1) h1 h2 (by omega)
  rwa [e1, e2] at this
def sp_rows_in (K : PySem.W.Frag) (A : Adr) : Sp := fun vs H Q _ => ∃ (F : Hp) (ca pa : Addr) (cx : List V) (cs : List Col) (rows : List (List PyData)), vs = [.ref ca, .ref pa] ∧ Same F H ∧ SqL K H ca cx ∧ DpAll K F cx (cs.map pairD) ∧ SqL K H pa ((rows.map rowT).map .str) ∧ ColsOk cs ∧ (∀ ds ∈ rows, RowOk cs ds) ∧ Rising rows ∧ rows.length ≤ 60 ∧
  ∀ F' H' q vs', Z.Ws [(q, .lst vs')] F H F' H' → DpAll K F' vs' (rows.map .tuple) → Q (.ref q) H'
theorem ok_rows_in (T : Txt K mg A) : ∃ fd, FnOk P w K mg base CX0 4 A.f_rows_in fd ["columns", "parts"] (sp_rows_in K A) ∧ Binds K fd ["columns", "parts"] [] := by
  have ⟨fd, F, b⟩ := T.d_rows_in
  refine ⟨fd, F.ok sc_rows_in (fun vs H Q E h => ?_) (fun cdv Ar outer s H vs Q E hr h => ?_), b⟩
  · obtain ⟨F0, ca, pa, cx, cs, rows, rfl, _⟩ := h
    rfl
  · obtain ⟨F0, ca, pa, cx, cs, rows, rfl, sm, hc, hcx, hp, ok, hrow, ris, hmany, k⟩ := h
    have nd := sc_rows_in.nd
    have hu := hu_of hr
    have ⟨fd_values_in, G_values_in, b_values_in⟩ := ok_values_in (P := P) (w := w) (base := base) T
    refine ⟨_, (pss_cons (ps_set (i := 2) nd rfl (Or.inl rfl) (pe_lst pa_nil))
      (pss_cons (ps_for PassesOwn.never rfl (pi_list (pv 1)) (pg_name (i := 3) nd rfl (Or.inl rfl)) (pss_cons (ps_set (i := 4) nd rfl (Or.inl rfl) (pe_call G_values_in (hr.mono (by decide)) (by rfl) T.g_values_in T.d_values_in.kp b_values_in .nil pass0 (pa_cons (pv 0) (pa_cons (pe_split (pv 3) pe_str) pa_nil))))
      (pss_cons (ps_if (PW.pt (pw_or (pt_cmpR op_isN (pv 4) pe_non (nomark _)) (pw_or1 (PW.pt (pw_and (pt_cmpR (op_neD hr.units) (pv 2) (pe_lst pa_nil) (nomark _)) (pw_and1 (pt_not (pt_cmpR op_ltA (pe_ix ix_tup (pe_ix ix_list (pv 2) (pe_un un_neg pe_int) (fun _ _ => rfl)) pe_int (fun _ _ => rfl)) (pe_ix ix_tup (pv 4) pe_int (fun _ _ => rfl)) (nomark _))))))))) (pss_one (ps_ret pe_non)) pss_nil)
      (pss_one (ps_expr (pe_bm PySem.F.plainAttrs_list PySem.F.slot_list_append PySem.F.type_list_append mt_append (pv 2) (pa_cons (pv 4) pa_nil)))))))
      (pss_one (ps_ret (pv 2))))), ?_⟩
    simp only [cxOf, Cx.nox, L2.start, List.map_cons, List.map_nil, List.length_cons, List.length_nil, Nat.reduceAdd, Nat.reduceSub, List.replicate, List.cons_append, List.nil_append]
    walk_at "z"
    refine Z.lstW (Z.Ws.init sm) fun q H1 W1 => ?_
    walk_at "z"
    refine ⟨pa, rfl, ⟨_, W1.same.seq hp⟩, for_it walk_list (fun i σ H' => (∃ v3 v4, σ = [some (.ref ca), some (.ref pa), some (.ref q), v3, v4]) ∧ ∃ F' vs, Z.Ws [(q, .lst vs)] F0 H F' H' ∧ DpAll K F' vs ((rows.take i).map .tuple)) ⟨⟨_, _, rfl⟩, F0, [], W1, .nil⟩ (fun i σ H' hi ⟨_, F', vs, W, _⟩ => W.same.seq hp) ?_ ?_⟩
    · rintro i x σ H2 H3 hi ⟨⟨v3, v4, rfl⟩, F2, vs, W2, hvs⟩ ⟨rfl, hx⟩
      rw [List.getElem?_map, List.getElem?_map] at hx
      obtain ⟨z, e1, rfl⟩ := Option.map_eq_some_iff.mp hx
      obtain ⟨ds, hds, rfl⟩ := Option.map_eq_some_iff.mp e1
      have row := hrow ds (List.mem_of_getElem? hds)
      have sp := row_split ok row
      have zl : (rowT ds).length ≤ 1000 := by
        obtain ⟨_, _, _, h⟩ := clean_join (row_vals row)
        have := ok.hi
        rw [List.length_map, row.1] at h
        unfold rowT
        omega
      walk_at "z"
      refine ⟨⟨_, rfl⟩, ?_⟩
      walk_at "z"
      refine splitW W2 (z := rowT ds) (s := " ") (by omega) (by decide +kernel) fun p H4 W4 => ?_
      rw [sp] at W4
      refine ⟨F2, ca, p, cx, cs, ds, rfl, W4.fh, W4.same.seq hc, Z.dpa_same W4.f0 hcx, SqL.of (W4.at 0 rfl), ok, row, fun F5 H5 r g5 hr => ?_⟩
      have W5 := (W4.ext g5).pick [1] (L' := [_]) (by decide) rfl
      have hvs5 := Z.dpa_same g5.f hvs
      obtain ⟨ra, rx, rfl, hra, hrx⟩ := Z.dp_tup hr
      walk_at "z"
      have fl : ∀ ds ∈ rows.take i, ∀ d ∈ ds, flatOk d := fun ds hd d hdd => by
        obtain ⟨kk, hk⟩ := row_val (hrow ds (List.mem_of_mem_take hd)) d hdd
        exact val_flat hk
      have hvl := Z.dpa_len hvs5
      have hil := (List.getElem?_eq_some_iff.mp hds).1
      rw [List.length_map, List.length_take, Nat.min_eq_left (by omega)] at hvl
      refine Z.lstD (K := K) W5 .nil fun r6 F6 H6 W6 s6 hr6 => ?_
      refine ⟨_, _, .lst (SqL.of (W6.at 0 rfl)) (Z.dpa_same (s6.trans W6.fh) hvs5), Z.dp_same W6.fh hr6, shaped_rows fl, shaped_rows (rows := []) (fun ds h => nomatch h), ?_⟩
      rw [eqv_nilL]
      have done : ∀ {H' : Hp}, Z.Ws [(q, .lst vs)] F0 H F6 H' → ∀ {Q : VK}, (∀ H'', Z.Ws [(q, .lst (vs ++ [.ref ra]))] F0 H F6 H'' → Q .non H'') → rAppend (.ref q) [.ref ra] H' Q := fun W Q h => Z.appW W 0 rfl (fun H'' W'' => h H'' W'') (by omega)
      have hnew : DpAll K F6 (vs ++ [.ref ra]) ((rows.take (i + 1)).map .tuple) := by
        rw [List.take_add_one, hds, List.map_append]
        exact Z.dpa_snoc (Z.dpa_same s6 hvs5) (Z.dp_same s6 hr)
      by_cases i0 : i = 0
      · subst i0
        rw [decide_eq_true (show (rows.take 0).map PyData.tuple = [] from rfl)]
        walk_at "z"
        refine ⟨.inl ⟨rfl, _, SqL.of (W6.at 0 rfl)⟩, ?_⟩
        walk_at "z"
        refine done W6 fun H7 W7 => ?_
        walk_at "z"
        exact ⟨⟨_, _, rfl⟩, F6, _, W7, hnew⟩
      · obtain ⟨j, rfl⟩ : ∃ j, i = j + 1 := ⟨i - 1, by omega⟩
        rw [decide_eq_false (show ¬ (rows.take (j + 1)).map PyData.tuple = [] from fun e => by have := congrArg List.length e; rw [List.length_map, List.length_take, List.length_nil] at this; omega)]
        have ev : vs[j]? = some (vs[j]'(by omega)) := List.getElem?_eq_getElem _
        generalize vs[j]'(by omega) = v at ev
        have evs : vs = vs.take j ++ [v] := by
          have e := List.take_add_one (l := vs) (i := j)
          rw [ev, List.take_of_length_le (by omega)] at e
          exact e
        obtain ⟨dd, ed, hv⟩ := Z.dpa_ix hvs5 ev
        rw [List.getElem?_map, List.getElem?_take, if_pos (by omega)] at ed
        obtain ⟨dp, hdp, rfl⟩ := Option.map_eq_some_iff.mp ed
        obtain ⟨x, y, hx, hy, hlt⟩ := rise_at ris hdp hds
        obtain ⟨kx, vx⟩ := row_val (hrow dp (List.mem_of_getElem? hdp)) x (List.mem_of_getElem? hx)
        obtain ⟨ky, vy⟩ := row_val row y (List.mem_of_getElem? hy)
        walk_at "z"
        refine ⟨_, rfl, ?_⟩
        refine ixLast (vs := vs.take j) (v := v) (by rw [← evs]; exact SqL.of (W6.at 0 rfl)) ?_
        walk_at "z"
        refine Z.ixT (Z.dp_same s6 hv) W6.fh 0 hx fun w hw => ?_
        cases dp_val vx hw
        walk_at "z"
        refine Z.ixT (Z.dp_same s6 hr) W6.fh 0 hy fun w hw => ?_
        cases dp_val vy hw
        refine lt_keys hlt ?_
        walk_at "z"
        refine ⟨.inl ⟨rfl, _, SqL.of (W6.at 0 rfl)⟩, ?_⟩
        walk_at "z"
        refine done W6 fun H7 W7 => ?_
        walk_at "z"
        exact ⟨⟨_, _, rfl⟩, F6, _, W7, hnew⟩
    · rintro σ H2 ⟨⟨v3, v4, rfl⟩, F2, vs, W2, hvs⟩
      rw [List.length_map, List.length_map, List.take_length] at hvs
      walk_at "z"
      exact k F2 H2 q vs W2 hvs

def sp_page_in (K : PySem.W.Frag) (A : Adr) : Sp := fun vs H Q E => ∃ (F : Hp) (v : V) (z : Str) (ts : List Tab) (os : List (Str × Str)), vs = [v, .str z] ∧ Same F H ∧ IsSch K A F v ts os ∧ z.length ≤ 1000 ∧
  ((NotPage z ∧ Q .non H) ∨ ∃ (t : Tab) (l m : Int) (rows : List (List PyData)), t ∈ ts ∧ z = pageT t.1 l m rows ∧ PageOk t.2 t.1 l m rows ∧ Rising rows ∧
    ∀ F' H' p q vs', Z.Ws [(q, .lst vs')] F H F' H' → F' p = some (.tup [.str t.1, .int l, .int m, .ref q]) → DpAll K F' vs' (rows.map .tuple) → Q (.ref p) H')
theorem page_cuts {b : Str} : cutS (b ++ ";") none (some (-1)) = b ∧ cutS (b ++ ";") (some (-1)) none = ";" := by
  have e : (";" : Str) = ⟨#[59]⟩ := by decide +kernel
  rw [e]
  exact cut_but
theorem notInS {K : PySem.W.Frag} {H : Hp} {Q : VK} {z : Str} {zs : List Str} {p : Addr} (h : SqL K H p (zs.map V.str)) (k : Q (.bl (!decide (z ∈ zs))) H) : rIn K true (.str z) (.ref p) H Q := by
  refine ⟨p, _, rfl, .inl h, rfl, flat_str zs, ?_⟩
  rw [if_pos rfl, inV_str]
  exact k
theorem cut_one (zs : List Str) : cutV (zs.map V.str) (some 1) none = (zs.drop 1).map V.str := by
  unfold cutV
  have e : HT.sIx (zs.map V.str).length 0 (some 1) = min 1 (zs.map V.str).length := HT.sIx_nat _ _ 1
  rw [e, HT.sIx_none, List.take_of_length_le (by rw [List.length_drop]; omega)]
  cases zs with
  | nil => rfl
  | cons z r => simp
theorem ok_page_in (T : Txt K mg A) : ∃ fd, FnOk P w K mg base (L2.CX P w) 5 A.f_page_in fd ["schema", "text"] (sp_page_in K A) ∧ Binds K fd ["schema", "text"] [] := by
  have ⟨fd, F, b⟩ := T.d_page_in
  refine ⟨fd, F.okX sc_page_in (fun vs H Q E h => ?_) (fun cdv Ar outer s H vs Q E hr h => ?_), b⟩
  · obtain ⟨F0, v, z, ts, os, rfl, _⟩ := h
    rfl
  · obtain ⟨F0, v, z, ts, os, rfl, sm, hs, zl, h⟩ := h
    have nd := sc_page_in.nd
    have hu := hu_of hr
    have ⟨fd_Schema_table_names, G_Schema_table_names, b_Schema_table_names⟩ := ok_Schema_table_names (P := P) (w := w) (base := base) T
    have ⟨fd_count_from, G_count_from, b_count_from⟩ := ok_count_from (P := P) (w := w) (base := base) T
    have ⟨fd_rows_in, G_rows_in, b_rows_in⟩ := ok_rows_in (P := P) (w := w) (base := base) T
    have ⟨fd_Schema_columns_of, G_Schema_columns_of, b_Schema_columns_of⟩ := ok_Schema_columns_of (P := P) (w := w) (base := base) T
    refine ⟨_, (pss_cons (ps_if (PW.pt (pw_or (pt_not (pt_val (pe_callB call_isi (by rfl) T.b_isinstance (by decide +kernel) (pa_cons (pv 1) (pa_cons (pe_bltn (v := .ty "str") (u := .type "str") (by rfl) T.b_str (by decide +kernel) rfl) pa_nil))))) (pw_or1 (pt_cmpR op_ne (pe_slice sl_str (pv 1) (po_some (pe_un un_neg pe_int)) po_none) pe_str (nomark _))))) (pss_one (ps_ret pe_non)) pss_nil)
      (pss_cons (ps_set (i := 2) nd rfl (Or.inl rfl) (pe_split (pe_slice sl_str (pv 1) po_none (po_some (pe_un un_neg pe_int))) pe_str))
      (pss_cons (ps_set (i := 3) nd rfl (Or.inl rfl) (pe_split (pe_ix ix_list (pv 2) pe_int (fun _ _ => rfl)) pe_str))
      (pss_cons (ps_if (PW.pt (pw_or (pt_cmpR op_ne (pe_callB call_len_seq (by rfl) T.b_len PySem.boot_len (pa_cons (pv 3) pa_nil)) pe_int (nomark _)) (pw_or (pt_cmpR op_ne (pe_ix ix_list (pv 3) pe_int (fun _ _ => rfl)) pe_str (nomark _)) (pw_or (pt_cmpR op_notIn_seq (pe_ix ix_list (pv 3) pe_int (fun _ _ => rfl)) (pe_meth0 (pv 0) T.c_Schema T.m_Schema_table_names G_Schema_table_names (hr.mono (by decide)) b_Schema_table_names .nil pass0) (by rfl)) (pw_or1 (pt_cmpR op_gt (pe_callB call_len_seq (by rfl) T.b_len PySem.boot_len (pa_cons (pv 2) pa_nil)) (pe_op op_add (Z.pe_gint rfl T.v_MOST_ROWS) pe_int) (nomark _))))))) (pss_one (ps_ret pe_non)) pss_nil)
      (pss_cons (ps_set (i := 4) nd rfl (Or.inl rfl) (pe_call G_count_from (hr.mono (by decide)) (by rfl) T.g_count_from T.d_count_from.kp b_count_from .nil pass0 (pa_cons (pe_ix ix_list (pv 3) pe_int (fun _ _ => rfl)) pa_nil)))
      (pss_cons (ps_set (i := 5) nd rfl (Or.inl rfl) (pe_call G_count_from (hr.mono (by decide)) (by rfl) T.g_count_from T.d_count_from.kp b_count_from .nil pass0 (pa_cons (pe_ix ix_list (pv 3) pe_int (fun _ _ => rfl)) pa_nil)))
      (pss_cons (ps_set (i := 6) nd rfl (Or.inl rfl) (pe_call G_rows_in (hr.mono (by decide)) (by rfl) T.g_rows_in T.d_rows_in.kp b_rows_in .nil pass0 (pa_cons (pe_meth (pv 0) T.c_Schema T.m_Schema_columns_of G_Schema_columns_of (hr.mono (by decide)) b_Schema_columns_of .nil (passes_call (takes_of rfl rfl rfl rfl) (fun _ _ _ _ h => h)) (pa_cons (pe_ix ix_list (pv 3) pe_int (fun _ _ => rfl)) pa_nil)) (pa_cons (pe_slice sl_list (pv 2) (po_some pe_int) po_none) pa_nil))))
      (pss_cons (ps_if (PW.pt (pw_or (pt_cmpR op_isN (pv 4) pe_non (nomark _)) (pw_or (pt_cmpR op_isN (pv 5) pe_non (nomark _)) (pw_or1 (pt_cmpR op_isN (pv 6) pe_non (nomark _)))))) (pss_one (ps_ret pe_non)) pss_nil)
      (pss_one (ps_ret (pe_tup (pa_cons (pe_ix ix_list (pv 3) pe_int (fun _ _ => rfl)) (pa_cons (pv 4) (pa_cons (pv 5) (pa_cons (pv 6) pa_nil))))))))))))))), ?_⟩
    simp only [cxOf, Cx.nox, L2.start, List.map_cons, List.map_nil, List.length_cons, List.length_nil, Nat.reduceAdd, Nat.reduceSub, List.replicate, List.cons_append, List.nil_append]
    have hs0 := hs
    obtain ⟨x, dx, dd, kvs, ko, rfl, hx, hd, kv, hk, tk, ok⟩ := hs
    have hx' := sm _ _ hx
    rcases h with ⟨np, k⟩ | ⟨t, l, m, rows, htm, rfl, pk, ris, k⟩
    · walk_at "z"
      refine Z.isiX (F := H) (.str z) (Same.refl _) (by simp) ?_
      walk_at "z"
      refine ⟨_, rfl, ?_⟩
      refine ⟨_, rfl, ?_⟩
      walk_at "z"
      refine Z.slS (by omega) ?_
      walk_at "z"
      refine Z.iteN (fun hne => ?_) (fun he => absurd (V.str.inj he) np)
      walk_at "z"
      exact k
    · obtain ⟨tn, cok⟩ := tk.nm t htm
      obtain ⟨b1, b2, b3⟩ := body_facts cok pk
      obtain ⟨c1, c2⟩ := page_cuts (b := bodyT t.1 l m rows)
      have many := pk.many
      walk_at "z"
      refine Z.isiX (F := H) (.str _) (Same.refl _) (by simp) ?_
      walk_at "z"
      refine ⟨_, rfl, ?_⟩
      refine ⟨_, rfl, ?_⟩
      walk_at "z"
      refine Z.slS (by omega) ?_
      rw [show cutS (pageT t.1 l m rows) (some (-1)) none = ";" from c2]
      walk_at "z"
      refine ⟨_, rfl, ?_⟩
      refine ⟨_, rfl, ?_⟩
      walk_at "z"
      refine Z.slS (by omega) ?_
      rw [show cutS (pageT t.1 l m rows) none (some (-1)) = bodyT t.1 l m rows from c1]
      have hl : (headT t.1 l m).length ≤ 1000 := by
        obtain ⟨_, _, _, h⟩ := clean_join (head_vals pk)
        unfold headT
        simp only [List.length_cons, List.length_nil] at h
        omega
      refine ⟨⟨_, rfl⟩, ?_⟩
      walk_at "z"
      refine splitW (Z.Ws.init sm) (z := bodyT t.1 l m rows) (s := " | ") (by omega) (by decide +kernel) fun pp H1 W1 => ?_
      rw [body_split cok pk] at W1
      walk_at "z"
      refine Z.ixL (i := 0) (v := .str (headT t.1 l m)) (SqL.of (W1.at 0 rfl)) rfl ?_
      refine ⟨⟨_, rfl⟩, ?_⟩
      walk_at "z"
      refine splitW W1 (z := headT t.1 l m) (s := " ") (by omega) (by decide +kernel) fun wp H2 W2 => ?_
      rw [head_split pk] at W2
      have hx2 := W2.fh _ _ hx
      walk_at "z"
      refine Z.lenSeq (SqL.of (W2.at 0 rfl)) ?_
      walk_at "z"
      refine Z.ixL (i := 0) (v := .str "page") (SqL.of (W2.at 0 rfl)) rfl ?_
      walk_at "z"
      refine Z.ixL (i := 1) (v := .str t.1) (SqL.of (W2.at 0 rfl)) rfl ?_
      walk_at "z"
      refine ⟨F0, _, ts, os, rfl, W2.fh, hs0, fun H3 np W3 => ?_⟩
      have W4 := W2.join W3
      refine notInS (zs := ts.map (·.1)) (by have := SqL.of (K := K) (W4.at 0 rfl); rw [List.map_map]; exact this) ?_
      rw [decide_eq_true (List.mem_map.mpr ⟨t, htm, rfl⟩)]
      walk_at "z"
      refine Z.lenSeq (SqL.of (W4.at 2 rfl)) ?_
      walk_at "z"
      refine Z.iteD (fun h => absurd h (by rw [List.length_map, List.length_cons, List.length_map]; omega)) (fun _ => ?_)
      walk_at "z"
      refine Z.ixL (i := 2) (v := .str (Str.ofString (toString l))) (SqL.of (W4.at 1 rfl)) rfl ?_
      refine ⟨l, rfl, pk.l0, pk.l1, ?_⟩
      walk_at "z"
      refine Z.ixL (i := 3) (v := .str (Str.ofString (toString m))) (SqL.of (W4.at 1 rfl)) rfl ?_
      refine ⟨m, rfl, pk.m0, pk.m1, ?_⟩
      have hx4 := W4.fh _ _ hx
      walk_at "z"
      refine Z.ixL (i := 1) (v := .str t.1) (SqL.of (W4.at 1 rfl)) rfl ?_
      refine ⟨F0, _, .str t.1, .str t.1, ts, os, rfl, W4.fh, hs0, .str _, by have := tn.2.1; show Str.length _ ≤ _; omega, fun t' ht' e H5 cp xs W5 hxs => ?_, fun hno => absurd rfl (hno t htm)⟩
      cases same_tab tk htm ht' (PyData.str.inj e).symm
      have W6 := W4.join W5
      walk_at "z"
      refine Z.slW W6 (SqL.of (W6.at 3 rfl)) fun sp H7 W7 => ?_
      rw [cut_one] at W7
      refine ⟨F0, cp, sp, xs, t.2, rows, rfl, W7.fh, SqL.of (W7.at 1 rfl), hxs, SqL.of (W7.at 0 rfl), cok, pk.rw, ris, by omega, fun F8 H8 q vs' W8 hvs => ?_⟩
      have W9 := W7.join W8
      walk_at "z"
      refine Z.ixL (i := 1) (v := .str t.1) (SqL.of (W9.at 4 rfl)) rfl ?_
      walk_at "z"
      refine ⟨by simp only [List.length_cons, List.length_nil]; decide, fun p hp => ?_⟩
      have W10 := (W9.dat (o := .tup [.str t.1, .int l, .int m, .ref q]) hp).pick [0] (L' := [(q, .lst vs')]) (by decide) rfl
      exact k _ _ p q vs' W10 upd_same (Z.dpa_same (Z.same_new (W9.freeF hp)) hvs)
theorem join_bd {sep : Str} {ys : List Str} (B : ∀ z ∈ ys, z.length ≤ 1000) (hl : ys.length ≤ 1000) (hs : sep.length ≤ 10) : (ys.map (·.length)).sum + ys.length * sep.length ≤ 16777216 := by
  have : ∀ zs : List Str, (∀ z ∈ zs, z.length ≤ 1000) → (zs.map (·.length)).sum ≤ zs.length * 1000 := by
    intro zs
    induction zs with
    | nil => intro _; simp
    | cons z r ih =>
      intro hz
      have h1 := hz z List.mem_cons_self
      have h2 := ih fun y hy => hz y (List.mem_cons_of_mem _ hy)
      rw [List.map_cons, List.sum_cons, List.length_cons, Nat.succ_mul]
      omega
  have h1 := this ys B
  have h2 : ys.length * sep.length ≤ 1000 * 10 := Nat.mul_le_mul hl hs
  omega
theorem val_text {k : Str} {d : PyData} (h : ValD k d) : (∃ i : Int, valV d = .int i ∧ i.natAbs ≤ 10 ^ 9 ∧ txtD d = Str.ofString (toString i)) ∨ valV d = .str (txtD d) := by
  rcases h with ⟨_, z, rfl, n⟩ | ⟨_, i, rfl, h0, h1⟩
  · exact .inr rfl
  · exact .inl ⟨i, rfl, by omega, rfl⟩
def sp_page_text (K : PySem.W.Frag) (A : Adr) : Sp := fun vs H Q _ => ∃ (F : Hp) (ra : Addr) (rx : List V) (nm : Str) (l m : Int) (cs : List Col) (rows : List (List PyData)), vs = [.str nm, .int l, .int m, .ref ra] ∧ Same F H ∧ SqL K H ra rx ∧ DpAll K F rx (rows.map .tuple) ∧ ColsOk cs ∧ PageOk cs nm l m rows ∧
  ∀ H', Same H H' → Q (.str (pageT nm l m rows)) H'
theorem ok_page_text (T : Txt K mg A) : ∃ fd, FnOk P w K mg base CX0 2 A.f_page_text fd ["table", "last", "many", "rows"] (sp_page_text K A) ∧ Binds K fd ["table", "last", "many", "rows"] [] := by
  have ⟨fd, F, b⟩ := T.d_page_text
  refine ⟨fd, F.ok sc_page_text (fun vs H Q E h => ?_) (fun cdv Ar outer s H vs Q E hr h => ?_), b⟩
  · obtain ⟨F0, ra, rx, nm, l, m, cs, rows, rfl, _⟩ := h
    rfl
  · obtain ⟨F0, ra, rx, nm, l, m, cs, rows, rfl, sm, hra, hrx, ok, pk, k⟩ := h
    have nd := sc_page_text.nd
    have hu := hu_of hr
    have ⟨fd_value_text, G_value_text, b_value_text⟩ := ok_value_text (P := P) (w := w) (base := base) T
    refine ⟨_, (pss_cons (ps_set (i := 4) nd rfl (Or.inl rfl) (pe_lst (pa_cons (pe_join pe_str (pe_lst (pa_cons pe_str (pa_cons (pv 0) (pa_cons (pe_callTy call_strA (by rfl) T.b_str (by decide +kernel) (pa_cons (pv 1) pa_nil)) (pa_cons (pe_callTy call_strA (by rfl) T.b_str (by decide +kernel) (pa_cons (pv 2) pa_nil)) pa_nil)))))) pa_nil)))
      (pss_cons (ps_for PassesOwn.never rfl (pi_list (pv 3)) (pg_name (i := 5) nd rfl (Or.inl rfl)) (pss_one (ps_expr (pe_bm PySem.F.plainAttrs_list PySem.F.slot_list_append PySem.F.type_list_append mt_append (pv 4) (pa_cons (pe_join pe_str (pe_lc (own := [("value", 6)]) rfl nd (pi_tup (pv 5)) (blkOk_by (own := [("value", 6)]) (N := ["table", "last", "many", "rows", "parts", "row", "value"]) (sc := defScope s_page_text) (by decide +kernel)) (fun _ _ _ _ _ => pg_name (i := 6) nd rfl (Or.inl rfl)) (fun _ _ _ _ _ => pts_nil) (fun _ _ _ _ _ => (pe_call G_value_text (hr.mono (by decide)) (by rfl) T.g_value_text T.d_value_text.kp b_value_text .nil pass0 (pa_cons (pv 6) pa_nil))))) pa_nil)))))
      (pss_one (ps_ret (pe_op op_add_str (pe_join pe_str (pv 4)) pe_str))))), ?_⟩
    simp only [cxOf, Cx.nox, L2.start, List.map_cons, List.map_nil, List.length_cons, List.length_nil, Nat.reduceAdd, Nat.reduceSub, List.replicate, List.cons_append, List.nil_append]
    have l0 := pk.l0
    have l1 := pk.l1
    have m0 := pk.m0
    have m1 := pk.m1
    have many := pk.many
    have hrl := Z.dpa_len hrx
    rw [List.length_map] at hrl
    have pc := parts_clean ok pk
    walk_at "z"
    refine ⟨⟨_, rfl⟩, ?_⟩
    walk_at "z"
    refine ⟨_, _, rfl, .inl ⟨l, rfl, log_small (by omega), rfl⟩, ?_⟩
    walk_at "z"
    refine ⟨_, _, rfl, .inl ⟨m, rfl, log_small (by omega), rfl⟩, ?_⟩
    walk_at "z"
    refine Z.lstW (Z.Ws.init sm) fun q1 H1 W1 => ?_
    refine ⟨_, q1, [("page" : Str), nm, Str.ofString (toString l), Str.ofString (toString m)], rfl, rfl, .inl (SqL.of (W1.at 0 rfl)), join_bd (fun z hz => by have := (head_vals pk z hz).len; omega) (by simp) (by decide +kernel), ?_⟩
    walk_at "z"
    refine Z.lstW W1 fun q2 H2 W2 => ?_
    have W2 : Z.Ws [(q2, .lst [.str (headT nm l m)])] F0 H F0 H2 := W2.pick [0] (by decide) rfl
    walk_at "z"
    refine ⟨ra, rfl, ⟨_, W2.same.seq hra⟩, for_it walk_list (fun i σ H' => (∃ v5 v6, σ = [some (.str nm), some (.int l), some (.int m), some (.ref ra), some (.ref q2), v5, v6]) ∧ Z.Ws [(q2, .lst ((headT nm l m :: (rows.take i).map rowT).map .str))] F0 H F0 H') ⟨⟨_, _, rfl⟩, W2⟩ (fun i σ H' hi ⟨_, W⟩ => W.same.seq hra) ?_ ?_⟩
    · rintro i x σ H3 H4 hi ⟨⟨v5, v6, rfl⟩, W3⟩ ⟨rfl, hx⟩
      obtain ⟨d, e1, hd⟩ := Z.dpa_ix hrx hx
      rw [List.getElem?_map] at e1
      obtain ⟨ds, hds, rfl⟩ := Option.map_eq_some_iff.mp e1
      have row := pk.rw ds (List.mem_of_getElem? hds)
      obtain ⟨ta, tx, rfl, hta, htx⟩ := Z.dp_tup hd
      walk_at "z"
      refine ⟨.inl ⟨rfl, _, SqL.of (W3.at 0 rfl)⟩, ?_⟩
      walk_at "z"
      refine ⟨⟨_, rfl⟩, ?_⟩
      walk_at "z"
      refine ⟨ta, rfl, ⟨_, Z.seqT W3.fh hta⟩, fun D hD => ?_⟩
      have hdl := Z.dpa_len htx
      have rl := row.1
      have chi := ok.hi
      refine lc_it walk_tup (fun j H' => Z.Ws [(D, .lst (((ds.take j).map txtD).map .str)), (q2, .lst ((headT nm l m :: (rows.take i).map rowT).map .str))] F0 H F0 H') (W3.new hD) (fun j H' hj W => Z.seqT W.fh hta) ?_ ?_
      · rintro j y H5 H6 hj W5 ⟨rfl, hy⟩
        obtain ⟨d, hdj, hdv⟩ := Z.dpa_ix htx hy
        obtain ⟨kk, vd⟩ := row_val row d (List.mem_of_getElem? hdj)
        cases dp_val vd hdv
        refine ⟨rfl, ?_⟩
        walk_at "z"
        refine ⟨valV d, txtD d, rfl, val_text vd, ?_⟩
        refine ⟨_, W5.at 0 rfl, by rw [List.length_map, List.length_map, List.length_take]; exact Nat.lt_of_le_of_lt (show _ ≤ 1000 by omega) (by decide), ?_⟩
        rw [List.take_add_one, hdj, List.map_append, List.map_append]
        exact W5.set 0 rfl _
      · rintro H5 W5
        rw [hdl, List.take_length] at W5
        refine ⟨_, D, ds.map txtD, rfl, rfl, .inl (SqL.of (W5.at 0 rfl)), join_bd (fun z hz => by have := (row_vals row z hz).len; omega) (by rw [List.length_map]; omega) (by decide +kernel), ?_⟩
        walk_at "z"
        refine Z.appW (W5.pick [1] (L' := [_]) (by decide) rfl) 0 rfl (fun H6 W6 => ?_) (by rw [List.length_map, List.length_cons, List.length_map, List.length_take]; omega)
        walk_at "z"
        refine ⟨⟨_, _, rfl⟩, ?_⟩
        rw [List.take_add_one, hds, List.map_append, ← List.cons_append, List.map_append]
        exact W6
    · rintro σ H3 ⟨⟨v5, v6, rfl⟩, W3⟩
      rw [hrl, List.take_length] at W3
      walk_at "z"
      refine ⟨⟨_, rfl⟩, ?_⟩
      walk_at "z"
      refine ⟨_, q2, headT nm l m :: rows.map rowT, rfl, rfl, .inl (SqL.of (W3.at 0 rfl)), join_bd (fun z hz => by have := (pc z hz).2.2.2; omega) (by rw [List.length_cons, List.length_map]; omega) (by decide +kernel), ?_⟩
      walk_at "z"
      have bl := (body_facts ok pk).2.2
      have l1 : (";" : Str).length = 1 := by decide +kernel
      refine Z.addS (by show (bodyT nm l m rows).length + _ ≤ _; omega) ?_
      exact k _ W3.same

def sp_slots_of (K : PySem.W.Frag) (A : Adr) : Sp := fun vs H Q E => ∃ (F : Hp) (v u : V) (d : PyData) (ts : List Tab) (os : List (Str × Str)), vs = [v, u] ∧ Same F H ∧ IsSch K A F v ts os ∧ Z.DX K F u d ∧ SmallS d ∧
  (∀ (i : Nat) t, ts[i]? = some t → d = .str t.1 → ∀ H' p, Same H H' → H' p = some (.tup [.int (2 * (i : Int)), .int (2 * (i : Int) + 1)]) → Q (.ref p) H') ∧ (NoTab ts d → NoX E A.NoTable "table" u H)
theorem ok_slots_of (T : Txt K mg A) : ∃ fd, FnOk P w K mg base (L2.CX P w) 4 A.f_slots_of fd ["schema", "table"] (sp_slots_of K A) ∧ Binds K fd ["schema", "table"] [] := by
  have ⟨fd, F, b⟩ := T.d_slots_of
  refine ⟨fd, F.okX sc_slots_of (fun vs H Q E h => ?_) (fun cdv Ar outer s H vs Q E hr h => ?_), b⟩
  · obtain ⟨F0, v, u, d, ts, os, rfl, _⟩ := h
    rfl
  · obtain ⟨F0, v, u, d, ts, os, rfl, sm, hs, hu', hz, k, kx⟩ := h
    have nd := sc_slots_of.nd
    have hu := hu_of hr
    have ⟨fd_Schema_need_table, G_Schema_need_table, b_Schema_need_table⟩ := ok_Schema_need_table (P := P) (w := w) (base := base) T
    have ⟨fd_Schema_table_names, G_Schema_table_names, b_Schema_table_names⟩ := ok_Schema_table_names (P := P) (w := w) (base := base) T
    refine ⟨_, (pss_cons (ps_expr (pe_meth (pv 0) T.c_Schema T.m_Schema_need_table G_Schema_need_table (hr.mono (by decide)) b_Schema_need_table .nil (passes_call (takes_of rfl rfl rfl rfl) (fun _ _ _ _ h => h)) (pa_cons (pv 1) pa_nil)))
      (pss_cons (ps_set (i := 2) nd rfl (Or.inl rfl) (pe_bm PySem.F.plainAttrs_list PySem.F.slot_list_index PySem.F.type_list_index mt_index (pe_meth0 (pv 0) T.c_Schema T.m_Schema_table_names G_Schema_table_names (hr.mono (by decide)) b_Schema_table_names .nil pass0) (pa_cons (pv 1) pa_nil)))
      (pss_one (ps_ret (pe_tup (pa_cons (pe_op op_mul pe_int (pv 2)) (pa_cons (pe_op op_add (pe_op op_mul pe_int (pv 2)) pe_int) pa_nil))))))), ?_⟩
    simp only [cxOf, Cx.nox, L2.start, List.map_cons, List.map_nil, List.length_cons, List.length_nil, Nat.reduceAdd, Nat.reduceSub, List.replicate, List.cons_append, List.nil_append]
    have hs0 := hs
    obtain ⟨x, dx, dd, kvs, ko, rfl, hx, hd, kv, hk, tk, ok⟩ := hs
    have hx' := sm _ _ hx
    walk_at "z"
    refine ⟨F0, _, u, d, ts, os, rfl, sm, hs0, hu', hz, fun t ht e => ?_, kx⟩
    subst e
    cases Z.dx_str hu'
    obtain ⟨i, hi⟩ := List.mem_iff_getElem?.mp ht
    walk_at "z"
    refine ⟨F0, _, ts, os, rfl, sm, hs0, fun H1 p W1 => ?_⟩
    refine ⟨.inl ⟨rfl, _, SqL.of (W1.at 0 rfl)⟩, ?_⟩
    walk_at "z"
    refine ⟨p, ts.map (fun t => V.str t.1), .str t.1, i, .str t.1, rfl, rfl, SqL.of (W1.at 0 rfl), rfl, by rw [List.all_map]; exact List.all_eq_true.mpr fun _ _ => rfl, by rw [List.getElem?_map, hi]; rfl, beq_self_eq_true t.1, fun m z' hm hz' => ?_, ?_⟩
    · rw [List.getElem?_map] at hz'
      obtain ⟨t', ht', rfl⟩ := Option.map_eq_some_iff.mp hz'
      refine beq_eq_false_iff_ne.mpr fun e => ?_
      have a1 : (ts.map (·.1))[m]? = some t.1 := by rw [List.getElem?_map, ht']; exact congrArg some e
      have a2 : (ts.map (·.1))[i]? = some t.1 := by rw [List.getElem?_map, hi]; rfl
      have := nd_ix tk.nd a1 a2
      omega
    walk_at "z"
    refine ⟨by simp only [List.length_cons, List.length_nil]; decide, fun p2 hp2 => ?_⟩
    exact k i t hi rfl _ p2 (W1.same.trans (Z.same_new hp2)) upd_same
theorem ixTup {K : PySem.W.Frag} {H : Hp} {Q : VK} {p : Addr} {xs : List V} {i : Nat} {v : V} (h : H p = some (.tup xs)) (e : xs[i]? = some v) (k : Q v H) : rIxT K (.ref p) (.int (i : Int)) H Q := ⟨p, xs, i, v, rfl, rfl, SqT.of h, atI_nat e, k⟩
/-- a page that stands whole in a slot -/
structure Pg where
  t : Tab
  l : Int
  m : Int
  rows : List (List PyData)
structure PgOk (ts : List Tab) (g : Pg) : Prop where
  t : g.t ∈ ts
  ok : PageOk g.t.2 g.t.1 g.l g.m g.rows
  ris : Rising g.rows
/-- what the slots hold -/
def Holds (ts : List Tab) (z : Str) : Option Pg → Prop
  | none => NotPage z
  | some g => PgOk ts g ∧ z = pageT g.t.1 g.l g.m g.rows
structure HeldOk (ts : List Tab) (pages : List Str) (hl : List (Option Pg)) : Prop where
  n : pages.length = 8
  nh : hl.length = 8
  at_ : ∀ (i : Nat) (z : Str) (h : Option Pg), pages[i]? = some z → hl[i]? = some h → Holds ts z h
  sm : ∀ z ∈ pages, z.length ≤ 1000
  so : ∀ z ∈ pages, PyData.strOk z = true
abbrev Best := Option (Nat × Pg)
def wins : Best → Pg → Bool
  | none, _ => true
  | some a, g => decide (a.2.l < g.l)
def better (t : Tab) (acc : Best) (slot : Nat) : Option Pg → Best
  | none => acc
  | some g => if g.t.1 = t.1 ∧ wins acc g = true then some (slot, g) else acc
def accAt (t : Tab) (hl : List (Option Pg)) (i : Nat) : Nat → Best
  | 0 => none
  | j + 1 => better t (accAt t hl i j) (2 * i + j) (hl.getD (2 * i + j) none)
def newestP (t : Tab) (hl : List (Option Pg)) (i : Nat) : Best := accAt t hl i 2
def bestV : Best → V
  | none => .non
  | some a => .int (a.1 : Nat)
def bestL : Best → Int
  | none => 0
  | some a => a.2.l
def bestM : Best → Int
  | none => 0
  | some a => a.2.m
def bestR : Best → List (List PyData)
  | none => []
  | some a => a.2.rows
def sp_newest (K : PySem.W.Frag) (A : Adr) : Sp := fun vs H Q E => ∃ (F : Hp) (d : Dk) (v u : V) (dt : PyData) (ts : List Tab) (os : List (Str × Str)), vs = [.ref d.p, v, u] ∧ Same F H ∧ Z.Sees (dc A.Disk d) H ∧ IsSch K A F v ts os ∧ Z.DX K F u dt ∧ SmallS dt ∧
  (∀ (i : Nat) t, ts[i]? = some t → dt = .str t.1 → ∃ hl, HeldOk ts d.pages hl ∧ ∀ F' H' p q vs', Z.Ws [(q, .lst vs')] F H F' H' → F' p = some (.tup [bestV (newestP t hl i), .int (bestL (newestP t hl i)), .int (bestM (newestP t hl i)), .ref q]) → DpAll K F' vs' ((bestR (newestP t hl i)).map .tuple) → Q (.ref p) H') ∧
  (NoTab ts dt → NoX E A.NoTable "table" u H)
theorem ok_newest (T : Txt K mg A) : ∃ fd, FnOk P w K mg base (L2.CX P w) 6 A.f_newest fd ["disk", "schema", "table"] (sp_newest K A) ∧ Binds K fd ["disk", "schema", "table"] [] := by
  have ⟨fd, F, b⟩ := T.d_newest
  refine ⟨fd, F.okX sc_newest (fun vs H Q E h => ?_) (fun cdv Ar outer s H vs Q E hr h => ?_), b⟩
  · obtain ⟨F0, d, v, u, dt, ts, os, rfl, _⟩ := h
    rfl
  · obtain ⟨F0, d, v, u, dt, ts, os, rfl, sm, see, hs, hu', hz, k, kx⟩ := h
    have nd := sc_newest.nd
    have hu := hu_of hr
    have ⟨fd_slots_of, G_slots_of, b_slots_of⟩ := ok_slots_of (P := P) (w := w) (base := base) T
    have ⟨fd_page_in, G_page_in, b_page_in⟩ := ok_page_in (P := P) (w := w) (base := base) T
    have ⟨fd_Disk_page, G_Disk_page, b_Disk_page⟩ := ok_Disk_page (P := P) (w := w) (base := base) T
    refine ⟨_, (pss_cons (ps_set (i := 3) nd rfl (Or.inl rfl) (pe_tup (pa_cons pe_non (pa_cons pe_int (pa_cons pe_int (pa_cons (pe_lst pa_nil) pa_nil))))))
      (pss_cons (ps_for (passes_of rfl) rfl (pi_tup (pe_call G_slots_of (hr.mono (by decide)) (by rfl) T.g_slots_of T.d_slots_of.kp b_slots_of .nil (passes_call (takes_of rfl rfl rfl rfl) (fun _ _ _ _ h => h)) (pa_cons (pv 1) (pa_cons (pv 2) pa_nil)))) (pg_name (i := 4) nd rfl (Or.inl rfl)) (pss_cons (ps_set (i := 5) nd rfl (Or.inl rfl) (pe_call G_page_in (hr.mono (by decide)) (by rfl) T.g_page_in T.d_page_in.kp b_page_in .nil (passes_call (takes_of rfl rfl rfl rfl) (fun _ _ _ _ h => h)) (pa_cons (pv 1) (pa_cons (pe_meth (pv 0) T.c_Disk T.m_Disk_page G_Disk_page (hr.mono (by decide)) b_Disk_page .nil pass0 (pa_cons (pv 4) pa_nil)) pa_nil))))
      (pss_one (ps_if (PW.pt (pw_and (pt_cmpR op_notN (pv 5) pe_non (nomark _)) (pw_and (pt_cmpR op_eq (pe_ix ix_tup (pv 5) pe_int (fun _ _ => rfl)) (pv 2) (nomark _)) (pw_and1 (PW.pt (pw_or (pt_cmpR op_isN (pe_ix ix_tup (pv 3) pe_int (fun _ _ => rfl)) pe_non (nomark _)) (pw_or1 (pt_cmpR op_gt (pe_ix ix_tup (pv 5) pe_int (fun _ _ => rfl)) (pe_ix ix_tup (pv 3) pe_int (fun _ _ => rfl)) (nomark _))))))))) (pss_one (ps_set (i := 3) nd rfl (Or.inl rfl) (pe_tup (pa_cons (pv 4) (pa_cons (pe_ix ix_tup (pv 5) pe_int (fun _ _ => rfl)) (pa_cons (pe_ix ix_tup (pv 5) pe_int (fun _ _ => rfl)) (pa_cons (pe_ix ix_tup (pv 5) pe_int (fun _ _ => rfl)) pa_nil))))))) pss_nil))))
      (pss_one (ps_ret (pv 3))))), ?_⟩
    simp only [cxOf, Cx.nox, L2.start, List.map_cons, List.map_nil, List.length_cons, List.length_nil, Nat.reduceAdd, Nat.reduceSub, List.replicate, List.cons_append, List.nil_append]
    have hs0 := hs
    obtain ⟨x, dx, dd, kvs, ko, rfl, hx, hd, kv, hk, tk, ok⟩ := hs
    have hx' := sm _ _ hx
    have hdp : H d.p = _ := see.at 0 rfl
    walk_at "z"
    refine Z.lstW (Z.Ws.init sm) fun q1 H1 W1 => ?_
    walk_at "z"
    refine ⟨by simp only [List.length_cons, List.length_nil]; decide, fun p1 hp1 => ?_⟩
    have W2 := W1.dat (o := .tup [.non, .int 0, .int 0, .ref q1]) hp1
    have gp : upd F0 p1 (.tup [.non, .int 0, .int 0, .ref q1]) p1 = _ := upd_same
    have s2 := Z.same_new (o := .tup [.non, .int 0, .int 0, .ref q1]) (W1.freeF hp1)
    generalize upd H1 p1 (.tup [.non, .int 0, .int 0, .ref q1]) = H2 at W2 ⊢
    generalize upd F0 p1 (.tup [.non, .int 0, .int 0, .ref q1]) = F2 at W2 gp s2
    have hx2 := W2.fh _ _ (s2 _ _ hx)
    walk_at "z"
    refine Z.forE ?_
    walk_at "z"
    refine ⟨F2, _, u, dt, ts, os, rfl, W2.fh, hs0.same s2, Z.dx_same s2 hu', hz, fun i t hit e H3 p3 s3 hp3 => ?_, fun hno a H' s' e => kx hno a H' (W2.same.trans s') e⟩
    obtain ⟨hl, ho, kk⟩ := k i t hit e
    subst e
    cases Z.dx_str hu'
    have htm := List.mem_of_getElem? hit
    have hi4 : i < 4 := by have := (List.getElem?_eq_some_iff.mp hit).1; have := tk.hi; omega
    have W3 := W2.exts s3
    refine ⟨p3, rfl, ⟨_, SqT.of hp3⟩, for_it (n := 2) (walk_tup (xs := [.int (2 * (i : Int)), .int (2 * (i : Int) + 1)])) (fun j σ H' => (∃ p v4 v5, σ = [some (.ref d.p), some (.ref x), some (.str t.1), some (.ref p), v4, v5] ∧ Same H3 H' ∧ ∃ F' q vs', Z.Ws [(q, .lst vs')] F0 H F' H' ∧ F' p = some (.tup [bestV (accAt t hl i j), .int (bestL (accAt t hl i j)), .int (bestM (accAt t hl i j)), .ref q]) ∧ DpAll K F' vs' ((bestR (accAt t hl i j)).map .tuple)))
      ⟨p1, _, _, rfl, Same.refl _, F2, q1, [], W3, gp, .nil⟩ (fun j σ H' hj ⟨_, _, _, _, s, _⟩ => SqT.of (s _ _ hp3)) ?_ ?_⟩
    · rintro j y σ H4 H5 hj ⟨p, v4, v5, rfl, s4, F4, q, vs', W4, gp4, hvs⟩ ⟨rfl, hy⟩
      have hjl : j < 2 := hj
      obtain ⟨s, hs4, hsl, es⟩ : ∃ s : Nat, y = .int (s : Int) ∧ s < 8 ∧ s = 2 * i + j := by
        match j, hjl, hy with
        | 0, _, hy => exact ⟨2 * i, by cases hy; rfl, by omega, rfl⟩
        | 1, _, hy => exact ⟨2 * i + 1, by cases hy; rfl, by omega, rfl⟩
      subst hs4
      have s0 := W4.same
      have ez : d.pages[s]? = some (d.pages[s]'(by rw [ho.n]; exact hsl)) := List.getElem?_eq_getElem _
      have eh : hl[s]? = some (hl[s]'(by rw [ho.nh]; exact hsl)) := List.getElem?_eq_getElem _
      generalize d.pages[s]'(by rw [ho.n]; exact hsl) = z at ez
      generalize hl[s]'(by rw [ho.nh]; exact hsl) = h at eh
      have hh := ho.at_ s z h ez eh
      have hzl := ho.sm z (List.mem_of_getElem? ez)
      have ea : accAt t hl i (j + 1) = better t (accAt t hl i j) s h := by
        show better t (accAt t hl i j) (2 * i + j) (hl.getD (2 * i + j) none) = _
        rw [List.getD_eq_getElem?_getD, ← es, eh]
        rfl
      have hx4 := W4.fh _ _ (W4.f0 _ _ hx)
      have hd4 := s0 _ _ hdp
      rw [ea]
      walk_at "z"
      refine ⟨d, s, z, rfl, see.same s0, ez, ?_⟩
      walk_at "z"
      cases h with
      | none =>
        refine ⟨F4, _, z, ts, os, rfl, W4.fh, hs0.same W4.f0, hzl, .inl ⟨hh, ?_⟩⟩
        walk_at "z"
        exact ⟨p, _, _, rfl, s4, F4, q, vs', W4, gp4, hvs⟩
      | some g =>
        obtain ⟨gk, rfl⟩ := hh
        refine ⟨F4, _, _, ts, os, rfl, W4.fh, hs0.same W4.f0, hzl, .inr ⟨g.t, g.l, g.m, g.rows, gk.t, rfl, gk.ok, gk.ris, fun F5 H5 tp tq tv W5 gtp htv => ?_⟩⟩
        walk_at "z"
        have W6 := W4.join W5
        have s5 := s4.trans W5.same
        have gp5 := W5.f0 _ _ gp4
        have hvs5 := Z.dpa_same W5.f0 hvs
        have keep : Z.Ws [(q, .lst vs')] F0 H F5 H5 := W6.pick [1] (by decide) rfl
        refine ixTup (i := 0) (W5.fh _ _ gtp) rfl ?_
        walk_at "z"
        refine Z.iteD (fun hn => ?_) (fun hn => ?_)
        · have hname : g.t.1 = t.1 := V.str.inj hn
          walk_at "z"
          refine ixTup (i := 0) (W5.fh _ _ gp5) rfl ?_
          walk_at "z"
          cases hacc : accAt t hl i j with
          | none =>
            have eb : better t none s (some g) = some (s, g) := if_pos ⟨hname, rfl⟩
            rw [show bestV none = V.non from rfl]
            walk_at "z"
            refine ixTup (i := 1) (W5.fh _ _ gtp) rfl ?_
            walk_at "z"
            refine ixTup (i := 2) (W5.fh _ _ gtp) rfl ?_
            walk_at "z"
            refine ixTup (i := 3) (W5.fh _ _ gtp) rfl ?_
            walk_at "z"
            refine ⟨by simp only [List.length_cons, List.length_nil]; decide, fun p8 hp8 => ?_⟩
            have W8 := (W6.pick [0] (L' := [(tq, .lst tv)]) (by decide) rfl).dat (o := .tup [.int (s : Nat), .int g.l, .int g.m, .ref tq]) hp8
            walk_at "z"
            exact ⟨p8, _, _, rfl, s5.trans (Z.same_new hp8), _, tq, tv, W8, by rw [eb]; exact upd_same, Z.dpa_same (Z.same_new (W5.freeF hp8)) (by rw [eb]; exact htv)⟩
          | some ac =>
            rw [hacc] at gp5 hvs5
            rw [show bestV (some ac) = V.int (ac.1 : Nat) from rfl]
            walk_at "z"
            refine ixTup (i := 1) (W5.fh _ _ gtp) rfl ?_
            walk_at "z"
            refine ixTup (i := 1) (W5.fh _ _ gp5) rfl ?_
            walk_at "z"
            refine Z.iteD (fun hw => ?_) (fun hw => ?_)
            · have eb : better t (some ac) s (some g) = some (s, g) := if_pos ⟨hname, decide_eq_true hw⟩
              walk_at "z"
              refine ixTup (i := 1) (W5.fh _ _ gtp) rfl ?_
              walk_at "z"
              refine ixTup (i := 2) (W5.fh _ _ gtp) rfl ?_
              walk_at "z"
              refine ixTup (i := 3) (W5.fh _ _ gtp) rfl ?_
              walk_at "z"
              refine ⟨by simp only [List.length_cons, List.length_nil]; decide, fun p8 hp8 => ?_⟩
              have W8 := (W6.pick [0] (L' := [(tq, .lst tv)]) (by decide) rfl).dat (o := .tup [.int (s : Nat), .int g.l, .int g.m, .ref tq]) hp8
              walk_at "z"
              exact ⟨p8, _, _, rfl, s5.trans (Z.same_new hp8), _, tq, tv, W8, by rw [eb]; exact upd_same, Z.dpa_same (Z.same_new (W5.freeF hp8)) (by rw [eb]; exact htv)⟩
            · have eb : better t (some ac) s (some g) = some ac := if_neg fun h => hw (of_decide_eq_true h.2)
              walk_at "z"
              exact ⟨p, _, _, rfl, s5, F5, q, vs', keep, by rw [eb]; exact gp5, by rw [eb]; exact hvs5⟩
        · have hname : ¬ g.t.1 = t.1 := fun e => hn (congrArg V.str e)
          have eb : better t (accAt t hl i j) s (some g) = accAt t hl i j := if_neg fun h => hname h.1
          rw [eb]
          walk_at "z"
          exact ⟨p, _, _, rfl, s5, F5, q, vs', keep, gp5, hvs5⟩
    · rintro σ H4 ⟨p, v4, v5, rfl, s4, F4, q, vs', W4, gp4, hvs⟩
      walk_at "z"
      exact kk F4 H4 p q vs' W4 gp4 hvs

def lateSlot (t : Tab) (hl : List (Option Pg)) (i : Nat) : Nat := match newestP t hl i with
  | some a => if a.1 = 2 * i then 2 * i + 1 else 2 * i
  | none => 2 * i
theorem Deed.to {A : Adr} {F H H1 : Hp} {d : Dk} {w i : Nat} {z : Str} {m : Int} {Q Q' : VK} {E : XK} (h : Deed A F H d w i z m Q E) (f : ∀ H', Q .non H' → Q' .non H') : Deed A F H1 d w i z m Q' E :=
  ⟨h.1, fun H' d' a b c e => f H' (h.2.1 H' d' a b c e), h.2.2⟩
def sp_late_page (K : PySem.W.Frag) (A : Adr) : Sp := fun vs H Q E => ∃ (F : Hp) (d : Dk) (v u : V) (dt : PyData) (ts : List Tab) (os : List (Str × Str)) (l m : Int) (ra : Addr), vs = [.ref d.p, v, u, .int l, .int m, .ref ra] ∧ Z.Hs (dc A.Disk d) F H ∧ IsSch K A F v ts os ∧ Z.DX K F u dt ∧ SmallS dt ∧
  (∀ (i : Nat) t, ts[i]? = some t → dt = .str t.1 → ∃ hl rx rows, HeldOk ts d.pages hl ∧ SqL K F ra rx ∧ DpAll K F rx (rows.map .tuple) ∧ PageOk t.2 t.1 l m rows ∧ Deed A F H d 1 (lateSlot t hl i) (pageT t.1 l m rows) 0 Q E) ∧
  (NoTab ts dt → NoX E A.NoTable "table" u H)
theorem ok_late_page (T : Txt K mg A) : ∃ fd, FnOk P w K mg base (L2.CX P w) 7 A.f_late_page fd ["disk", "schema", "table", "last", "many", "rows"] (sp_late_page K A) ∧ Binds K fd ["disk", "schema", "table", "last", "many", "rows"] [] := by
  have ⟨fd, F, b⟩ := T.d_late_page
  refine ⟨fd, F.okX sc_late_page (fun vs H Q E h => ?_) (fun cdv Ar outer s H vs Q E hr h => ?_), b⟩
  · obtain ⟨F0, d, v, u, dt, ts, os, l, m, ra, rfl, _⟩ := h
    rfl
  · obtain ⟨F0, d, v, u, dt, ts, os, l, m, ra, rfl, S, hs, hu', hz, k, kx⟩ := h
    have nd := sc_late_page.nd
    have hu := hu_of hr
    have ⟨fd_slots_of, G_slots_of, b_slots_of⟩ := ok_slots_of (P := P) (w := w) (base := base) T
    have ⟨fd_newest, G_newest, b_newest⟩ := ok_newest (P := P) (w := w) (base := base) T
    have ⟨fd_Disk_put_page, G_Disk_put_page, b_Disk_put_page⟩ := ok_Disk_put_page (P := P) (w := w) (base := base) T
    have ⟨fd_page_text, G_page_text, b_page_text⟩ := ok_page_text (P := P) (w := w) (base := base) T
    refine ⟨_, (pss_cons (ps_asg (pe_call G_slots_of (hr.mono (by decide)) (by rfl) T.g_slots_of T.d_slots_of.kp b_slots_of .nil (passes_call (takes_of rfl rfl rfl rfl) (fun _ _ _ _ h => h)) (pa_cons (pv 1) (pa_cons (pv 2) pa_nil))) (pg_tup rfl (pgs_cons (pg_name (i := 6) nd rfl (Or.inl rfl)) (pgs_cons (pg_name (i := 7) nd rfl (Or.inl rfl)) pgs_nil))))
      (pss_cons (ps_set (i := 8) nd rfl (Or.inl rfl) (pv 6))
      (pss_cons (ps_if (pt_cmpR op_eq (pe_ix ix_tup (pe_call G_newest (hr.mono (by decide)) (by rfl) T.g_newest T.d_newest.kp b_newest .nil (passes_call (takes_of rfl rfl rfl rfl) (fun _ _ _ _ h => h)) (pa_cons (pv 0) (pa_cons (pv 1) (pa_cons (pv 2) pa_nil)))) pe_int (fun _ _ => rfl)) (pv 6) (nomark _)) (pss_one (ps_set (i := 8) nd rfl (Or.inl rfl) (pv 7))) pss_nil)
      (pss_one (ps_expr (pe_meth (pv 0) T.c_Disk T.m_Disk_put_page G_Disk_put_page (hr.mono (by decide)) b_Disk_put_page .nil (passes_call (takes_of rfl rfl rfl rfl) (fun _ _ _ _ h => h)) (pa_cons (pv 8) (pa_cons (pe_call G_page_text (hr.mono (by decide)) (by rfl) T.g_page_text T.d_page_text.kp b_page_text .nil pass0 (pa_cons (pv 2) (pa_cons (pv 3) (pa_cons (pv 4) (pa_cons (pv 5) pa_nil))))) pa_nil)))))))), ?_⟩
    simp only [cxOf, Cx.nox, L2.start, List.map_cons, List.map_nil, List.length_cons, List.length_nil, Nat.reduceAdd, Nat.reduceSub, List.replicate, List.cons_append, List.nil_append]
    have hs0 := hs
    obtain ⟨x, dx, dd, kvs, ko, rfl, hx, hd, kv, hk, tk, ok⟩ := hs
    have hx' := S.fr _ _ hx
    walk_at "z"
    refine ⟨F0, _, u, dt, ts, os, rfl, S.same, hs0, hu', hz, fun i t hit e H1 p1 s1 hp1 => ?_, kx⟩
    obtain ⟨hl, rx, rows, ho, hra, hrx, pk, kd⟩ := k i t hit e
    have htm := List.mem_of_getElem? hit
    have hi4 : i < 4 := by have := (List.getElem?_eq_some_iff.mp hit).1; have := tk.hi; omega
    have cok := (tk.nm t htm).2
    have S1 := S.ext s1
    have W1 := Z.Ws.init S1.same
    refine ⟨p1, _, rfl, SqT.of hp1, rfl, ?_⟩
    have hx1 := S1.fr _ _ hx
    walk_at "z"
    refine ⟨F0, d, _, u, dt, ts, os, rfl, S1.same, S1.sees, hs0, hu', hz, fun i' t' hit' e' => ?_, fun hno a H' s' e' => kx hno a H' (s1.trans s') e'⟩
    have hii : i' = i := by
      rw [e] at e'
      have a1 : (ts.map (·.1))[i]? = some t.1 := by rw [List.getElem?_map, hit]; rfl
      have a2 : (ts.map (·.1))[i']? = some t.1 := by rw [List.getElem?_map, hit']; exact congrArg some (PyData.str.inj e').symm
      exact nd_ix tk.nd a2 a1
    subst hii
    rw [hit] at hit'
    cases hit'
    subst e
    cases Z.dx_str hu'
    refine ⟨hl, ho, fun F2 H2 p q vs' W2 hp2 hvs => ?_⟩
    have S2 := S1.ext W2.same
    have hdp : H2 d.p = _ := S2.at 0 rfl
    have hra2 := S2.same.seq hra
    walk_at "z"
    refine ixTup (i := 0) (W2.fh _ _ hp2) rfl ?_
    walk_at "z"
    have zl : (pageT t.1 l m rows).length ≤ 1000 := by
      have := (body_facts cok pk).2.2
      have e1 : (pageT t.1 l m rows).length = (bodyT t.1 l m rows).length + 1 := Array.size_append
      omega
    have lt8 : lateSlot t hl i' < d.pages.length := by
      rw [ho.n]
      unfold lateSlot
      split
      · split <;> omega
      · omega
    cases hb : newestP t hl i' with
    | none =>
      rw [show bestV none = V.non from rfl]
      walk_at "z"
      refine ⟨F0, ra, rx, t.1, l, m, t.2, rows, rfl, S2.same, hra2, hrx, cok, pk, fun H3 s3 => ?_⟩
      have es : lateSlot t hl i' = 2 * i' := by unfold lateSlot; rw [hb]
      rw [es] at kd lt8
      refine ⟨F0, d, 2 * i', _, by rw [show 2 * (i' : Int) = ((2 * i' : Nat) : Int) by omega]; rfl, S2.ext s3, lt8, zl, kd.to fun H' h => h⟩
    | some a =>
      rw [show bestV (some a) = V.int (a.1 : Nat) from rfl]
      walk_at "z"
      refine Z.iteD (fun he => ?_) (fun he => ?_)
      · have ea : a.1 = 2 * i' := by have := V.int.inj he; omega
        walk_at "z"
        refine ⟨F0, ra, rx, t.1, l, m, t.2, rows, rfl, S2.same, hra2, hrx, cok, pk, fun H3 s3 => ?_⟩
        have es : lateSlot t hl i' = 2 * i' + 1 := by unfold lateSlot; rw [hb]; exact if_pos ea
        rw [es] at kd lt8
        refine ⟨F0, d, 2 * i' + 1, _, by rw [show 2 * (i' : Int) + 1 = ((2 * i' + 1 : Nat) : Int) by omega]; rfl, S2.ext s3, lt8, zl, kd.to fun H' h => h⟩
      · have ea : ¬ a.1 = 2 * i' := fun e => he (congrArg V.int (by omega))
        walk_at "z"
        refine ⟨F0, ra, rx, t.1, l, m, t.2, rows, rfl, S2.same, hra2, hrx, cok, pk, fun H3 s3 => ?_⟩
        have es : lateSlot t hl i' = 2 * i' := by unfold lateSlot; rw [hb]; exact if_neg ea
        rw [es] at kd lt8
        refine ⟨F0, d, 2 * i', _, by rw [show 2 * (i' : Int) = ((2 * i' : Nat) : Int) by omega]; rfl, S2.ext s3, lt8, zl, kd.to fun H' h => h⟩

def sp_law_row (K : PySem.W.Frag) (A : Adr) : Sp := fun vs H Q _ => ∃ (F : Hp) (cv dv : V) (cs : List Col) (xs : List Int), vs = [cv, dv] ∧ Same F H ∧ Dp K F cv (.list (cs.map pairD)) ∧ ColsOk cs ∧ Dp K F dv (.list (xs.map .int)) ∧ cs.length ≤ xs.length ∧ (∀ x ∈ xs, 0 ≤ x) ∧
  ∀ F' H' r ds, Z.Gr F H F' H' → Dp K F' r (.tuple ds) → RowOk cs ds → Q r H'
theorem ok_law_row (T : Txt K mg A) : ∃ fd, FnOk P w K mg base CX0 4 A.f_law_row fd ["_law_columns", "_law_draws_here"] (sp_law_row K A) ∧ Binds K fd ["_law_columns", "_law_draws_here"] [] := by
  have ⟨fd, F, b⟩ := T.d_law_row
  refine ⟨fd, F.ok sc_law_row (fun vs H Q E h => ?_) (fun cdv Ar outer s H vs Q E hr h => ?_), b⟩
  · obtain ⟨F0, cv, dv, cs, xs, rfl, _⟩ := h
    rfl
  · obtain ⟨F0, cv, dv, cs, xs, rfl, sm, hc, ok, hd, hl, pos, k⟩ := h
    have nd := sc_law_row.nd
    have hu := hu_of hr
    have ⟨fd_law_value, G_law_value, b_law_value⟩ := ok_law_value (P := P) (w := w) (base := base) T
    refine ⟨_, (pss_one (ps_ret (pe_callTy call_tuple_of (by rfl) T.b_tuple (by decide +kernel) (pa_cons (pe_lc (own := [("_law_k", 2), ("_law_name", 3), ("_law_kind", 4)]) rfl nd (pi_enum (by rfl) T.b_enumerate (pa_cons (pv 0) pa_nil)) (blkOk_by (own := [("_law_k", 2), ("_law_name", 3), ("_law_kind", 4)]) (N := ["_law_columns", "_law_draws_here", "_law_k", "_law_name", "_law_kind"]) (sc := defScope s_law_row) (by decide +kernel)) (fun _ _ _ _ _ => (pg_tupK (K := K) (n := 2) rfl rfl (pgs_cons (pg_name (i := 2) nd rfl (Or.inl rfl)) (pgs_cons (pg_tupK (K := K) (n := 2) rfl rfl (pgs_cons (pg_name (i := 3) nd rfl (Or.inl rfl)) (pgs_cons (pg_name (i := 4) nd rfl (Or.inl rfl)) pgs_nil))) pgs_nil)))) (fun _ _ _ _ _ => pts_nil) (fun _ _ _ _ _ => (pe_call G_law_value (hr.mono (by decide)) (by rfl) T.g_law_value T.d_law_value.kp b_law_value .nil pass0 (pa_cons (pv 4) (pa_cons (pe_ix (ix_listK (K := K) rfl) (pv 1) (pv 2) (fun _ _ => rfl)) pa_nil))))) pa_nil)))), ?_⟩
    simp only [cxOf, Cx.nox, L2.start, List.map_cons, List.map_nil, List.length_cons, List.length_nil, Nat.reduceAdd, Nat.reduceSub, List.replicate, List.cons_append, List.nil_append]
    have chi := ok.hi
    obtain ⟨ca, cx, rfl, hca, hcx⟩ := Z.dp_lst hc
    have hcl := Z.dpa_len hcx
    rw [List.length_map] at hcl
    walk_at "z"
    refine ⟨ca, _, rfl, sm.seq hca, fun D hD => ?_⟩
    refine lc_it walk_enum (fun i H' => ∃ F' vs ds, Z.Ws [(D, .lst vs)] F0 H F' H' ∧ Same F0 F' ∧ DpAll K F' vs ds ∧ ds.length = i ∧ ∀ (j : Nat) (c : Col) (d : PyData), cs[j]? = some c → ds[j]? = some d → ValD c.2 d) ⟨F0, [], [], (Z.Ws.init sm).new hD, Same.refl _, .nil, rfl, fun j c d _ h => by simp at h⟩ (fun i H' hi ⟨_, _, _, W, s, _⟩ => (s.trans W.fh).seq hca) ?_ ?_
    · rintro i x H1 H2 hi ⟨F1, vs, ds, W1, s1, ha, hdl, hv⟩ ⟨T1, x1, x2, rfl, hT, rfl, e1, e2⟩
      cases e1
      have e2 : cx[i]? = some x2 := e2
      have W2 := W1.exts (Z.same_new (o := .tup [.int (i : Nat), x2]) hT)
      have gT : upd H1 T1 (.tup [.int (i : Nat), x2]) T1 = _ := upd_same
      generalize upd H1 T1 (.tup [.int (i : Nat), x2]) = H2 at W2 gT ⊢
      obtain ⟨d2, g1, g2⟩ := Z.dpa_ix hcx e2
      rw [List.getElem?_map] at g1
      obtain ⟨c, hci, rfl⟩ := Option.map_eq_some_iff.mp g1
      have ck := (ok.nm c (List.mem_of_getElem? hci)).2
      refine ⟨T1, _, rfl, SqT.of gT, rfl, ?_⟩
      walk_at "z"
      refine Z.gtupD (Z.dp_same s1 g2) W2.fh fun zs hzs => ?_
      obtain ⟨z1, z2, rfl, hz1, hz2⟩ := Z.dpa2 hzs
      cases Z.dp_str hz1
      cases Z.dp_str hz2
      walk_at "z"
      refine ⟨rfl, ?_⟩
      walk_at "z"
      have ex : xs[i]? = some (xs[i]'(by omega)) := List.getElem?_eq_getElem _
      have px := pos _ (List.mem_of_getElem? ex)
      refine Z.ixD (Z.dp_same s1 hd) W2.fh i (d := .int (xs[i]'(by omega))) (by rw [List.getElem?_map, ex]; rfl) fun w hw => ?_
      cases Z.dp_int hw
      walk_at "z"
      refine ⟨F1, c.2, _, rfl, W2.fh, ck, px, fun F3 H3 v d g3 hv3 hd3 => ?_⟩
      have W3 := W2.ext g3
      have hvl := Z.dpa_len ha
      refine ⟨vs, W3.at 0 rfl, Nat.lt_of_le_of_lt (show vs.length ≤ 1000 by omega) (by decide), F3, vs ++ [v], ds ++ [d], W3.set 0 rfl _, s1.trans g3.f, Z.dpa_snoc (Z.dpa_same g3.f ha) hv3, by rw [List.length_append, hdl]; rfl, fun j c' d' hc' hd' => ?_⟩
      by_cases e : j < i
      · rw [List.getElem?_append_left (by omega)] at hd'
        exact hv j c' d' hc' hd'
      · have hjl := (List.getElem?_eq_some_iff.mp hd').1
        rw [List.length_append, hdl] at hjl
        have hj : j = i := by simp at hjl; omega
        subst hj
        rw [hci] at hc'
        cases hc'
        rw [List.getElem?_append_right (by omega), hdl, Nat.sub_self] at hd'
        cases hd'
        exact hd3
    · rintro H1 ⟨F1, vs, ds, W1, s1, ha, hdl, hv⟩
      walk_at "z"
      refine ⟨D, vs, rfl, .inl ⟨SqL.of (W1.at 0 rfl), fun p hp => ?_⟩⟩
      have W2 := W1.dat (o := .tup vs) hp
      exact k _ _ _ ds W2.g (.tup (SqT.of upd_same) (Z.dpa_same (Z.same_new (W1.freeF hp)) ha)) ⟨by omega, hv⟩

/-! own rule: sorted(d) of a dict whose keys are all ints or all texts: strictly rising keys -/
namespace Z
open PySem PySem.Spec PyProof.Rows
theorem lt_of_ne {a b : List Nat} (h : ¬ b < a) (ne : a ≠ b) : a < b := by
  by_cases e : a < b
  · exact e
  · exact absurd (List.le_antisymm (show a ≤ b from h) (show b ≤ a from e)) ne
/-- one key below another -/
def kLt : Key → Key → Prop
  | .inl i, .inl j => i < j
  | .inr a, .inr b => a.cps.toList < b.cps.toList
  | _, _ => False
theorem str_ne {a b : Str} (h : a ≠ b) : a.cps.toList ≠ b.cps.toList := fun e => h (Str.ext' (Array.toList_inj.mp e))
theorem rising_all : ∀ (r : List Str) (p : Str), risingS p r = true → (p :: r).Nodup → (p :: r).Pairwise (fun a b => a.cps.toList < b.cps.toList)
  | [], p, _, _ => List.pairwise_singleton _ p
  | x :: r, p, h, nd => by
    unfold risingS at h
    rw [Bool.and_eq_true] at h
    have nd' := List.nodup_cons.mp nd
    have ih := rising_all r x h.2 nd'.2
    have hpx : p.cps.toList < x.cps.toList := by
      have h1 := h.1
      rw [Bool.not_eq_true', ltCps_eq, decide_eq_false_iff_not] at h1
      exact lt_of_ne h1 (str_ne fun e => nd'.1 (by rw [e]; exact List.mem_cons_self))
    refine List.pairwise_cons.mpr ⟨fun y hy => ?_, ih⟩
    rcases List.mem_cons.mp hy with rfl | hy
    · exact hpx
    · exact List.lt_trans hpx ((List.pairwise_cons.mp ih).1 y hy)
theorem rising_strs {ys : List Str} (h : sortedS ys = true) (nd : ys.Nodup) : ys.Pairwise (fun a b => a.cps.toList < b.cps.toList) := by
  cases ys with
  | nil => exact .nil
  | cons p r => exact rising_all r p h nd
theorem rising_ints {ys : List Int} (h : ys.Pairwise (· ≤ ·)) (nd : ys.Nodup) : ys.Pairwise (· < ·) :=
  (h.and nd).imp fun ⟨a, b⟩ => by omega
def rSortK : List V → Hp → VK → Prop := fun xs H Q => ∃ (a : Addr) (kvs : List (Key × V)) (m : Bool), xs = [.ref a] ∧ H a = some (.dK kvs) ∧ (∀ k ∈ kvs.map (·.1), k.isLeft = m) ∧ (kvs.map (·.1)).Nodup ∧ kvs.length < 64 ∧
  ∀ (ys : List Key) (p : Addr), ys.Perm (kvs.map (·.1)) → ys.Pairwise kLt → H p = none → Q (.ref p) (upd H p (.lst (ys.map kV)))
theorem lefts : ∀ {ks : List Key}, (∀ k ∈ ks, k.isLeft = true) → ∃ is : List Int, ks = is.map Sum.inl
  | [], _ => ⟨[], rfl⟩
  | .inl i :: r, h => by obtain ⟨is, e⟩ := lefts fun k hk => h k (List.mem_cons_of_mem _ hk); exact ⟨i :: is, by rw [e]; rfl⟩
  | .inr s :: r, h => nomatch h (.inr s) List.mem_cons_self
theorem rights : ∀ {ks : List Key}, (∀ k ∈ ks, k.isLeft = false) → ∃ is : List Str, ks = is.map Sum.inr
  | [], _ => ⟨[], rfl⟩
  | .inr i :: r, h => by obtain ⟨is, e⟩ := rights fun k hk => h k (List.mem_cons_of_mem _ hk); exact ⟨i :: is, by rw [e]; rfl⟩
  | .inl s :: r, h => nomatch h (.inl s) List.mem_cons_self
theorem call_sortedK {X : Cx} (hcalm : X.calm = true) : CallR X (.builtin "sorted") rSortK := by
  intro pins s σ H xs us Q I r q
  obtain ⟨a, kvs, m, rfl, hd, hk, nd, hl, q⟩ := q
  cases m with
  | true =>
    obtain ⟨is, e⟩ := lefts hk
    have hn : is.Nodup := by rw [e] at nd; exact (List.pairwise_map.mp nd).imp fun h e => h (congrArg _ e)
    refine call_sortedDI hcalm pins s σ H _ us Q I r ⟨a, kvs, is, rfl, .of hd, e, by have := congrArg List.length e; rw [List.length_map, List.length_map] at this; omega, fun ys p hp hs hf => ?_⟩
    have := q (ys.map Sum.inl) p (by rw [e]; exact hp.map _) (List.pairwise_map.mpr (rising_ints hs (hp.nodup_iff.mpr hn))) hf
    rw [List.map_map] at this
    exact this
  | false =>
    obtain ⟨is, e⟩ := rights hk
    have hn : is.Nodup := by rw [e] at nd; exact (List.pairwise_map.mp nd).imp fun h e => h (congrArg _ e)
    refine call_sortedD hcalm pins s σ H _ us Q I r ⟨a, kvs, is, rfl, .of hd, e, by have := congrArg List.length e; rw [List.length_map, List.length_map] at this; omega, fun ys p hp hs hf => ?_⟩
    have := q (ys.map Sum.inr) p (by rw [e]; exact hp.map _) (List.pairwise_map.mpr (rising_strs hs (hp.nodup_iff.mpr hn))) hf
    rw [List.map_map] at this
    exact this
end Z

def keyP : Key → PyData
  | .inl i => .int i
  | .inr s => .str s
theorem keyP_lt {a b : Key} (h : Z.kLt a b) : keyLt (keyP a) (keyP b) := by
  cases a <;> cases b <;> exact h
/-- the rows that a dict by their first value holds -/
def RowsIn (K : PySem.W.Frag) (F : Hp) (cs : List Col) (kvs : List (Key × V)) : Prop := ∀ kv ∈ kvs, ∃ ds, RowOk cs ds ∧ ds[0]? = some (keyP kv.1) ∧ Dp K F kv.2 (.tuple ds)
theorem put_mem {kvs : List (Key × V)} {k : Key} {v : V} {kv : Key × V} (h : kv ∈ putK kvs k v) : kv = (k, v) ∨ kv ∈ kvs := by
  unfold putK at h
  split at h
  · obtain ⟨x, hx, rfl⟩ := List.mem_map.mp h
    by_cases e : x.1 = k
    · rw [if_pos e]; exact .inl (by rw [e])
    · rw [if_neg e]; exact .inr hx
  · rcases List.mem_append.mp h with h | h
    · exact .inr h
    · exact .inl (List.mem_singleton.mp h)
theorem put_nd {kvs : List (Key × V)} {k : Key} {v : V} (nd : (kvs.map (·.1)).Nodup) : ((putK kvs k v).map (·.1)).Nodup := by
  unfold putK
  by_cases a : (kvs.any fun kv => decide (kv.1 = k)) = true
  · rw [if_pos a, List.map_map]
    have : (kvs.map ((·.1) ∘ fun kv => if kv.1 = k then (kv.1, v) else kv)) = kvs.map (·.1) := List.map_congr_left fun x _ => by
      show (if x.1 = k then (x.1, v) else x).1 = x.1
      split <;> rfl
    rw [this]
    exact nd
  · rw [if_neg a, List.map_append]
    refine List.nodup_append.mpr ⟨nd, List.pairwise_singleton _ _, fun x hx y hy e => a ?_⟩
    obtain ⟨z, hz, rfl⟩ := List.mem_map.mp hx
    rw [List.map_cons, List.map_nil, List.mem_singleton] at hy
    exact List.any_eq_true.mpr ⟨z, hz, decide_eq_true (e.trans hy)⟩
theorem put_len {kvs : List (Key × V)} {k : Key} {v : V} : (putK kvs k v).length ≤ kvs.length + 1 := length_putK kvs k v
theorem val_mem {kvs : List (Key × V)} {k : Key} (h : k ∈ kvs.map (·.1)) : ∃ v, L2.valV kvs k = some v ∧ (k, v) ∈ kvs := by
  induction kvs with
  | nil => exact nomatch h
  | cons p r ih =>
    by_cases e : p.1 = k
    · exact ⟨p.2, valV_pos e, by rw [← e]; exact List.mem_cons_self⟩
    · rw [List.map_cons] at h
      rcases List.mem_cons.mp h with h | h
      · exact absurd h.symm e
      · obtain ⟨v, h1, h2⟩ := ih h
        exact ⟨v, by rw [valV_neg e]; exact h1, List.mem_cons_of_mem _ h2⟩
theorem RowsIn.same {K : PySem.W.Frag} {F F' : Hp} {cs : List Col} {kvs : List (Key × V)} (h : RowsIn K F cs kvs) (s : Same F F') : RowsIn K F' cs kvs := fun kv hkv => by
  obtain ⟨ds, a, b, c⟩ := h kv hkv
  exact ⟨ds, a, b, Z.dp_same s c⟩
def numFirst (cs : List Col) : Bool := decide (cs[0]?.map (fun c : Col => c.2) = some ("number" : Str))
theorem row_key {cs : List Col} {ds : List PyData} (ok : ColsOk cs) (row : RowOk cs ds) : ∃ k : Key, ds[0]? = some (keyP k) ∧ valV (keyP k) = kV k ∧ k.isLeft = numFirst cs := by
  have lo := ok.lo
  have r1 := row.1
  have e0 : ds[0]? = some (ds[0]'(by omega)) := List.getElem?_eq_getElem _
  have ec : cs[0]? = some (cs[0]'(by omega)) := List.getElem?_eq_getElem _
  have v0 := row.2 0 _ _ ec e0
  have en : numFirst cs = decide (some (cs[0]'(by omega)).2 = some ("number" : Str)) := by unfold numFirst; rw [ec]; rfl
  rw [en]
  rcases v0 with ⟨h1, z, h2, _⟩ | ⟨h1, i, h2, _⟩
  · refine ⟨.inr z, by rw [e0, h2]; rfl, rfl, ?_⟩
    rw [h1]; rfl
  · refine ⟨.inl i, by rw [e0, h2]; rfl, rfl, ?_⟩
    rw [h1]; rfl
def sp_law_table_rows (K : PySem.W.Frag) (A : Adr) : Sp := fun vs H Q _ => ∃ (F : Hp) (cv : V) (cs : List Col) (c : Int) (n : Nat), vs = [cv, .int c, .int n] ∧ Same F H ∧ Dp K F cv (.list (cs.map pairD)) ∧ ColsOk cs ∧ n ≤ 6 ∧
  ∀ F' H' q vs' rows, Z.Ws [(q, .lst vs')] F H F' H' → DpAll K F' vs' (rows.map .tuple) → (∀ ds ∈ rows, RowOk cs ds) → Rising rows → rows.length ≤ 6 → Q (.ref q) H'
theorem ok_law_table_rows (T : Txt K mg A) : ∃ fd, FnOk P w K mg base CX0 5 A.f_law_table_rows fd ["_law_columns", "_law_cell_here", "_law_many"] (sp_law_table_rows K A) ∧ Binds K fd ["_law_columns", "_law_cell_here", "_law_many"] [] := by
  have ⟨fd, F, b⟩ := T.d_law_table_rows
  refine ⟨fd, F.ok sc_law_table_rows (fun vs H Q E h => ?_) (fun cdv Ar outer s H vs Q E hr h => ?_), b⟩
  · obtain ⟨F0, cv, cs, c, n, rfl, _⟩ := h
    rfl
  · obtain ⟨F0, cv, cs, c, n, rfl, sm, hc, ok, n6, k⟩ := h
    have nd := sc_law_table_rows.nd
    have hu := hu_of hr
    have ⟨fd_law_row, G_law_row, b_law_row⟩ := ok_law_row (P := P) (w := w) (base := base) T
    have ⟨fd_law_draws, G_law_draws, b_law_draws⟩ := ok_law_draws (P := P) (w := w) (base := base) T
    refine ⟨_, (pss_cons (ps_set (i := 3) nd rfl (Or.inr rfl) pe_dnewK)
      (pss_cons (ps_for PassesOwn.never rfl (pi_range1 rfl T.b_range (pa_cons (pv 2) pa_nil)) (pg_name (i := 4) nd rfl (Or.inl rfl)) (pss_cons (ps_set (i := 5) nd rfl (Or.inl rfl) (pe_call G_law_row (hr.mono (by decide)) (by rfl) T.g_law_row T.d_law_row.kp b_law_row .nil pass0 (pa_cons (pv 0) (pa_cons (pe_call G_law_draws (hr.mono (by decide)) (by rfl) T.g_law_draws T.d_law_draws.kp b_law_draws .nil pass0 (pa_cons (pe_op op_add (pv 1) (pe_op op_mul pe_int (pv 4))) (pa_cons pe_int pa_nil))) pa_nil))))
      (pss_one (ps_dput hu (pv 3) (pe_ix ix_tup (pv 5) pe_int (fun _ _ => rfl)) (pv 5) rfl))))
      (pss_one (ps_ret (pe_lc (own := [("_law_key", 6)]) rfl nd (pi_list (pe_callB (Z.call_sortedK rfl) (by rfl) T.b_sorted (by decide +kernel) (pa_cons (pv 3) pa_nil))) (blkOk_by (own := [("_law_key", 6)]) (N := ["_law_columns", "_law_cell_here", "_law_many", "_law_found", "_law_k", "_law_row_here", "_law_key"]) (sc := defScope s_law_table_rows) (by decide +kernel)) (fun _ _ _ _ _ => pg_name (i := 6) nd rfl (Or.inl rfl)) (fun _ _ _ _ _ => pts_nil) (fun _ _ _ _ _ => (pe_dget hu (pv 3) (pv 6) (fun _ _ => rfl)))))))), ?_⟩
    simp only [cxOf, Cx.nox, L2.start, List.map_cons, List.map_nil, List.length_cons, List.length_nil, Nat.reduceAdd, Nat.reduceSub, List.replicate, List.cons_append, List.nil_append]
    walk_at "z"
    intro D hD
    have W0 := (Z.Ws.init sm).new (o := .dK []) hD
    walk_at "z"
    refine ⟨(n : Int), rfl, by omega, by omega, ?_⟩
    rw [Int.toNat_natCast]
    refine (for_range (lo := 0) (n := n) (fun i σ H' => (∃ v4 v5 v6, σ = [some cv, some (.int c), some (.int n), some (.ref D), v4, v5, v6]) ∧ ∃ F' kvs, Z.Ws [(D, .dK kvs)] F0 H F' H' ∧ RowsIn K F' cs kvs ∧ (kvs.map (·.1)).Nodup ∧ kvs.length ≤ i)
      ⟨⟨_, _, _, rfl⟩, F0, [], W0, fun _ h => (nomatch h), .nil, Nat.le_refl _⟩ ?_ ?_)
    · rintro i σ H1 hi ⟨⟨v4, v5, v6, rfl⟩, F1, kvs, W1, hin, nd, hl⟩
      walk_at "z"
      refine ⟨F1, _, 4, rfl, W1.fh, by decide, fun F2 H2 dv xs hxl pos g2 hd => ?_⟩
      have W2 := W1.ext g2
      walk_at "z"
      refine ⟨F2, cv, dv, cs, xs, rfl, W2.fh, Z.dp_same W2.f0 hc, ok, hd, by have := ok.hi; omega, fun x hx => (pos x hx).1, fun F3 H3 r ds g3 hr row => ?_⟩
      have W3 := W2.ext g3
      walk_at "z"
      obtain ⟨ky, e0, ek, kl⟩ := row_key ok row
      obtain ⟨ra, rx, rfl, hra, hrx⟩ := Z.dp_tup hr
      have hrx0 := hrx
      have hrxl := Z.dpa_len hrx
      obtain ⟨w0, hw0⟩ : ∃ w0, rx[0]? = some w0 := ⟨rx[0]'(by have := row.1; have := ok.lo; omega), List.getElem?_eq_getElem _⟩
      obtain ⟨d0, hd0e, hd0⟩ := Z.dpa_ix hrx hw0
      rw [e0] at hd0e
      cases hd0e
      refine ⟨ra, rx, 0, w0, rfl, rfl, Z.seqT W3.fh hra, atI_nat hw0, ?_⟩
      have e1 : w0 = kV ky := by
        have := dp_val (row.2 0 _ _ (List.getElem?_eq_getElem (by have := ok.lo; omega)) e0) hd0
        rw [this, ek]
      subst e1
      refine ⟨D, _, rfl, DPut.k (W3.at 0 rfl) (Nat.lt_of_le_of_lt (show kvs.length ≤ 6 by omega) (by decide)), ?_⟩
      walk_at "z"
      refine ⟨⟨_, _, _, rfl⟩, F3, _, W3.set 0 rfl _, fun kv hkv => ?_, put_nd nd, Nat.le_trans put_len (by omega)⟩
      rcases put_mem hkv with rfl | h
      · exact ⟨ds, row, e0, hr⟩
      · exact (hin.same (g2.f.trans g3.f)) kv h
    · rintro σ H1 ⟨⟨v4, v5, v6, rfl⟩, F1, kvs, W1, hin, nd, hl⟩
      walk_at "z"
      refine ⟨D, kvs, numFirst cs, rfl, W1.at 0 rfl, fun ky hk => ?_, nd, Nat.lt_of_le_of_lt hl (by omega), fun ys p hp hs hf => ?_⟩
      · obtain ⟨kv, hkv, rfl⟩ := List.mem_map.mp hk
        obtain ⟨ds, row, e0, _⟩ := hin kv hkv
        obtain ⟨ky, e1, _, kl⟩ := row_key ok row
        rw [e0] at e1
        have : kv.1 = ky := by
          have := Option.some.inj e1
          cases h1 : kv.1 <;> cases h2 : ky <;> rw [h1, h2] at this <;> cases this <;> rfl
        rw [this]
        exact kl
      have W2 := W1.new (o := .lst (ys.map kV)) hf
      refine ⟨p, rfl, ⟨_, SqL.of (W2.at 0 rfl)⟩, fun D2 hD2 => ?_⟩
      refine lc_it walk_list (fun i H' => ∃ vs rows, Z.Ws [(D2, .lst vs), (p, .lst (ys.map kV)), (D, .dK kvs)] F0 H F1 H' ∧ DpAll K F1 vs (rows.map .tuple) ∧ rows.length = i ∧ ∀ (j : Nat) ds, rows[j]? = some ds → RowOk cs ds ∧ ∃ y, ys[j]? = some y ∧ ds[0]? = some (keyP y)) ⟨[], [], W2.new hD2, .nil, rfl, fun j ds h => by simp at h⟩ (fun i H' hi ⟨_, _, W, _⟩ => SqL.of (W.at 1 rfl)) ?_ ?_
      · rintro i x H3 H4 hi ⟨vs, rows, W3, hvs, hrl, hat⟩ ⟨rfl, hx⟩
        rw [List.getElem?_map] at hx
        obtain ⟨y, hy, rfl⟩ := Option.map_eq_some_iff.mp hx
        refine ⟨rfl, ?_⟩
        walk_at "z"
        obtain ⟨v, hv, hm⟩ := val_mem (hp.mem_iff.mp (List.mem_of_getElem? hy))
        refine Z.dgetE (W3.at 2 rfl) hv ?_
        obtain ⟨ds, row, e0, hdp⟩ := hin _ hm
        have hyl := hp.length_eq
        rw [List.length_map] at hyl
        have hil := (List.getElem?_eq_some_iff.mp hy).1
        have hvl := Z.dpa_len hvs
        rw [List.length_map] at hvl
        refine ⟨vs, W3.at 0 rfl, Nat.lt_of_le_of_lt (show vs.length ≤ 6 by omega) (by decide), vs ++ [v], rows ++ [ds], W3.set 0 rfl _, by rw [List.map_append]; exact Z.dpa_snoc hvs hdp, by rw [List.length_append, hrl]; rfl, fun j ds' h => ?_⟩
        by_cases e : j < rows.length
        · rw [List.getElem?_append_left e] at h
          exact hat j ds' h
        · have hjl := (List.getElem?_eq_some_iff.mp h).1
          rw [List.length_append, List.length_singleton] at hjl
          have hj : j = rows.length := by omega
          subst hj
          rw [List.getElem?_append_right (Nat.le_refl _), Nat.sub_self] at h
          cases h
          exact ⟨row, y, by rw [hrl]; exact hy, e0⟩
      · rintro H3 ⟨vs, rows, W3, hvs, hrl, hat⟩
        walk_at "z"
        have hyl := hp.length_eq
        rw [List.length_map] at hyl
        rw [List.length_map] at hrl
        refine k F1 H3 D2 vs rows (W3.pick [0] (by decide) rfl) hvs (fun ds hds => ?_) ?_ (by omega)
        · obtain ⟨j, hj⟩ := List.mem_iff_getElem?.mp hds
          exact (hat j ds hj).1
        · refine List.pairwise_iff_getElem.mpr fun i j hi hj hij => ?_
          obtain ⟨_, a, ha1, ha2⟩ := hat i _ (List.getElem?_eq_getElem hi)
          obtain ⟨_, b, hb1, hb2⟩ := hat j _ (List.getElem?_eq_getElem hj)
          obtain ⟨i1, i2⟩ := List.getElem?_eq_some_iff.mp ha1
          obtain ⟨j1, j2⟩ := List.getElem?_eq_some_iff.mp hb1
          have := List.pairwise_iff_getElem.mp hs i j i1 j1 hij
          rw [i2, j2] at this
          exact ⟨_, _, ha2, hb2, keyP_lt this⟩

def rJoin (K : PySem.W.Frag) : V → List V → Hp → VK → Prop := fun x xs H Q => ∃ a p, ∃ ys : List Str, x = .str a ∧ xs = [.ref p] ∧ (SqL K H p (ys.map V.str) ∨ SqT K H p (ys.map V.str)) ∧ (ys.map (·.length)).sum + ys.length * a.length ≤ 16777216 ∧ Q (.str (Txt.join a ys)) H
theorem pe_joinK {X : Cx} {K : PySem.W.Frag} {o e : Expr} {to te : TE} {apos pos : Pos} (h : X.K = K) (ho : PE X o to) (he : PE X e te) (hs : starEach [e] X.env = [(false, eval e X.env)] := by rfl) (hbase : attributeBase o "join" X.env (eval o X.env) = eval o X.env := by rfl) (hline : (apos.endLine == pos.line) = true := by rfl) :
    PE X (.Call (.Attribute o "join" apos) [e] [] pos) (tM1 (rJoin K) to te) := by subst h; exact pe_join ho he hs hbase hline
theorem pi_listK {X : Cx} {K : PySem.W.Frag} {tg l : Expr} {tl : TE} (h : X.K = K) (hl : PE X l tl) : PI X tg l (iList K tl) := by subst h; exact pi_list hl
theorem pi_tupK {X : Cx} {K : PySem.W.Frag} {tg l : Expr} {tl : TE} (h : X.K = K) (hl : PE X l tl) : PI X tg l (iTup K tl) := by subst h; exact pi_tup hl
theorem len_app (a b : Str) : (a ++ b).length = a.length + b.length := Array.size_append
theorem head_text (nm : Str) (l m : Int) : ((("page " : Str) ++ nm ++ " ") ++ Str.ofString (toString l) ++ " ") ++ Str.ofString (toString m) = headT nm l m := by
  refine Str.ext' (Array.toList_inj.mp ?_)
  show TL.tl _ = TL.tl (headT nm l m)
  unfold headT
  rw [tl_txt_join]
  simp only [TL.tl_append, List.map_cons, List.map_nil, TL.joinL]
  rw [show TL.tl ("page " : Str) = TL.tl ("page" : Str) ++ TL.tl (" " : Str) by decide +kernel]
  simp only [List.append_assoc]
def sp_law_page_text (K : PySem.W.Frag) (A : Adr) : Sp := fun vs H Q _ => ∃ (F : Hp) (ra : Addr) (rx : List V) (nm : Str) (l m : Int) (cs : List Col) (rows : List (List PyData)), vs = [.str nm, .int l, .int m, .ref ra] ∧ Same F H ∧ SqL K H ra rx ∧ DpAll K F rx (rows.map .tuple) ∧ ColsOk cs ∧ PageOk cs nm l m rows ∧
  ∀ H', Same H H' → Q (.str (pageT nm l m rows)) H'
theorem ok_law_page_text (T : Txt K mg A) : ∃ fd, FnOk P w K mg base CX0 1 A.f_law_page_text fd ["_law_name", "_law_last", "_law_many", "_law_rows"] (sp_law_page_text K A) ∧ Binds K fd ["_law_name", "_law_last", "_law_many", "_law_rows"] [] := by
  have ⟨fd, F, b⟩ := T.d_law_page_text
  refine ⟨fd, F.ok sc_law_page_text (fun vs H Q E h => ?_) (fun cdv Ar outer s H vs Q E hr h => ?_), b⟩
  · obtain ⟨F0, ra, rx, nm, l, m, cs, rows, rfl, _⟩ := h
    rfl
  · obtain ⟨F0, ra, rx, nm, l, m, cs, rows, rfl, sm, hra, hrx, ok, pk, k⟩ := h
    have nd := sc_law_page_text.nd
    have hu := hu_of hr
    refine ⟨_, (pss_cons (ps_set (i := 4) nd rfl (Or.inl rfl) (pe_lst (pa_cons (pe_op op_add_str (pe_op op_add_str (pe_op op_add_str (pe_op op_add_str (pe_op op_add_str pe_str (pv 0)) pe_str) (pe_callTy call_strA (by rfl) T.b_str (by decide +kernel) (pa_cons (pv 1) pa_nil))) pe_str) (pe_callTy call_strA (by rfl) T.b_str (by decide +kernel) (pa_cons (pv 2) pa_nil))) pa_nil)))
      (pss_cons (ps_expr (pe_bm PySem.F.plainAttrs_list PySem.F.slot_list_extend PySem.F.type_list_extend mt_extend (pv 4) (pa_cons (pe_lc (own := [("_law_row_here", 5)]) rfl nd (pi_list (pv 3)) (blkOk_by (own := [("_law_row_here", 5)]) (N := ["_law_name", "_law_last", "_law_many", "_law_rows", "_law_parts", "_law_row_here", "_law_value_here"]) (sc := defScope s_law_page_text) (by decide +kernel)) (fun _ _ _ _ _ => pg_name (i := 5) nd rfl (Or.inl rfl)) (fun _ _ _ _ _ => pts_nil) (fun _ _ _ _ _ => (pe_joinK (K := K) rfl pe_str (pe_lc (own := [("_law_value_here", 6)]) rfl nd (pi_tupK (K := K) rfl (pv 5)) (blkOk_by (own := [("_law_value_here", 6)]) (N := ["_law_name", "_law_last", "_law_many", "_law_rows", "_law_parts", "_law_row_here", "_law_value_here"]) (sc := { kind := .function, names := [(".0", .local), ("_law_row_here", .local)], isGenerator := false, isCoroutine := false }) (by decide +kernel)) (fun _ _ _ _ _ => pg_name (i := 6) nd rfl (Or.inl rfl)) (fun _ _ _ _ _ => pts_nil) (fun _ _ _ _ _ => (pe_callTy call_strA (by rfl) T.b_str (by decide +kernel) (pa_cons (pv 6) pa_nil))))))) pa_nil)))
      (pss_one (ps_ret (pe_op op_add_str (pe_join pe_str (pv 4)) pe_str))))), ?_⟩
    simp only [cxOf, Cx.nox, L2.start, List.map_cons, List.map_nil, List.length_cons, List.length_nil, Nat.reduceAdd, Nat.reduceSub, List.replicate, List.cons_append, List.nil_append]
    have l0 := pk.l0
    have l1 := pk.l1
    have m0 := pk.m0
    have m1 := pk.m1
    have many := pk.many
    have hrl := Z.dpa_len hrx
    rw [List.length_map] at hrl
    have pc := parts_clean ok pk
    have nl := (name_clean pk.nm).len
    have ll := (num_clean (show -(10 ^ 9) ≤ l by omega) l1).len
    have ml := (num_clean (show -(10 ^ 9) ≤ m by omega) m1).len
    have p5 : ("page " : Str).length = 5 := by decide +kernel
    have p1 : (" " : Str).length = 1 := by decide +kernel
    walk_at "z"
    refine Z.addS (by omega) ?_
    walk_at "z"
    refine Z.addS (by rw [len_app]; omega) ?_
    walk_at "z"
    refine ⟨_, _, rfl, .inl ⟨l, rfl, log_small (by omega), rfl⟩, ?_⟩
    walk_at "z"
    refine Z.addS (by rw [len_app, len_app]; omega) ?_
    walk_at "z"
    refine Z.addS (by rw [len_app, len_app, len_app]; omega) ?_
    walk_at "z"
    refine ⟨_, _, rfl, .inl ⟨m, rfl, log_small (by omega), rfl⟩, ?_⟩
    walk_at "z"
    refine Z.addS (by rw [len_app, len_app, len_app, len_app]; omega) ?_
    rw [head_text]
    walk_at "z"
    refine Z.lstW (Z.Ws.init sm) fun q2 H2 W2 => ?_
    walk_at "z"
    refine ⟨.inl ⟨rfl, _, SqL.of (W2.at 0 rfl)⟩, ?_⟩
    walk_at "z"
    refine ⟨ra, rfl, ⟨_, W2.same.seq hra⟩, fun E hE => ?_⟩
    refine lc_it walk_list (fun i H' => Z.Ws [(E, .lst (((rows.take i).map rowT).map .str)), (q2, .lst [.str (headT nm l m)])] F0 H F0 H') (W2.new hE) (fun i H' hi W => W.same.seq hra) ?_ ?_
    · rintro i x H3 H4 hi W3 ⟨rfl, hx⟩
      obtain ⟨d, e1, hd⟩ := Z.dpa_ix hrx hx
      rw [List.getElem?_map] at e1
      obtain ⟨ds, hds, rfl⟩ := Option.map_eq_some_iff.mp e1
      have row := pk.rw ds (List.mem_of_getElem? hds)
      obtain ⟨ta, tx, rfl, hta, htx⟩ := Z.dp_tup hd
      refine ⟨rfl, ?_⟩
      walk_at "z"
      refine ⟨⟨_, rfl⟩, ?_⟩
      walk_at "z"
      refine ⟨ta, rfl, ⟨_, Z.seqT W3.fh hta⟩, fun D hD => ?_⟩
      have hdl := Z.dpa_len htx
      have rl := row.1
      have chi := ok.hi
      refine lc_it walk_tup (fun j H' => Z.Ws [(D, .lst (((ds.take j).map txtD).map .str)), (E, .lst (((rows.take i).map rowT).map .str)), (q2, .lst [.str (headT nm l m)])] F0 H F0 H') (W3.new hD) (fun j H' hj W => Z.seqT W.fh hta) ?_ ?_
      · rintro j y H5 H6 hj W5 ⟨rfl, hy⟩
        obtain ⟨d, hdj, hdv⟩ := Z.dpa_ix htx hy
        obtain ⟨kk, vd⟩ := row_val row d (List.mem_of_getElem? hdj)
        cases dp_val vd hdv
        refine ⟨rfl, ?_⟩
        walk_at "z"
        have fin : ∀ {t : Str}, t = txtD d → ∃ acc, H6 D = some (.lst acc) ∧ acc.length < sizeLine ∧ Z.Ws [(D, .lst (((ds.take (j + 1)).map txtD).map .str)), (E, .lst (((rows.take i).map rowT).map .str)), (q2, .lst [.str (headT nm l m)])] F0 H F0 (upd H6 D (.lst (acc ++ [.str t]))) := fun {t} e => by
          subst e
          refine ⟨_, W5.at 0 rfl, by rw [List.length_map, List.length_map, List.length_take]; exact Nat.lt_of_le_of_lt (show _ ≤ 1000 by omega) (by decide), ?_⟩
          rw [List.take_add_one, hdj, List.map_append, List.map_append]
          exact W5.set 0 rfl _
        rcases val_text vd with ⟨i', e1, e2, e3⟩ | e1
        · exact ⟨_, _, rfl, .inl ⟨i', e1, log_small e2, rfl⟩, fin e3.symm⟩
        · exact ⟨_, _, rfl, .inr e1, fin rfl⟩
      · rintro H5 W5
        rw [hdl, List.take_length] at W5
        refine ⟨_, D, ds.map txtD, rfl, rfl, .inl (SqL.of (W5.at 0 rfl)), join_bd (fun z hz => by have := (row_vals row z hz).len; omega) (by rw [List.length_map]; omega) (by decide +kernel), ?_⟩
        have W6 := W5.pick [1, 2] (L' := [_, _]) (by decide) rfl
        refine ⟨_, W6.at 0 rfl, by rw [List.length_map, List.length_map, List.length_take]; exact Nat.lt_of_le_of_lt (show _ ≤ 1000 by omega) (by decide), ?_⟩
        rw [List.take_add_one, hds, List.map_append, List.map_append]
        exact W6.set 0 rfl _
    · rintro H3 W3
      rw [hrl, List.take_length] at W3
      refine ⟨q2, E, _, _, rfl, rfl, W3.at 1 rfl, W3.at 0 rfl, by rw [List.length_map, List.length_map, List.length_singleton]; exact Nat.le_trans (show _ ≤ 1000 by omega) (by decide), ?_⟩
      have W4 := W3.set 1 rfl (.lst ([V.str (headT nm l m)] ++ (rows.map rowT).map V.str))
      generalize upd H3 q2 (.lst ([V.str (headT nm l m)] ++ (rows.map rowT).map V.str)) = H4 at W4 ⊢
      walk_at "z"
      refine ⟨⟨_, rfl⟩, ?_⟩
      walk_at "z"
      refine ⟨_, q2, headT nm l m :: rows.map rowT, rfl, rfl, .inl (SqL.of (W4.at 1 rfl)), join_bd (fun z hz => by have := (pc z hz).2.2.2; omega) (by rw [List.length_cons, List.length_map]; omega) (by decide +kernel), ?_⟩
      walk_at "z"
      have bl := (body_facts ok pk).2.2
      have l1 : (";" : Str).length = 1 := by decide +kernel
      refine Z.addS (by show (bodyT nm l m rows).length + _ ≤ _; omega) ?_
      exact k _ W4.same

def heldD : Option Pg → PyData
  | none => .none
  | some g => .tuple [.str g.t.1, .int g.l, .int g.m, .list (g.rows.map .tuple)]
def bestD : Best → PyData
  | none => .none
  | some a => .int (a.1 : Nat)
def foundD (b : Best) : PyData := .tuple [bestD b, .int (bestL b), .int (bestM b), .list ((bestR b).map .tuple)]
def sp_law_newest (K : PySem.W.Frag) (A : Adr) : Sp := fun vs H Q _ => ∃ (F : Hp) (tv : V) (ha : Addr) (i : Nat) (ts : List Tab) (t : Tab) (hv : List V) (hl : List (Option Pg)), vs = [tv, .ref ha, .int i] ∧ Same F H ∧ Dp K F tv (.list (ts.map tabD)) ∧ ts[i]? = some t ∧ i < 4 ∧ hl.length = 8 ∧ H ha = some (.lst hv) ∧ DpAll K F hv (hl.map heldD) ∧
  ∀ F' H' r, Z.Gr F H F' H' → Dp K F' r (foundD (newestP t hl i)) → Q r H'
theorem ok_law_newest (T : Txt K mg A) : ∃ fd, FnOk P w K mg base CX0 1 A.f_law_newest fd ["_law_tables", "_law_held", "_law_place"] (sp_law_newest K A) ∧ Binds K fd ["_law_tables", "_law_held", "_law_place"] [] := by
  have ⟨fd, F, b⟩ := T.d_law_newest
  refine ⟨fd, F.ok sc_law_newest (fun vs H Q E h => ?_) (fun cdv Ar outer s H vs Q E hr h => ?_), b⟩
  · obtain ⟨F0, tv, ha, i, ts, t, hv, hl, rfl, _⟩ := h
    rfl
  · obtain ⟨F0, tv, ha, i, ts, t, hv, hl, rfl, sm, ht, hti, hi4, h8, hha, hhv, k⟩ := h
    have nd := sc_law_newest.nd
    have hu := hu_of hr
    refine ⟨_, (pss_cons (ps_set (i := 3) nd rfl (Or.inl rfl) (pe_tup (pa_cons pe_non (pa_cons pe_int (pa_cons pe_int (pa_cons (pe_lst pa_nil) pa_nil))))))
      (pss_cons (ps_for PassesOwn.never rfl (pi_list (pe_lst (pa_cons (pe_op op_mul pe_int (pv 2)) (pa_cons (pe_op op_add (pe_op op_mul pe_int (pv 2)) pe_int) pa_nil)))) (pg_name (i := 4) nd rfl (Or.inl rfl)) (pss_cons (ps_set (i := 5) nd rfl (Or.inl rfl) (pe_ix ix_list (pv 1) (pv 4) (fun _ _ => rfl)))
      (pss_one (ps_if (PW.pt (pw_and (pt_cmpR op_notN (pv 5) pe_non (nomark _)) (pw_and (pt_cmpR op_eq (pe_ix ix_tup (pv 5) pe_int (fun _ _ => rfl)) (pe_ix ix_tup (pe_ix ix_list (pv 0) (pv 2) (fun _ _ => rfl)) pe_int (fun _ _ => rfl)) (nomark _)) (pw_and1 (PW.pt (pw_or (pt_cmpR op_isN (pe_ix ix_tup (pv 3) pe_int (fun _ _ => rfl)) pe_non (nomark _)) (pw_or1 (pt_cmpR op_gt (pe_ix ix_tup (pv 5) pe_int (fun _ _ => rfl)) (pe_ix ix_tup (pv 3) pe_int (fun _ _ => rfl)) (nomark _))))))))) (pss_one (ps_set (i := 3) nd rfl (Or.inl rfl) (pe_op op_catA (pe_tup (pa_cons (pv 4) pa_nil)) (pe_slice sl_tupA (pv 5) (po_some pe_int) po_none)))) pss_nil))))
      (pss_one (ps_ret (pv 3))))), ?_⟩
    simp only [cxOf, Cx.nox, L2.start, List.map_cons, List.map_nil, List.length_cons, List.length_nil, Nat.reduceAdd, Nat.reduceSub, List.replicate, List.cons_append, List.nil_append]
    have hvl := Z.dpa_len hhv
    rw [List.length_map] at hvl
    walk_at "z"
    refine Z.lstD (K := K) (Z.Ws.init sm) .nil fun r1 F1 H1 W1 s1 h1 => ?_
    walk_at "z"
    refine Z.tupD (K := K) W1 (.cons .non (.cons (.int 0) (.cons (.int 0) (.cons h1 .nil)))) fun v2 F2 H2 W2 s2 h2 => ?_
    walk_at "z"
    refine Z.lstW W2 fun q H3 W3 => ?_
    have s02 := s1.trans s2
    refine ⟨q, rfl, ⟨_, SqL.of (W3.at 0 rfl)⟩, for_it walk_list (fun j σ H' => (∃ v4 v5 fv, σ = [some tv, some (.ref ha), some (.int i), some fv, v4, v5] ∧ ∃ F', Z.Ws [(q, .lst [.int (2 * (i : Int)), .int (2 * (i : Int) + 1)])] F0 H F' H' ∧ Same F2 F' ∧ Dp K F' fv (foundD (accAt t hl i j)))) ⟨_, _, v2, rfl, F2, W3, Same.refl _, h2⟩ (fun j σ H' hj ⟨_, _, _, _, _, W, _⟩ => SqL.of (W.at 0 rfl)) ?_ ?_⟩
    · rintro j y σ H4 H5 hj ⟨v4, v5, fv, rfl, F4, W4, s4, hf⟩ ⟨rfl, hy⟩
      have hjl : j < 2 := hj
      obtain ⟨s, hs4, hsl, es⟩ : ∃ s : Nat, y = .int (s : Int) ∧ s < 8 ∧ s = 2 * i + j := by
        match j, hjl, hy with
        | 0, _, hy => exact ⟨2 * i, by cases hy; rfl, by omega, rfl⟩
        | 1, _, hy => exact ⟨2 * i + 1, by cases hy; rfl, by omega, rfl⟩
      subst hs4
      have eh : hl[s]? = some (hl[s]'(by rw [h8]; exact hsl)) := List.getElem?_eq_getElem _
      generalize hl[s]'(by rw [h8]; exact hsl) = h at eh
      have ea : accAt t hl i (j + 1) = better t (accAt t hl i j) s h := by
        show better t (accAt t hl i j) (2 * i + j) (hl.getD (2 * i + j) none) = _
        rw [List.getD_eq_getElem?_getD, ← es, eh]
        rfl
      rw [ea]
      have hvs : hv[s]? = some (hv[s]'(by omega)) := List.getElem?_eq_getElem _
      generalize hv[s]'(by omega) = pv at hvs
      obtain ⟨d, ed, hd⟩ := Z.dpa_ix hhv hvs
      rw [List.getElem?_map, eh] at ed
      cases ed
      walk_at "z"
      refine ⟨ha, hv, s, pv, rfl, rfl, W4.same.seq (SqL.of hha), atI_nat hvs, ?_⟩
      cases h with
      | none =>
        cases Z.dp_none hd
        walk_at "z"
        exact ⟨_, _, fv, rfl, F4, W4, s4, hf⟩
      | some g =>
        have hd4 := Z.dp_same W4.f0 hd
        have ht4 := Z.dp_same W4.f0 ht
        obtain ⟨pa, px, epv, hpa, hpx⟩ := Z.dp_tup hd
        rw [epv]
        walk_at "z"
        rw [← epv]
        refine Z.ixT hd4 W4.fh 0 rfl fun w hw => ?_
        cases Z.dp_str hw
        walk_at "z"
        refine Z.ixD ht4 W4.fh i (d := tabD t) (by rw [List.getElem?_map, hti]; rfl) fun w hw => ?_
        walk_at "z"
        refine Z.ixT hw W4.fh 0 rfl fun w2 hw2 => ?_
        cases Z.dp_str hw2
        walk_at "z"
        have take : wins (accAt t hl i j) g = true → g.t.1 = t.1 → better t (accAt t hl i j) s (some g) = some (s, g) := fun h1 h2 => if_pos ⟨h2, h1⟩
        have keep : ¬ (g.t.1 = t.1 ∧ wins (accAt t hl i j) g = true) → better t (accAt t hl i j) s (some g) = accAt t hl i j := fun h => if_neg h
        refine Z.iteD (fun hn => ?_) (fun hn => ?_)
        · have hname : g.t.1 = t.1 := V.str.inj hn
          walk_at "z"
          refine Z.ixT hf W4.fh 0 rfl fun w hw => ?_
          walk_at "z"
          cases hacc : accAt t hl i j with
          | none =>
            rw [hacc] at hw take
            cases Z.dp_none hw
            rw [take rfl hname]
            walk_at "z"
            refine Z.tupD (K := K) W4 (.cons (.int (s : Int)) .nil) fun a1 F5 H6 W5 s5 h5 => ?_
            walk_at "z"
            refine Z.slT W5 (Z.dp_same s5 hd4) fun a2 F6 H7 W6 s6 h6 => ?_
            refine Z.catD W6 (Z.dp_same s6 h5) h6 (show (4 : Nat) ≤ 100000 by decide) fun a3 F7 H8 W7 s7 h7 => ?_
            walk_at "z"
            exact ⟨_, _, a3, rfl, F7, W7, s4.trans (s5.trans (s6.trans s7)), h7⟩
          | some ac =>
            rw [hacc] at hw hf take keep
            cases Z.dp_int hw
            walk_at "z"
            refine Z.ixT hd4 W4.fh 1 rfl fun w hw => ?_
            cases Z.dp_int hw
            walk_at "z"
            refine Z.ixT hf W4.fh 1 rfl fun w hw => ?_
            cases Z.dp_int hw
            walk_at "z"
            refine Z.iteD (fun hw => ?_) (fun hw => ?_)
            · rw [take (decide_eq_true hw) hname]
              walk_at "z"
              refine Z.tupD (K := K) W4 (.cons (.int (s : Int)) .nil) fun a1 F5 H6 W5 s5 h5 => ?_
              walk_at "z"
              refine Z.slT W5 (Z.dp_same s5 hd4) fun a2 F6 H7 W6 s6 h6 => ?_
              refine Z.catD W6 (Z.dp_same s6 h5) h6 (show (4 : Nat) ≤ 100000 by decide) fun a3 F7 H8 W7 s7 h7 => ?_
              walk_at "z"
              exact ⟨_, _, a3, rfl, F7, W7, s4.trans (s5.trans (s6.trans s7)), h7⟩
            · rw [keep fun h => hw (of_decide_eq_true h.2)]
              walk_at "z"
              exact ⟨_, _, fv, rfl, F4, W4, s4, hf⟩
        · have hname : ¬ g.t.1 = t.1 := fun e => hn (congrArg V.str e)
          rw [keep fun h => hname h.1]
          walk_at "z"
          exact ⟨_, _, fv, rfl, F4, W4, s4, hf⟩
    · rintro σ H4 ⟨v4, v5, fv, rfl, F4, W4, s4, hf⟩
      walk_at "z"
      exact k F4 H4 fv W4.g hf

theorem eqv_self {d : PyData} (h : SeqAt.shaped d = true) : PyData.eqv d d = true := SeqAt.eqv_refl d (SeqAt.canLay_of_shaped h)
theorem best_in {t : Tab} {hl : List (Option Pg)} {i : Nat} : ∀ {j : Nat} {a : Nat × Pg}, accAt t hl i j = some a → hl[a.1]? = some (some a.2) ∧ a.2.t.1 = t.1
  | 0, a, h => nomatch h
  | j + 1, a, h => by
    have h : better t (accAt t hl i j) (2 * i + j) (hl.getD (2 * i + j) none) = some a := h
    cases e : hl.getD (2 * i + j) none with
    | none => rw [e] at h; exact best_in h
    | some g =>
      rw [e] at h
      by_cases c : g.t.1 = t.1 ∧ wins (accAt t hl i j) g = true
      · have : better t (accAt t hl i j) (2 * i + j) (some g) = some (2 * i + j, g) := if_pos c
        rw [this] at h
        cases h
        refine ⟨?_, c.1⟩
        rw [List.getD_eq_getElem?_getD] at e
        cases e2 : hl[2 * i + j]? with
        | none => rw [e2] at e; cases e
        | some x => rw [e2] at e; exact congrArg some e
      · have : better t (accAt t hl i j) (2 * i + j) (some g) = accAt t hl i j := if_neg c
        rw [this] at h
        exact best_in h
theorem HeldOk.pg {ts : List Tab} {pages : List Str} {hl : List (Option Pg)} (ho : HeldOk ts pages hl) {s : Nat} {g : Pg} (h : hl[s]? = some (some g)) : PgOk ts g := by
  have hs := (List.getElem?_eq_some_iff.mp h).1
  have h8 := ho.nh
  have p8 := ho.n
  exact (ho.at_ s (pages[s]'(by omega)) (some g) (List.getElem?_eq_getElem _) h).1
theorem HeldOk.flat {ts : List Tab} {pages : List Str} {hl : List (Option Pg)} (ho : HeldOk ts pages hl) {t : Tab} {i j : Nat} : ∀ ds ∈ bestR (accAt t hl i j), ∀ d ∈ ds, flatOk d := fun ds hds d hd => by
  cases e : accAt t hl i j with
  | none => rw [e] at hds; exact nomatch hds
  | some a =>
    rw [e] at hds
    have gk := ho.pg (best_in e).1
    obtain ⟨kk, hk⟩ := row_val (gk.ok.rw ds hds) d hd
    exact val_flat hk
theorem shaped_found {b : Best} (h : ∀ ds ∈ bestR b, ∀ d ∈ ds, flatOk d) : SeqAt.shaped (foundD b) = true := by
  have h1 := depth_rows h
  have h2 := lay_rows h
  have h0 : (bestD b).canLay0 = true ∧ (bestD b).depth = 0 := by cases b <;> exact ⟨rfl, rfl⟩
  unfold SeqAt.shaped
  rw [Bool.and_eq_true]
  refine ⟨?_, decide_eq_true ?_⟩
  · simp only [foundD, PyData.canLay0, PyData.canLayAll0, h0.1, h2, Bool.and_true]
  · simp only [foundD, PyData.depth, PyData.depthAll, h0.2]
    omega
theorem dp_best {K : PySem.W.Frag} {H : Hp} (b : Best) : Dp K H (bestV b) (bestD b) := by
  cases b with
  | none => exact .non
  | some a => exact .int _
def sp_law_right (K : PySem.W.Frag) (A : Adr) : Sp := fun vs H Q _ => ∃ (F : Hp) (d : Dk) (v tv : V) (ha : Addr) (ts : List Tab) (os : List (Str × Str)) (hv : List V) (hl : List (Option Pg)), vs = [.ref d.p, v, tv, .ref ha] ∧ Same F H ∧ Z.Sees (dc A.Disk d) H ∧ IsSch K A F v ts os ∧ TabsOk ts ∧ Dp K F tv (.list (ts.map tabD)) ∧ HeldOk ts d.pages hl ∧ H ha = some (.lst hv) ∧ DpAll K F hv (hl.map heldD) ∧
  ∀ H', Same H H' → Q (.bl true) H'
theorem ok_law_right (T : Txt K mg A) : ∃ fd, FnOk P w K mg base CX0 7 A.f_law_right fd ["_law_disk", "_law_schema_here", "_law_tables", "_law_held"] (sp_law_right K A) ∧ Binds K fd ["_law_disk", "_law_schema_here", "_law_tables", "_law_held"] [] := by
  have ⟨fd, F, b⟩ := T.d_law_right
  refine ⟨fd, F.ok sc_law_right (fun vs H Q E h => ?_) (fun cdv Ar outer s H vs Q E hr h => ?_), b⟩
  · obtain ⟨F0, d, v, tv, ha, ts, os, hv, hl, rfl, _⟩ := h
    rfl
  · obtain ⟨F0, d, v, tv, ha, ts, os, hv, hl, rfl, sm, see, hs, tk, ht, ho, hha, hhv, k⟩ := h
    have nd := sc_law_right.nd
    have hu := hu_of hr
    have ⟨fd_Disk_writes, G_Disk_writes, b_Disk_writes⟩ := ok_Disk_writes (P := P) (w := w) (base := base) T
    have ⟨fd_slots_of, G_slots_of, b_slots_of⟩ := ok_slots_of (P := P) (w := w) (base := base) T
    have ⟨fd_newest, G_newest, b_newest⟩ := ok_newest (P := P) (w := w) (base := base) T
    have ⟨fd_law_newest, G_law_newest, b_law_newest⟩ := ok_law_newest (P := P) (w := w) (base := base) T
    refine ⟨_, (pss_cons (ps_set (i := 4) nd rfl (Or.inl rfl) (pe_meth0 (pv 0) T.c_Disk T.m_Disk_writes G_Disk_writes (hr.mono (by decide)) b_Disk_writes .nil pass0))
      (pss_cons (ps_for PassesOwn.never rfl (pi_enum (by rfl) T.b_enumerate (pa_cons (pv 2) pa_nil)) (pg_tup rfl (pgs_cons (pg_name (i := 5) nd rfl (Or.inl rfl)) (pgs_cons (pg_tup rfl (pgs_cons (pg_name (i := 6) nd rfl (Or.inl rfl)) (pgs_cons (pg_name (i := 7) nd rfl (Or.inl rfl)) pgs_nil))) pgs_nil))) (pss_cons (ps_if (pt_cmpR (op_neD hr.units) (pe_call G_slots_of (hr.mono (by decide)) (by rfl) T.g_slots_of T.d_slots_of.kp b_slots_of .nil (passes_call (E := fun _ _ _ => False) takes0 (fun _ _ _ _ h => h)) (pa_cons (pv 1) (pa_cons (pv 6) pa_nil))) (pe_tup (pa_cons (pe_op op_mul pe_int (pv 5)) (pa_cons (pe_op op_add (pe_op op_mul pe_int (pv 5)) pe_int) pa_nil))) (nomark _)) (pss_one (ps_ret pe_bl)) pss_nil)
      (pss_cons (ps_set (i := 8) nd rfl (Or.inl rfl) (pe_call G_newest (hr.mono (by decide)) (by rfl) T.g_newest T.d_newest.kp b_newest .nil (passes_call (E := fun _ _ _ => False) takes0 (fun _ _ _ _ h => h)) (pa_cons (pv 0) (pa_cons (pv 1) (pa_cons (pv 6) pa_nil)))))
      (pss_cons (ps_set (i := 9) nd rfl (Or.inl rfl) (pe_call G_law_newest (hr.mono (by decide)) (by rfl) T.g_law_newest T.d_law_newest.kp b_law_newest .nil pass0 (pa_cons (pv 2) (pa_cons (pv 3) (pa_cons (pv 5) pa_nil)))))
      (pss_cons (ps_if (PW.pt (pw_or (pt_not (pt_val (pe_callB call_isi (by rfl) T.b_isinstance (by decide +kernel) (pa_cons (pv 8) (pa_cons (pe_bltn (v := .ty "tuple") (u := .type "tuple") (by rfl) T.b_tuple (by decide +kernel) rfl) pa_nil))))) (pw_or (pt_cmpR (op_neD hr.units) (pv 8) (pv 9) (nomark _)) (pw_or1 (pt_not (pt_val (pe_callB call_isi (by rfl) T.b_isinstance (by decide +kernel) (pa_cons (pe_ix ix_tup (pv 8) pe_int (fun _ _ => rfl)) (pa_cons (pe_bltn (v := .ty "list") (u := .type "list") (by rfl) T.b_list (by decide +kernel) rfl) pa_nil))))))))) (pss_one (ps_ret pe_bl)) pss_nil)
      (pss_cons (ps_expr (pe_bm PySem.F.plainAttrs_list PySem.F.slot_list_append PySem.F.type_list_append mt_append (pe_ix ix_tup (pv 8) pe_int (fun _ _ => rfl)) (pa_cons pe_non pa_nil)))
      (pss_one (ps_if (pt_cmpR (op_neD hr.units) (pe_call G_newest (hr.mono (by decide)) (by rfl) T.g_newest T.d_newest.kp b_newest .nil (passes_call (E := fun _ _ _ => False) takes0 (fun _ _ _ _ h => h)) (pa_cons (pv 0) (pa_cons (pv 1) (pa_cons (pv 6) pa_nil)))) (pv 9) (nomark _)) (pss_one (ps_ret pe_bl)) pss_nil))))))))
      (pss_one (ps_ret (pe_cmpR op_eq (pe_meth0 (pv 0) T.c_Disk T.m_Disk_writes G_Disk_writes (hr.mono (by decide)) b_Disk_writes .nil pass0) (pv 4) (nomark _)))))), ?_⟩
    simp only [cxOf, Cx.nox, L2.start, List.map_cons, List.map_nil, List.length_cons, List.length_nil, Nat.reduceAdd, Nat.reduceSub, List.replicate, List.cons_append, List.nil_append]
    have hdp : H d.p = _ := see.at 0 rfl
    obtain ⟨ta, tx, rfl, hta, htx⟩ := Z.dp_lst ht
    have htl := Z.dpa_len htx
    rw [List.length_map] at htl
    walk_at "z"
    refine ⟨d, rfl, see, ?_⟩
    walk_at "z"
    refine Z.forE ?_
    walk_at "z"
    refine ⟨ta, _, rfl, sm.seq hta, for_it walk_enum (fun i σ H' => (∃ v5 v6 v7 v8 v9, σ = [some (.ref d.p), some v, some (.ref ta), some (.ref ha), some (.int d.n), v5, v6, v7, v8, v9]) ∧ Same H H') ⟨⟨_, _, _, _, _, rfl⟩, Same.refl _⟩ (fun i σ H' hi ⟨_, s⟩ => (sm.trans s).seq hta) ?_ ?_⟩
    · rintro i x σ H1 H2 hi ⟨⟨v5, v6, v7, v8, v9, rfl⟩, s1⟩ ⟨T1, x1, x2, rfl, hT, rfl, e1, e2⟩
      cases e1
      have e2 : tx[i]? = some x2 := e2
      obtain ⟨td, g1, g2⟩ := Z.dpa_ix htx e2
      rw [List.getElem?_map] at g1
      obtain ⟨t, hti, rfl⟩ := Option.map_eq_some_iff.mp g1
      have htm := List.mem_of_getElem? hti
      have hi4 : i < 4 := by have := (List.getElem?_eq_some_iff.mp hti).1; have := tk.hi; omega
      have s2 : Same H (upd H1 T1 (.tup [.int (i : Nat), x2])) := s1.trans (Z.same_new hT)
      have gT : upd H1 T1 (.tup [.int (i : Nat), x2]) T1 = _ := upd_same
      generalize upd H1 T1 (.tup [.int (i : Nat), x2]) = H2 at s2 gT ⊢
      refine ⟨T1, _, rfl, SqT.of gT, rfl, ?_⟩
      walk_at "z"
      refine Z.gtupD g2 (sm.trans s2) fun zs hzs => ?_
      obtain ⟨z1, z2, rfl, hz1, hz2⟩ := Z.dpa2 hzs
      cases Z.dp_str hz1
      walk_at "z"
      have tn := (tk.nm t htm).1
      have hu : Z.DX K F0 (.str t.1) (.str t.1) := .str t.1
      have hsm : SmallS (.str t.1) := by have := tn.2.1; show Str.length _ ≤ _; omega
      have noT : ∀ {X : Prop}, NoTab ts (.str t.1) → X := fun h => absurd rfl (h t htm)
      have sameI : ∀ {i' : Nat} {t' : Tab}, ts[i']? = some t' → PyData.str t.1 = .str t'.1 → i' = i ∧ t' = t := fun {i' t'} hit' e' => by
        have a1 : (ts.map (·.1))[i]? = some t.1 := by rw [List.getElem?_map, hti]; rfl
        have a2 : (ts.map (·.1))[i']? = some t.1 := by rw [List.getElem?_map, hit']; exact congrArg some (PyData.str.inj e').symm
        have := nd_ix tk.nd a2 a1
        subst this
        rw [hti] at hit'
        exact ⟨rfl, (Option.some.inj hit').symm⟩
      refine ⟨F0, v, .str t.1, .str t.1, ts, os, rfl, sm.trans s2, hs, hu, hsm, fun i' t' hit' e' H3 p3 s3 hp3 => ?_, noT⟩
      obtain ⟨rfl, rfl⟩ := sameI hit' e'
      walk_at "z"
      refine ⟨by simp only [List.length_cons, List.length_nil]; decide, fun p4 hp4 => ?_⟩
      have s4 := s3.trans (Z.same_new (o := .tup [.int (2 * (i' : Int)), .int (2 * (i' : Int) + 1)]) hp4)
      have g3 : upd H3 p4 (.tup [.int (2 * (i' : Int)), .int (2 * (i' : Int) + 1)]) p3 = _ := Z.same_new hp4 _ _ hp3
      have g4 : upd H3 p4 (.tup [.int (2 * (i' : Int)), .int (2 * (i' : Int) + 1)]) p4 = _ := upd_same
      generalize upd H3 p4 (.tup [.int (2 * (i' : Int)), .int (2 * (i' : Int) + 1)]) = H4 at s4 g3 g4 ⊢
      have two : ∀ {p : Addr}, H4 p = some (.tup [.int (2 * (i' : Int)), .int (2 * (i' : Int) + 1)]) → Dp K H4 (.ref p) (.tuple [.int (2 * (i' : Int)), .int (2 * (i' : Int) + 1)]) := fun h => .tup (SqT.of h) (.cons (.int _) (.cons (.int _) .nil))
      refine ⟨_, _, two g3, two g4, rfl, rfl, ?_⟩
      rw [eqv_self (d := .tuple [.int (2 * (i' : Int)), .int (2 * (i' : Int) + 1)]) rfl]
      walk_at "z"
      refine ⟨F0, d, v, .str t'.1, .str t'.1, ts, os, rfl, sm.trans (s2.trans s4), see.same (s2.trans s4), hs, hu, hsm, fun i2 t2 hit2 e2 => ?_, noT⟩
      rw [(sameI hit2 e2).1, (sameI hit2 e2).2]
      refine ⟨hl, ho, fun F5 H5 p q vs' W5 hp5 hvs => ?_⟩
      have s5 := (s2.trans s4).trans W5.same
      walk_at "z"
      refine ⟨F5, _, ha, i', ts, t', hv, hl, rfl, W5.fh, Z.dp_same W5.f0 ht, hti, hi4, ho.nh, s5 _ _ hha, Z.dpa_same W5.f0 hhv, fun F6 H6 r g6 hr => ?_⟩
      have W6 := W5.ext g6
      have flt : ∀ ds ∈ bestR (newestP t' hl i'), ∀ d ∈ ds, flatOk d := ho.flat
      have shp := shaped_found flt
      have fnd : ∀ {H' : Hp} {p q : Addr} {vs : List V}, H' p = some (.tup [bestV (newestP t' hl i'), .int (bestL (newestP t' hl i')), .int (bestM (newestP t' hl i')), .ref q]) → H' q = some (.lst vs) → DpAll K H' vs ((bestR (newestP t' hl i')).map .tuple) → Dp K H' (.ref p) (foundD (newestP t' hl i')) := fun h1 h2 h3 => .tup (SqT.of h1) (.cons (dp_best _) (.cons (.int _) (.cons (.int _) (.cons (.lst (SqL.of h2) h3) .nil))))
      have hp6 := W6.fh _ _ (g6.f _ _ hp5)
      walk_at "z"
      refine isiT (SqT.of hp6) ?_
      walk_at "z"
      refine ⟨_, _, fnd hp6 (W6.at 0 rfl) (Z.dpa_same (g6.f.trans W6.fh) hvs), Z.dp_same W6.fh hr, shp, shp, ?_⟩
      rw [eqv_self shp]
      walk_at "z"
      refine ixTup (i := 3) hp6 rfl ?_
      walk_at "z"
      refine isiL (SqL.of (W6.at 0 rfl)) ?_
      walk_at "z"
      refine ixTup (i := 3) hp6 rfl ?_
      refine ⟨.inl ⟨rfl, _, SqL.of (W6.at 0 rfl)⟩, ?_⟩
      walk_at "z"
      have hvl := Z.dpa_len hvs
      have hrl : (bestR (newestP t' hl i')).length ≤ 60 := by
        cases e : newestP t' hl i' with
        | none => exact Nat.zero_le _
        | some a =>
          have := (ho.pg (best_in e).1).ok.many
          show a.2.rows.length ≤ 60
          omega
      rw [List.length_map] at hvl
      refine Z.appW W6 0 rfl (fun H7 W7 => ?_) (by omega)
      have s7 := (s2.trans s4).trans W7.same
      walk_at "z"
      refine ⟨F6, d, v, .str t'.1, .str t'.1, ts, os, rfl, W7.fh, see.same s7, hs.same W7.f0, .str t'.1, hsm, fun i2 t2 hit2 e2 => ?_, noT⟩
      rw [(sameI hit2 e2).1, (sameI hit2 e2).2]
      refine ⟨hl, ho, fun F8 H8 p8 q8 vs8 W8 hp8 hvs8 => ?_⟩
      walk_at "z"
      refine ⟨_, _, fnd (W8.fh _ _ hp8) (W8.at 0 rfl) (Z.dpa_same W8.fh hvs8), Z.dp_same (W8.f0.trans W8.fh) hr, shp, shp, ?_⟩
      rw [eqv_self shp]
      walk_at "z"
      exact ⟨⟨_, _, _, _, _, rfl⟩, s7.trans W8.same⟩
    · rintro σ H1 ⟨⟨v5, v6, v7, v8, v9, rfl⟩, s1⟩
      have hd1 : H1 d.p = _ := s1 _ _ hdp
      walk_at "z"
      refine ⟨d, rfl, see.same s1, ?_⟩
      walk_at "z"
      rw [decide_eq_true rfl]
      exact k _ s1

/-- no heap -/
abbrev N0 : Hp := fun _ => none
theorem ws0 {L : List (Addr × HO)} {F H : Hp} (S : Z.Hs L F H) : Z.Ws L N0 N0 F H := ⟨⟨fun _ _ e => (nomatch e), fun _ _ e => (nomatch e), S.fr, fun _ _ _ => .inr rfl⟩, S.nd, fun p o m => ⟨(S.own p o m).1, (S.own p o m).2, rfl⟩⟩
theorem hs_tail {c : Addr × HO} {L : List (Addr × HO)} {F H : Hp} (S : Z.Hs (c :: L) F H) : ∃ F', Z.Hs L F' H ∧ Same F F' ∧ F' c.1 = some c.2 ∧ ∀ L' H', Z.Hs L' F' H' → Z.Hs (c :: L') F H' := by
  have S1 : Z.Hs (L ++ [c]) F H := S.perm (List.perm_append_comm (l₁ := [c]))
  obtain ⟨F', a, ⟨b, c1⟩, k⟩ := S1.split
  exact ⟨F', a, b, c1 c.1 c.2 (List.mem_singleton.mpr rfl), fun L' H' h => (k L' H' h).perm (List.perm_append_comm (l₂ := [c]))⟩
theorem page_len {cs : List Col} {nm : Str} {l m : Int} {rows : List (List PyData)} (ok : ColsOk cs) (pk : PageOk cs nm l m rows) : (pageT nm l m rows).length ≤ 1000 := by
  have := (body_facts ok pk).2.2
  have e1 : (pageT nm l m rows).length = (bodyT nm l m rows).length + 1 := Array.size_append
  omega
theorem page_pos {nm : Str} {l m : Int} {rows : List (List PyData)} : 1 ≤ (pageT nm l m rows).length := by
  have e1 : (pageT nm l m rows).length = (bodyT nm l m rows).length + 1 := Array.size_append
  omega
theorem cut_pre {z : Str} {m : Nat} (hm : m ≤ z.length) : cutS z none (some (m : Int)) = ⟨((TL.tl z).take m).toArray⟩ := by
  unfold cutS
  rw [HT.sIx_nat, HT.sIx_none, Nat.min_eq_left hm, List.drop_zero, Nat.sub_zero]
theorem cut_le {z : Str} {m : Nat} (hm : m ≤ z.length) : (cutS z none (some (m : Int))).length ≤ z.length := by
  rw [cut_pre hm]
  show ((TL.tl z).take m).toArray.size ≤ _
  rw [List.size_toArray, List.length_take]
  omega
theorem cut_all {z : Str} : cutS z none (some (z.length : Int)) = z := by
  rw [cut_pre (Nat.le_refl _)]
  have : (TL.tl z).length = z.length := Array.length_toList
  rw [List.take_of_length_le (by omega)]
theorem HeldOk.put {ts : List Tab} {pages : List Str} {hl : List (Option Pg)} (ho : HeldOk ts pages hl) {s : Nat} {z : Str} {h : Option Pg} (hz : Holds ts z h) (zl : z.length ≤ 1000) (zo : PyData.strOk z = true) : HeldOk ts (pages.set s z) (hl.set s h) where
  n := by rw [List.length_set]; exact ho.n
  nh := by rw [List.length_set]; exact ho.nh
  at_ := fun i z' h' e1 e2 => by
    by_cases e : s = i
    · subst e
      have l1 := (List.getElem?_eq_some_iff.mp e1).1
      have l2 := (List.getElem?_eq_some_iff.mp e2).1
      rw [List.length_set] at l1 l2
      rw [List.getElem?_set_self l1] at e1
      rw [List.getElem?_set_self l2] at e2
      cases e1
      cases e2
      exact hz
    · rw [List.getElem?_set_ne e] at e1 e2
      exact ho.at_ i z' h' e1 e2
  sm := fun z' hz' => by
    rcases List.mem_or_eq_of_mem_set hz' with h | rfl
    · exact ho.sm z' h
    · exact zl
  so := fun z' hz' => by
    rcases List.mem_or_eq_of_mem_set hz' with h | rfl
    · exact ho.so z' h
    · exact zo
theorem page_ok {cs : List Col} {nm : Str} {l m : Int} {rows : List (List PyData)} (ok : ColsOk cs) (pk : PageOk cs nm l m rows) : PyData.strOk (pageT nm l m rows) = true := Z.ok_app (body_facts ok pk).2.1 (by decide +kernel)
theorem dpa_set {K : PySem.W.Frag} {F : Hp} {v : V} {d : PyData} : ∀ {vs : List V} {ds : List PyData} {i : Nat}, DpAll K F vs ds → Dp K F v d → DpAll K F (vs.set i v) (ds.set i d)
  | _, _, _, .nil, _ => .nil
  | _, _, 0, .cons _ r, h => .cons h r
  | _, _, i + 1, .cons a r, h => .cons a (dpa_set r h)
def sp_law_put (K : PySem.W.Frag) (A : Adr) : Sp := fun vs H Q _ => ∃ (F : Hp) (d : Dk) (tv dv : V) (ha : Addr) (ts : List Tab) (hv : List V) (hl : List (Option Pg)) (xs : List Int), vs = [.ref d.p, tv, .ref ha, dv] ∧ Z.Hs ((ha, .lst hv) :: dc A.Disk d) F H ∧ TabsOk ts ∧ Dp K F tv (.list (ts.map tabD)) ∧ HeldOk ts d.pages hl ∧ DpAll K F hv (hl.map heldD) ∧ Dp K F dv (.list (xs.map .int)) ∧ xs.length = 9 ∧ (∀ x ∈ xs, 0 ≤ x) ∧ d.due = none ∧ d.down = false ∧
  ∀ F' H' d' hv' hl', Same F F' → d'.p = d.p → d'.due = none → d'.down = false → HeldOk ts d'.pages hl' → DpAll K F' hv' (hl'.map heldD) → Z.Hs ((ha, .lst hv') :: dc A.Disk d') F' H' → Q .non H'
theorem ok_law_put (T : Txt K mg A) : ∃ fd, FnOk P w K mg base CX0 6 A.f_law_put fd ["_law_disk", "_law_tables", "_law_held", "_law_draws_here"] (sp_law_put K A) ∧ Binds K fd ["_law_disk", "_law_tables", "_law_held", "_law_draws_here"] [] := by
  have ⟨fd, F, b⟩ := T.d_law_put
  refine ⟨fd, F.ok sc_law_put (fun vs H Q E h => ?_) (fun cdv Ar outer s H vs Q E hr h => ?_), b⟩
  · obtain ⟨F0, d, tv, dv, ha, ts, hv, hl, xs, rfl, _⟩ := h
    rfl
  · obtain ⟨F0, d, tv, dv, ha, ts, hv, hl, xs, rfl, S, tk, ht, ho, hhv, hd, x9, pos, due, down, k⟩ := h
    have nd := sc_law_put.nd
    have hu := hu_of hr
    have ⟨fd_law_table_rows, G_law_table_rows, b_law_table_rows⟩ := ok_law_table_rows (P := P) (w := w) (base := base) T
    have ⟨fd_law_page_text, G_law_page_text, b_law_page_text⟩ := ok_law_page_text (P := P) (w := w) (base := base) T
    have ⟨fd_Disk_put_page, G_Disk_put_page, b_Disk_put_page⟩ := ok_Disk_put_page (P := P) (w := w) (base := base) T
    refine ⟨_, (pss_cons (ps_set (i := 4) nd rfl (Or.inl rfl) (pe_op op_mod (pe_ix ix_list (pv 3) pe_int (fun _ _ => rfl)) pe_int))
      (pss_cons (ps_set (i := 5) nd rfl (Or.inl rfl) (pe_ix ix_list (pe_lst (pa_cons (pe_callB (call_min2 rfl) (by rfl) T.b_min (by decide +kernel) (pa_cons (pe_op op_fdivW (pv 4) pe_int) (pa_cons (pe_op op_sub (pe_callB call_len_seq (by rfl) T.b_len PySem.boot_len (pa_cons (pv 1) pa_nil)) pe_int) pa_nil))) (pa_cons (pe_op op_mod (pe_ix ix_list (pv 3) pe_int (fun _ _ => rfl)) (pe_callB call_len_seq (by rfl) T.b_len PySem.boot_len (pa_cons (pv 1) pa_nil))) pa_nil))) (pe_callTy call_int1 (by rfl) T.b_int (by decide +kernel) (pa_cons (pe_cmpR op_eq (pe_op op_mod (pe_ix ix_list (pv 3) pe_int (fun _ _ => rfl)) pe_int) pe_int (nomark _)) pa_nil)) (fun _ _ => rfl)))
      (pss_cons (ps_asg (pe_ix ix_list (pv 1) (pv 5) (fun _ _ => rfl)) (pg_tup rfl (pgs_cons (pg_name (i := 6) nd rfl (Or.inl rfl)) (pgs_cons (pg_name (i := 7) nd rfl (Or.inl rfl)) pgs_nil))))
      (pss_cons (ps_set (i := 8) nd rfl (Or.inl rfl) (pe_tup (pa_cons (pv 6) (pa_cons (pe_op op_mod (pe_ix ix_list (pv 3) pe_int (fun _ _ => rfl)) pe_int) (pa_cons (pe_op op_mod (pe_ix ix_list (pv 3) pe_int (fun _ _ => rfl)) pe_int) (pa_cons (pe_call G_law_table_rows (hr.mono (by decide)) (by rfl) T.g_law_table_rows T.d_law_table_rows.kp b_law_table_rows .nil pass0 (pa_cons (pv 7) (pa_cons (pe_ix ix_list (pv 3) pe_int (fun _ _ => rfl)) (pa_cons (pe_op op_mod (pe_ix ix_list (pv 3) pe_int (fun _ _ => rfl)) pe_int) pa_nil)))) pa_nil))))))
      (pss_cons (ps_set (i := 9) nd rfl (Or.inl rfl) (pe_call G_law_page_text (hr.mono (by decide)) (by rfl) T.g_law_page_text T.d_law_page_text.kp b_law_page_text .nil pass0 (pa_cons (pe_ix ix_tup (pv 8) pe_int (fun _ _ => rfl)) (pa_cons (pe_ix ix_tup (pv 8) pe_int (fun _ _ => rfl)) (pa_cons (pe_ix ix_tup (pv 8) pe_int (fun _ _ => rfl)) (pa_cons (pe_ix ix_tup (pv 8) pe_int (fun _ _ => rfl)) pa_nil))))))
      (pss_cons (ps_set (i := 10) nd rfl (Or.inl rfl) (pe_ix ix_list (pe_lst (pa_cons (pe_callB call_len_str (by rfl) T.b_len PySem.boot_len (pa_cons (pv 9) pa_nil)) (pa_cons (pe_op op_mod (pe_ix ix_list (pv 3) pe_int (fun _ _ => rfl)) (pe_callB call_len_str (by rfl) T.b_len PySem.boot_len (pa_cons (pv 9) pa_nil))) pa_nil))) (pe_callTy call_int1 (by rfl) T.b_int (by decide +kernel) (pa_cons (pe_cmpR op_eq (pe_op op_mod (pe_ix ix_list (pv 3) pe_int (fun _ _ => rfl)) pe_int) pe_int (nomark _)) pa_nil)) (fun _ _ => rfl)))
      (pss_cons (ps_expr (pe_meth (pv 0) T.c_Disk T.m_Disk_put_page G_Disk_put_page (hr.mono (by decide)) b_Disk_put_page .nil (passes_call (E := fun _ _ _ => False) takes0 (fun _ _ _ _ h => h)) (pa_cons (pv 4) (pa_cons (pe_slice sl_str (pv 9) po_none (po_some (pv 10))) pa_nil))))
      (pss_cons (ps_asg pe_non (pg_sub (pv 2) (pv 4) set_list))
      (pss_one (ps_if (pt_cmpR op_eq (pv 10) (pe_callB call_len_str (by rfl) T.b_len PySem.boot_len (pa_cons (pv 9) pa_nil)) (nomark _)) (pss_one (ps_asg (pv 8) (pg_sub (pv 2) (pv 4) set_list))) pss_nil)))))))))), ?_⟩
    simp only [cxOf, Cx.nox, L2.start, List.map_cons, List.map_nil, List.length_cons, List.length_nil, Nat.reduceAdd, Nat.reduceSub, List.replicate, List.cons_append, List.nil_append]
    have W0 := ws0 S
    have sm : Same F0 H := S.fr
    obtain ⟨x0, x1, x2, x3, x4, x5, x6, x7, x8, rfl⟩ : ∃ x0 x1 x2 x3 x4 x5 x6 x7 x8, xs = [x0, x1, x2, x3, x4, x5, x6, x7, x8] := by
      match xs, x9 with
      | [a, b, c, d, e, f, g, h, i], _ => exact ⟨_, _, _, _, _, _, _, _, _, rfl⟩
    have p0 := pos x0 (by simp)
    have p1 := pos x1 (by simp)
    have p2 := pos x2 (by simp)
    have p3 := pos x3 (by simp)
    have p4 := pos x4 (by simp)
    have p5 := pos x5 (by simp)
    have p6 := pos x6 (by simp)
    obtain ⟨ta, tx, rfl, hta, htx⟩ := Z.dp_lst ht
    have htl := Z.dpa_len htx
    rw [List.length_map] at htl
    have tlo := tk.lo
    have thi := tk.hi
    walk_at "z"
    refine Z.ixD hd sm 0 rfl fun w hw => ?_
    cases Z.dp_int hw
    walk_at "z"
    refine Z.lenSeq (sm.seq hta) ?_
    walk_at "z"
    refine ⟨_, _, rfl, ?_⟩
    walk_at "z"
    refine Z.ixD hd sm 1 rfl fun w hw => ?_
    cases Z.dp_int hw
    walk_at "z"
    refine Z.lenSeq (sm.seq hta) ?_
    walk_at "z"
    have tl0 : (0 : Int) < (tx.length : Int) := by omega
    obtain ⟨na, ena, hna⟩ : ∃ na : Nat, (if (tx.length : Int) - 1 < x0 % 8 / 2 then (tx.length : Int) - 1 else x0 % 8 / 2) = (na : Int) ∧ na < ts.length := ⟨(if (tx.length : Int) - 1 < x0 % 8 / 2 then (tx.length : Int) - 1 else x0 % 8 / 2).toNat, by split <;> omega, by split <;> omega⟩
    obtain ⟨nb, enb, hnb⟩ : ∃ nb : Nat, x1 % (tx.length : Int) = (nb : Int) ∧ nb < ts.length := ⟨(x1 % (tx.length : Int)).toNat, by have := Int.emod_nonneg x1 (show (tx.length : Int) ≠ 0 by omega); omega, by have := Int.emod_nonneg x1 (show (tx.length : Int) ≠ 0 by omega); have := Int.emod_lt_of_pos x1 tl0; omega⟩
    rw [ena, enb]
    refine Z.lstD (K := K) W0 (.cons (.int (na : Int)) (.cons (.int (nb : Int)) .nil)) fun r1 F1 H1 W1 s1 h1 => ?_
    walk_at "z"
    refine Z.ixD (Z.dp_same s1 hd) W1.fh 1 rfl fun w hw => ?_
    cases Z.dp_int hw
    walk_at "z"
    refine .inr ⟨_, rfl, ?_⟩
    have pick : ∀ {R : V → Hp → Prop} (b : Bool), (∀ n : Nat, n < ts.length → R (.int (n : Int)) H1) → rIxL K r1 (.int (if b = true then 1 else 0)) H1 R := fun {R} b h => by
      cases b
      · exact Z.ixD h1 W1.fh 0 rfl fun w hw => by cases Z.dp_int hw; exact h na hna
      · exact Z.ixD h1 W1.fh 1 rfl fun w hw => by cases Z.dp_int hw; exact h nb hnb
    refine pick _ fun n hn => ?_
    walk_at "z"
    have hti : ts[n]? = some (ts[n]'hn) := List.getElem?_eq_getElem _
    generalize ts[n]'hn = t at hti
    have htm := List.mem_of_getElem? hti
    have tn := tk.nm t htm
    have ht1 := Z.dp_same s1 ht
    have hd1 := Z.dp_same s1 hd
    refine Z.ixD ht1 W1.fh n (d := tabD t) (by rw [List.getElem?_map, hti]; rfl) fun w hw => ?_
    refine Z.gtupD hw W1.fh fun zs hzs => ?_
    obtain ⟨z1, z2, rfl, hz1, hz2⟩ := Z.dpa2 hzs
    cases Z.dp_str hz1
    walk_at "z"
    refine Z.ixD hd1 W1.fh 2 rfl fun w hw => ?_
    cases Z.dp_int hw
    walk_at "z"
    refine Z.ixD hd1 W1.fh 3 rfl fun w hw => ?_
    cases Z.dp_int hw
    walk_at "z"
    refine Z.ixD hd1 W1.fh 4 rfl fun w hw => ?_
    cases Z.dp_int hw
    walk_at "z"
    refine Z.ixD hd1 W1.fh 5 rfl fun w hw => ?_
    cases Z.dp_int hw
    walk_at "z"
    obtain ⟨n5, en5, hn5⟩ : ∃ n5 : Nat, x5 % 5 = (n5 : Int) ∧ n5 ≤ 6 := ⟨(x5 % 5).toNat, by omega, by omega⟩
    rw [en5]
    refine ⟨F1, z2, t.2, x4, n5, rfl, W1.fh, hz2, tn.2, hn5, fun F2 H2 q vs' rows M hvs rok ris many => ?_⟩
    have W2 := W1.join M
    obtain ⟨F3, W3, s3, g3⟩ := W2.frz 0 rfl
    have hrows : Dp K F3 (.ref q) (.list (rows.map .tuple)) := .lst (SqL.of g3) (Z.dpa_same s3 hvs)
    have s13 : Same F1 F3 := M.f0.trans s3
    walk_at "z"
    refine Z.tupD (K := K) W3 (.cons (.str t.1) (.cons (.int (x2 % 6)) (.cons (.int (x3 % 9)) (.cons hrows .nil)))) fun pg F4 H4 W4 s4 hpg => ?_
    walk_at "z"
    have pk : PageOk t.2 t.1 (x2 % 6) (x3 % 9) rows := ⟨tn.1, by omega, by omega, by omega, by omega, rok, many⟩
    refine Z.ixT hpg W4.fh 0 rfl fun w hw => ?_
    cases Z.dp_str hw
    walk_at "z"
    refine Z.ixT hpg W4.fh 1 rfl fun w hw => ?_
    cases Z.dp_int hw
    walk_at "z"
    refine Z.ixT hpg W4.fh 2 rfl fun w hw => ?_
    cases Z.dp_int hw
    walk_at "z"
    refine Z.ixT hpg W4.fh 3 rfl fun w hw => ?_
    obtain ⟨qa, qx, rfl, hq, hqx⟩ := Z.dp_lst hw
    walk_at "z"
    refine ⟨F4, qa, qx, t.1, x2 % 6, x3 % 9, t.2, rows, rfl, W4.fh, W4.fh.seq hq, hqx, tn.2, pk, fun H5 s5 => ?_⟩
    have W5 := W4.exts s5
    have s15 : Same F1 F4 := s13.trans s4
    have hd5 := Z.dp_same s15 hd1
    walk_at "z"
    have zl := page_len tn.2 pk
    have zp : 1 ≤ (pageT t.1 (x2 % 6) (x3 % 9) rows).length := page_pos
    generalize hz : pageT t.1 (x2 % 6) (x3 % 9) rows = z at zl zp
    refine ⟨_, rfl, Nat.le_trans zl (by decide), ?_⟩
    walk_at "z"
    refine Z.ixD hd5 W5.fh 6 rfl fun w hw => ?_
    cases Z.dp_int hw
    walk_at "z"
    refine ⟨_, rfl, Nat.le_trans zl (by decide), ?_⟩
    walk_at "z"
    obtain ⟨m6, em6, hm6⟩ : ∃ m : Nat, x6 % (z.length : Int) = (m : Int) ∧ m ≤ z.length := ⟨(x6 % (z.length : Int)).toNat, by have := Int.emod_nonneg x6 (show (z.length : Int) ≠ 0 by omega); omega, by have := Int.emod_nonneg x6 (show (z.length : Int) ≠ 0 by omega); have := Int.emod_lt_of_pos x6 (show (0 : Int) < z.length by omega); omega⟩
    rw [em6]
    refine Z.lstD (K := K) W5 (.cons (.int (z.length : Int)) (.cons (.int (m6 : Int)) .nil)) fun r6 F6 H6 W6 s6 h6 => ?_
    have hd6 := Z.dp_same s6 hd5
    walk_at "z"
    refine Z.ixD hd6 W6.fh 6 rfl fun w hw => ?_
    cases Z.dp_int hw
    walk_at "z"
    refine .inr ⟨_, rfl, ?_⟩
    walk_at "z"
    have pick6 : ∀ {R : V → Hp → Prop} (b : Bool), (∀ m : Nat, m ≤ z.length → R (.int (m : Int)) H6) → rIxL K r6 (.int (if b = true then 1 else 0)) H6 R := fun {R} b h => by
      cases b
      · exact Z.ixD h6 W6.fh 0 rfl fun w hw => by cases Z.dp_int hw; exact h _ (Nat.le_refl _)
      · exact Z.ixD h6 W6.fh 1 rfl fun w hw => by cases Z.dp_int hw; exact h m6 hm6
    refine pick6 _ fun m hm => ?_
    have W6 : Z.Ws ((ha, .lst hv) :: dc A.Disk d) N0 N0 F6 H6 := W6
    have hdp : H6 d.p = _ := W6.at 1 rfl
    walk_at "z"
    refine Z.slS (Nat.le_trans zl (by decide)) ?_
    walk_at "z"
    obtain ⟨s8, es8, hs8⟩ : ∃ s8 : Nat, x0 % 8 = (s8 : Int) ∧ s8 < 8 := ⟨(x0 % 8).toNat, by omega, by omega⟩
    rw [es8]
    obtain ⟨F7, S7, s67, g7, back⟩ := hs_tail W6.hs
    have eff0 : eff 1 s8 (cutS z none (some (m : Int))) 0 none (d.rows, d.pages) = (d.rows, d.pages.set s8 (cutS z none (some (m : Int)))) := rfl
    have come : comeR d.due d.down = some none := by rw [due, down]; rfl
    have comS : comeS d.due d.down = (none, false) := by rw [due, down]; rfl
    refine ⟨F7, d, s8, _, rfl, S7, by rw [ho.n]; exact hs8, Nat.le_trans (cut_le hm) zl, fun h => absurd (come.symm.trans h) (by simp), fun H8 d' _ aft hp S8 => ?_, fun k' H8 d' h => absurd (come.symm.trans h) (by simp)⟩
    rw [eff0] at hp
    have hst := aft.st
    rw [comS] at hst
    have S9 := back _ _ S8
    walk_at "z"
    have hvl := Z.dpa_len hhv
    rw [List.length_map, ho.nh] at hvl
    refine Z.setLE (S9.at 0 rfl) (by omega) ?_
    have S10 := S9.head (.lst (hv.set s8 .non))
    generalize upd H8 ha (.lst (hv.set s8 .non)) = H10 at S10 ⊢
    walk_at "z"
    refine ⟨_, rfl, Nat.le_trans zl (by decide), ?_⟩
    walk_at "z"
    have s06 : Same F0 F6 := s1.trans (s15.trans s6)
    have hhv6 := Z.dpa_same s06 hhv
    have ep : d'.pages = d.pages.set s8 (cutS z none (some (m : Int))) := congrArg Prod.snd hp
    have e1 : d'.due = none := congrArg Prod.fst hst
    have e2 : d'.down = false := congrArg Prod.snd hst
    refine Z.iteD (fun he => ?_) (fun he => ?_)
    · have em : m = z.length := by have := V.int.inj he; omega
      subst em
      rw [cut_all] at ep
      walk_at "z"
      refine Z.setLE (S10.at 0 rfl) (by rw [List.length_set]; omega) ?_
      have S11 := S10.head (.lst ((hv.set s8 .non).set s8 pg))
      generalize upd H10 ha (.lst ((hv.set s8 .non).set s8 pg)) = H11 at S11 ⊢
      rw [List.set_set] at S11
      walk_at "z"
      refine k F6 H11 d' _ (hl.set s8 (some ⟨t, x2 % 6, x3 % 9, rows⟩)) s06 aft.p e1 e2 ?_ ?_ S11
      · rw [ep]
        exact ho.put ⟨⟨htm, pk, ris⟩, hz.symm⟩ zl (hz ▸ page_ok tn.2 pk)
      · rw [List.map_set]
        exact dpa_set hhv6 (Z.dp_same s6 hpg)
    · have em : m ≠ z.length := fun e => he (congrArg V.int (by omega))
      walk_at "z"
      refine k F6 H10 d' _ (hl.set s8 none) s06 aft.p e1 e2 ?_ ?_ S10
      · rw [ep]
        refine ho.put ?_ (Nat.le_trans (cut_le hm) zl) (Z.ok_cut (hz ▸ page_ok tn.2 pk))
        rw [← hz] at hm em ⊢
        exact no_end (torn (body_facts tn.2 pk).1 (by show m < (pageT _ _ _ _).length; omega))
      · rw [List.map_set]
        exact dpa_set hhv6 .non

theorem callSE {sp : Sp} {E : L2.St → XK} {t : TA} {σ : L2.St} {H : Hp} {Q : VK} (h : t σ H fun vs H1 => sp vs H1 Q (E σ)) : tCallS sp E t σ H Q := h
local macro_rules | `(tactic| walk_at "z1") => `(tactic| (with_reducible refine callSE ?_))
theorem cut_over {z : Str} {m : Nat} (h : z.length ≤ m) : cutS z none (some (m : Int)) = z := by
  have : cutS z none (some (m : Int)) = cutS z none (some (z.length : Int)) := by
    unfold cutS
    rw [HT.sIx_nat, HT.sIx_nat, Nat.min_eq_right h, Nat.min_self]
  rw [this, cut_all]
def sp_law_late (K : PySem.W.Frag) (A : Adr) : Sp := fun vs H Q _ => ∃ (F : Hp) (d : Dk) (v tv dv : V) (ha : Addr) (ts : List Tab) (os : List (Str × Str)) (hv : List V) (hl : List (Option Pg)) (xs : List Int), vs = [.ref d.p, v, tv, .ref ha, dv] ∧ Z.Hs ((ha, .lst hv) :: dc A.Disk d) F H ∧ IsSch K A F v ts os ∧ TabsOk ts ∧ Dp K F tv (.list (ts.map tabD)) ∧ HeldOk ts d.pages hl ∧ DpAll K F hv (hl.map heldD) ∧ Dp K F dv (.list (xs.map .int)) ∧ xs.length = 9 ∧ (∀ x ∈ xs, 0 ≤ x) ∧ d.due = none ∧ d.down = false ∧
  ∀ F' H' d' hv' hl', Same F F' → d'.p = d.p → d'.due = none → d'.down = false → HeldOk ts d'.pages hl' → DpAll K F' hv' (hl'.map heldD) → Z.Hs ((ha, .lst hv') :: dc A.Disk d') F' H' → Q (.bl true) H'
theorem ok_law_late (T : Txt K mg A) : ∃ fd, FnOk P w K mg base CX0 8 A.f_law_late fd ["_law_disk", "_law_schema_here", "_law_tables", "_law_held", "_law_draws_here"] (sp_law_late K A) ∧ Binds K fd ["_law_disk", "_law_schema_here", "_law_tables", "_law_held", "_law_draws_here"] [] := by
  have ⟨fd, F, b⟩ := T.d_law_late
  refine ⟨fd, F.ok sc_law_late (fun vs H Q E h => ?_) (fun cdv Ar outer s H vs Q E hr h => ?_), b⟩
  · obtain ⟨F0, d, v, tv, dv, ha, ts, os, hv, hl, xs, rfl, _⟩ := h
    rfl
  · obtain ⟨F0, d, v, tv, dv, ha, ts, os, hv, hl, xs, rfl, S, hs, tk, ht, ho, hhv, hd, x9, pos, due, down, k⟩ := h
    have nd := sc_law_late.nd
    have hu := hu_of hr
    have ⟨fd_law_table_rows, G_law_table_rows, b_law_table_rows⟩ := ok_law_table_rows (P := P) (w := w) (base := base) T
    have ⟨fd_law_page_text, G_law_page_text, b_law_page_text⟩ := ok_law_page_text (P := P) (w := w) (base := base) T
    have ⟨fd_law_newest, G_law_newest, b_law_newest⟩ := ok_law_newest (P := P) (w := w) (base := base) T
    have ⟨fd_Disk_page, G_Disk_page, b_Disk_page⟩ := ok_Disk_page (P := P) (w := w) (base := base) T
    have ⟨fd_Disk_fall_at, G_Disk_fall_at, b_Disk_fall_at⟩ := ok_Disk_fall_at (P := P) (w := w) (base := base) T
    have ⟨fd_late_page, G_late_page, b_late_page⟩ := ok_late_page (P := P) (w := w) (base := base) T
    have ⟨fd_Disk_power, G_Disk_power, b_Disk_power⟩ := ok_Disk_power (P := P) (w := w) (base := base) T
    refine ⟨_, (pss_cons (ps_set (i := 5) nd rfl (Or.inl rfl) (pe_op op_mod (pe_ix ix_list (pv 4) pe_int (fun _ _ => rfl)) (pe_callB call_len_seq (by rfl) T.b_len PySem.boot_len (pa_cons (pv 2) pa_nil))))
      (pss_cons (ps_asg (pe_ix ix_list (pv 2) (pv 5) (fun _ _ => rfl)) (pg_tup rfl (pgs_cons (pg_name (i := 6) nd rfl (Or.inl rfl)) (pgs_cons (pg_name (i := 7) nd rfl (Or.inl rfl)) pgs_nil))))
      (pss_cons (ps_set (i := 8) nd rfl (Or.inl rfl) (pe_tup (pa_cons (pv 6) (pa_cons (pe_op op_mod (pe_ix ix_list (pv 4) pe_int (fun _ _ => rfl)) pe_int) (pa_cons (pe_op op_mod (pe_ix ix_list (pv 4) pe_int (fun _ _ => rfl)) pe_int) (pa_cons (pe_call G_law_table_rows (hr.mono (by decide)) (by rfl) T.g_law_table_rows T.d_law_table_rows.kp b_law_table_rows .nil pass0 (pa_cons (pv 7) (pa_cons (pe_ix ix_list (pv 4) pe_int (fun _ _ => rfl)) (pa_cons (pe_op op_mod (pe_ix ix_list (pv 4) pe_int (fun _ _ => rfl)) pe_int) pa_nil)))) pa_nil))))))
      (pss_cons (ps_set (i := 9) nd rfl (Or.inl rfl) (pe_call G_law_page_text (hr.mono (by decide)) (by rfl) T.g_law_page_text T.d_law_page_text.kp b_law_page_text .nil pass0 (pa_cons (pe_ix ix_tup (pv 8) pe_int (fun _ _ => rfl)) (pa_cons (pe_ix ix_tup (pv 8) pe_int (fun _ _ => rfl)) (pa_cons (pe_ix ix_tup (pv 8) pe_int (fun _ _ => rfl)) (pa_cons (pe_ix ix_tup (pv 8) pe_int (fun _ _ => rfl)) pa_nil))))))
      (pss_cons (ps_set (i := 10) nd rfl (Or.inl rfl) (pe_op op_add (pe_op op_mul pe_int (pv 5)) (pe_callTy call_int1 (by rfl) T.b_int (by decide +kernel) (pa_cons (pe_cmpR op_eq (pe_ix ix_tup (pe_call G_law_newest (hr.mono (by decide)) (by rfl) T.g_law_newest T.d_law_newest.kp b_law_newest .nil pass0 (pa_cons (pv 2) (pa_cons (pv 3) (pa_cons (pv 5) pa_nil)))) pe_int (fun _ _ => rfl)) (pe_op op_mul pe_int (pv 5)) (nomark _)) pa_nil))))
      (pss_cons (ps_setLc (i := 11) rfl nd rfl rfl (sw_true rfl rfl rfl (by decide +kernel)) (own := [("_law_k", 16)]) (pi_range1 rfl T.b_range (pa_cons pe_int pa_nil)) (blkOk_by (own := [("_law_k", 16)]) (N := ["_law_disk", "_law_schema_here", "_law_tables", "_law_held", "_law_draws_here", "_law_place", "_law_name", "_law_columns", "_law_page", "_law_text", "_law_slot", "_law_before", "_law_fell", "_law_told", "_law_many", "_law_after", "_law_k"]) (sc := defScope s_law_late) (by decide +kernel)) (fun _ _ _ _ _ => pg_name (i := 16) nd rfl (Or.inl rfl)) (fun _ _ _ _ _ => pts_nil) (fun _ _ _ _ _ => (pe_meth (pv 0) T.c_Disk T.m_Disk_page G_Disk_page (hr.mono (by decide)) b_Disk_page .nil pass0 (pa_cons (pv 16) pa_nil))))
      (pss_cons (ps_set (i := 12) nd rfl (Or.inl rfl) pe_bl)
      (Evl.pss_cut (ps_if (pt_cmpR op_eq (pe_op op_mod (pe_ix ix_list (pv 4) pe_int (fun _ _ => rfl)) pe_int) pe_int (nomark _)) (pss_one (ps_expr (pe_meth (pv 0) T.c_Disk T.m_Disk_fall_at G_Disk_fall_at (hr.mono (by decide)) b_Disk_fall_at .nil pass0 (pa_cons pe_int (pa_cons (pe_op op_mod (pe_ix ix_list (pv 4) pe_int (fun _ _ => rfl)) (pe_op op_add (pe_callB call_len_str (by rfl) T.b_len PySem.boot_len (pa_cons (pv 9) pa_nil)) pe_int)) pa_nil))))) pss_nil)
      (Evl.pss_cut (Z.ps_try_ma (Wout := fun _ _ _ _ => False) rfl rfl nd takes0
      (fun W pn xe tk _ => (pss_cons (ps_set (i := 13) nd rfl (Or.inl rfl) (pe_callS G_late_page (hr.mono (by decide)) (by rfl) T.g_late_page T.d_late_page.kp b_late_page (fun σ => passAt tk σ) (pa_cons (pv 0) (pa_cons (pv 1) (pa_cons (pv 6) (pa_cons (pe_ix (ix_tupK (K := K) rfl) (pv 8) pe_int (fun _ _ => rfl)) (pa_cons (pe_ix (ix_tupK (K := K) rfl) (pv 8) pe_int (fun _ _ => rfl)) (pa_cons (pe_callTy (call_list_ofK (K := K) rfl) (by rfl) T.b_list (by decide +kernel) (pa_cons (pe_ix (ix_tupK (K := K) rfl) (pv 8) pe_int (fun _ _ => rfl)) pa_nil)) pa_nil))))))))
      (pss_one (ps_set (i := 12) nd rfl (Or.inl rfl) (pe_cmpR op_notN (pv 13) pe_non (nomark _))))))
      (.cons ⟨rfl, by decide, .inl T.g_Fell⟩ (fun a oe cls d pn hz hf => (pss_one (ps_set (i := 12) nd rfl (Or.inl rfl) pe_bl)))
      .nil))
      (pss_cons (ps_set (i := 14) nd rfl (Or.inl rfl) (pe_ix ix_list (pe_lst (pa_cons (pe_callB call_len_str (by rfl) T.b_len PySem.boot_len (pa_cons (pv 9) pa_nil)) (pa_cons (pe_callB (call_min2 rfl) (by rfl) T.b_min (by decide +kernel) (pa_cons (pe_op op_mod (pe_ix ix_list (pv 4) pe_int (fun _ _ => rfl)) (pe_op op_add (pe_callB call_len_str (by rfl) T.b_len PySem.boot_len (pa_cons (pv 9) pa_nil)) pe_int)) (pa_cons (pe_callB call_len_str (by rfl) T.b_len PySem.boot_len (pa_cons (pv 9) pa_nil)) pa_nil))) pa_nil))) (pe_callTy call_int1 (by rfl) T.b_int (by decide +kernel) (pa_cons (pe_cmpR op_eq (pe_op op_mod (pe_ix ix_list (pv 4) pe_int (fun _ _ => rfl)) pe_int) pe_int (nomark _)) pa_nil)) (fun _ _ => rfl)))
      (pss_cons (ps_expr (pe_meth0 (pv 0) T.c_Disk T.m_Disk_power G_Disk_power (hr.mono (by decide)) b_Disk_power .nil pass0))
      (pss_cons (ps_asg (pe_ix ix_list (pe_lst (pa_cons pe_non (pa_cons (pv 8) pa_nil))) (pe_callTy call_int1 (by rfl) T.b_int (by decide +kernel) (pa_cons (pe_cmpR op_eq (pv 14) (pe_callB call_len_str (by rfl) T.b_len PySem.boot_len (pa_cons (pv 9) pa_nil)) (nomark _)) pa_nil)) (fun _ _ => rfl)) (pg_sub (pv 3) (pv 10) set_list))
      (pss_cons (ps_set (i := 15) nd rfl (Or.inl rfl) (pe_op op_cat (pe_op op_cat (pe_slice sl_list (pv 11) po_none (po_some (pv 10))) (pe_lst (pa_cons (pe_slice sl_str (pv 9) po_none (po_some (pv 14))) pa_nil))) (pe_slice sl_list (pv 11) (po_some (pe_op op_add (pv 10) pe_int)) po_none)))
      (pss_one (ps_ret (pe_and (pe_cmpR op_eq (pv 12) (pe_cmpR op_eq (pe_op op_mod (pe_ix ix_list (pv 4) pe_int (fun _ _ => rfl)) pe_int) pe_int (nomark _)) (nomark _)) (pe_one (pe_cmpR (op_eqD hr.units) (pe_lc (own := [("_law_k", 16)]) rfl nd (pi_range1 rfl T.b_range (pa_cons pe_int pa_nil)) (blkOk_by (own := [("_law_k", 16)]) (N := ["_law_disk", "_law_schema_here", "_law_tables", "_law_held", "_law_draws_here", "_law_place", "_law_name", "_law_columns", "_law_page", "_law_text", "_law_slot", "_law_before", "_law_fell", "_law_told", "_law_many", "_law_after", "_law_k"]) (sc := defScope s_law_late) (by decide +kernel)) (fun _ _ _ _ _ => pg_name (i := 16) nd rfl (Or.inl rfl)) (fun _ _ _ _ _ => pts_nil) (fun _ _ _ _ _ => (pe_meth (pv 0) T.c_Disk T.m_Disk_page G_Disk_page (hr.mono (by decide)) b_Disk_page .nil pass0 (pa_cons (pv 16) pa_nil)))) (pv 15) (nomark _))))))))))))))))))), ?_⟩
    simp only [cxOf, Cx.nox, L2.start, List.map_cons, List.map_nil, List.length_cons, List.length_nil, Nat.reduceAdd, Nat.reduceSub, List.replicate, List.cons_append, List.nil_append]
    have W0 := ws0 S
    have sm : Same F0 H := S.fr
    obtain ⟨x0, x1, x2, x3, x4, x5, x6, x7, x8, rfl⟩ : ∃ x0 x1 x2 x3 x4 x5 x6 x7 x8, xs = [x0, x1, x2, x3, x4, x5, x6, x7, x8] := by
      match xs, x9 with
      | [a, b, c, d, e, f, g, h, i], _ => exact ⟨_, _, _, _, _, _, _, _, _, rfl⟩
    have p0 := pos x0 (by simp)
    have p1 := pos x1 (by simp)
    have p2 := pos x2 (by simp)
    have p3 := pos x3 (by simp)
    have p4 := pos x4 (by simp)
    have p5 := pos x5 (by simp)
    have p6 := pos x6 (by simp)
    have p7 := pos x7 (by simp)
    obtain ⟨ta, tx, rfl, hta, htx⟩ := Z.dp_lst ht
    have htl := Z.dpa_len htx
    rw [List.length_map] at htl
    have tlo := tk.lo
    have thi := tk.hi
    have p0' := p0
    walk_at "z"
    refine Z.ixD hd sm 1 rfl fun w hw => ?_
    cases Z.dp_int hw
    walk_at "z"
    refine Z.lenSeq (sm.seq hta) ?_
    walk_at "z"
    have tl0 : (0 : Int) < (tx.length : Int) := by omega
    obtain ⟨n, enb, hn⟩ : ∃ n : Nat, x1 % (tx.length : Int) = (n : Int) ∧ n < ts.length := ⟨(x1 % (tx.length : Int)).toNat, by have := Int.emod_nonneg x1 (show (tx.length : Int) ≠ 0 by omega); omega, by have := Int.emod_nonneg x1 (show (tx.length : Int) ≠ 0 by omega); have := Int.emod_lt_of_pos x1 tl0; omega⟩
    rw [enb]
    have hti : ts[n]? = some (ts[n]'hn) := List.getElem?_eq_getElem _
    generalize ts[n]'hn = t at hti
    have htm := List.mem_of_getElem? hti
    have tn := tk.nm t htm
    walk_at "z"
    refine Z.ixD ht sm n (d := tabD t) (by rw [List.getElem?_map, hti]; rfl) fun w hw => ?_
    refine Z.gtupD hw sm fun zs hzs => ?_
    obtain ⟨z1, z2, rfl, hz1, hz2⟩ := Z.dpa2 hzs
    cases Z.dp_str hz1
    walk_at "z"
    refine Z.ixD hd sm 2 rfl fun w hw => ?_
    cases Z.dp_int hw
    walk_at "z"
    refine Z.ixD hd sm 3 rfl fun w hw => ?_
    cases Z.dp_int hw
    walk_at "z"
    refine Z.ixD hd sm 4 rfl fun w hw => ?_
    cases Z.dp_int hw
    walk_at "z"
    refine Z.ixD hd sm 5 rfl fun w hw => ?_
    cases Z.dp_int hw
    walk_at "z"
    obtain ⟨n5, en5, hn5⟩ : ∃ n5 : Nat, x5 % 5 = (n5 : Int) ∧ n5 ≤ 6 := ⟨(x5 % 5).toNat, by omega, by omega⟩
    rw [en5]
    refine ⟨F0, z2, t.2, x4, n5, rfl, sm, hz2, tn.2, hn5, fun F2 H2 q vs' rows M hvs rok ris many => ?_⟩
    have W2 := W0.join M
    obtain ⟨F3, W3, s3, g3⟩ := W2.frz 0 rfl
    have hrows : Dp K F3 (.ref q) (.list (rows.map .tuple)) := .lst (SqL.of g3) (Z.dpa_same s3 hvs)
    have s13 : Same F0 F3 := M.f0.trans s3
    walk_at "z"
    refine Z.tupD (K := K) W3 (.cons (.str t.1) (.cons (.int (x2 % 8)) (.cons (.int (x3 % 9)) (.cons hrows .nil)))) fun pg F4 H4 W4 s4 hpg => ?_
    walk_at "z"
    have pk : PageOk t.2 t.1 (x2 % 8) (x3 % 9) rows := ⟨tn.1, by omega, by omega, by omega, by omega, rok, many⟩
    refine Z.ixT hpg W4.fh 0 rfl fun w hw => ?_
    cases Z.dp_str hw
    walk_at "z"
    refine Z.ixT hpg W4.fh 1 rfl fun w hw => ?_
    cases Z.dp_int hw
    walk_at "z"
    refine Z.ixT hpg W4.fh 2 rfl fun w hw => ?_
    cases Z.dp_int hw
    walk_at "z"
    refine Z.ixT hpg W4.fh 3 rfl fun w hw => ?_
    obtain ⟨qa, qx, rfl, hq, hqx⟩ := Z.dp_lst hw
    walk_at "z"
    refine ⟨F4, qa, qx, t.1, x2 % 8, x3 % 9, t.2, rows, rfl, W4.fh, W4.fh.seq hq, hqx, tn.2, pk, fun H5 s5 => ?_⟩
    have W5 : Z.Ws ((ha, .lst hv) :: dc A.Disk d) N0 N0 F4 H5 := W4.exts s5
    have s04 : Same F0 F4 := s13.trans s4
    have hd5 := Z.dp_same s04 hd
    have hhv5 := Z.dpa_same s04 hhv
    have ht5 := Z.dp_same s04 ht
    have zl := page_len tn.2 pk
    have zp : 1 ≤ (pageT t.1 (x2 % 8) (x3 % 9) rows).length := page_pos
    generalize hz : pageT t.1 (x2 % 8) (x3 % 9) rows = z at zl zp
    walk_at "z"
    have hi4 : n < 4 := by omega
    refine ⟨F4, _, ha, n, ts, t, hv, hl, rfl, W5.fh, ht5, hti, hi4, ho.nh, W5.at 0 rfl, hhv5, fun F6 H6 r g6 hr => ?_⟩
    have W6 := W5.ext g6
    walk_at "z"
    refine Z.ixT hr W6.fh 0 rfl fun w hw => ?_
    have hwv : w = bestV (newestP t hl n) := by
      cases e : newestP t hl n with
      | none => rw [e] at hw; exact Z.dp_none hw
      | some a => rw [e] at hw; exact Z.dp_int hw
    subst hwv
    walk_at "z"
    refine Z.eqS (by cases newestP t hl n <;> rfl) ?_
    walk_at "z"
    refine .inr ⟨_, rfl, ?_⟩
    walk_at "z"
    have els : 2 * (n : Int) + (if decide (bestV (newestP t hl n) = V.int (2 * (n : Int))) = true then 1 else 0) = (lateSlot t hl n : Nat) := by
      unfold lateSlot
      cases newestP t hl n with
      | none =>
        rw [if_neg (by simp [bestV])]
        show 2 * (n : Int) + 0 = ((2 * n : Nat) : Int)
        omega
      | some a =>
        show 2 * (n : Int) + (if decide (V.int (a.1 : Nat) = V.int (2 * (n : Int))) = true then 1 else 0) = ((if a.1 = 2 * n then 2 * n + 1 else 2 * n : Nat) : Int)
        by_cases e : a.1 = 2 * n
        · rw [if_pos e, if_pos (decide_eq_true (congrArg V.int (by omega)))]
          omega
        · rw [if_neg e, if_neg (fun h => e (by have := V.int.inj (of_decide_eq_true h); omega))]
          omega
    rw [els]
    have ls8 : lateSlot t hl n < 8 := by
      unfold lateSlot
      split
      · split <;> omega
      · omega
    generalize hls : lateSlot t hl n = ls at ls8
    walk_at "z"
    refine ⟨8, rfl, by omega, by omega, ?_⟩
    rw [show Int.toNat 8 = 8 from rfl]
    intro D1 hD1
    have pl := ho.n
    have W6 : Z.Ws ((ha, .lst hv) :: dc A.Disk d) N0 N0 F6 H6 := W6
    refine lc_range (lo := 0) (n := 8) (fun j H' => Z.Ws ((D1, .lst ((d.pages.take j).map .str)) :: (ha, .lst hv) :: dc A.Disk d) N0 N0 F6 H') (W6.new hD1) ?_ ?_
    · rintro j H7 hj W7
      refine ⟨rfl, ?_⟩
      have hdp : H7 d.p = _ := W7.at 2 rfl
      walk_at "z"
      have ez : d.pages[j]? = some (d.pages[j]'(by omega)) := List.getElem?_eq_getElem _
      rw [show (0 : Int) + (j : Int) = (j : Int) by omega]
      refine ⟨d, j, _, rfl, fun p o m => W7.sees p o (List.mem_cons_of_mem _ (List.mem_cons_of_mem _ m)), ez, ?_⟩
      refine ⟨_, W7.at 0 rfl, by rw [List.length_map, List.length_take]; exact Nat.lt_of_le_of_lt (show _ ≤ 1000 by omega) (by decide), ?_⟩
      rw [List.take_add_one, ez, List.map_append]
      exact W7.set 0 rfl _
    rintro H7 W7
    rw [List.take_of_length_le (by omega)] at W7
    obtain ⟨F8, W8, s8, g8⟩ := W7.frz 0 rfl
    have hbef : Dp K F8 (.ref D1) (.list (d.pages.map .str)) := .lst (SqL.of g8) (Z.dpa_of_strs d.pages)
    have W8 : Z.Ws ((ha, .lst hv) :: dc A.Disk d) N0 N0 F8 H7 := W8
    walk_at "z"
    have hd8 : Dp K F8 dv (.list ([x0, x1, x2, x3, x4, x5, x6, x7, x8].map .int)) := Z.dp_same (g6.f.trans s8) hd5
    have hdp7 : H7 d.p = _ := W8.at 1 rfl
    refine Z.cut (M := fun σ' H' => σ' = [some (.ref d.p), some v, some (.ref ta), some (.ref ha), some dv, some (.int n), some (.str t.1), some z2, some pg, some (.str z), some (.int ls), some (.ref D1), some (.bl false), none, none, none, none] ∧ ∃ t', Z.Hs ((ha, .lst hv) :: dc A.Disk { d with due := if x6 % 2 = 0 then some (0, x7 % ((z.length : Int) + 3)) else none, t := t' }) F8 H') ?_ ?_
    · walk_at "z"
      refine Z.ixD hd8 W8.fh 6 rfl fun w hw => ?_
      cases Z.dp_int hw
      walk_at "z"
      refine Z.iteD (fun he => ?_) (fun he => ?_)
      · have he := V.int.inj he
        walk_at "z"
        refine Z.ixD hd8 W8.fh 7 rfl fun w hw => ?_
        cases Z.dp_int hw
        walk_at "z"
        refine ⟨_, rfl, Nat.le_trans zl (by decide), ?_⟩
        walk_at "z"
        obtain ⟨F9, S9, s9, g9, back⟩ := hs_tail W8.hs
        refine ⟨F9, d, 0, _, rfl, S9, fun H' t' S' => ?_⟩
        walk_at "z"
        refine ⟨rfl, t', ?_⟩
        rw [if_pos he]
        exact back _ _ S'
      · have he : ¬ x6 % 2 = 0 := fun e => he (congrArg V.int e)
        walk_at "z"
        refine ⟨rfl, d.t, ?_⟩
        rw [if_neg he]
        have : ({ d with due := none, t := d.t } : Dk) = d := by rw [← due]
        rw [this]
        exact W8.hs
    rintro σ8 H8 ⟨rfl, t', S8⟩
    have W8 := ws0 S8
    have hpg8 := Z.dp_same (g6.f.trans s8) hpg
    generalize hsg : x7 % ((z.length : Int) + 3) = sg at S8 W8
    have sg0 : 0 ≤ sg := by rw [← hsg]; exact Int.emod_nonneg _ (by omega)
    obtain ⟨md, emd, hmd⟩ : ∃ md : Nat, (if x6 % 2 = 0 then (if (z.length : Int) < sg then (z.length : Int) else sg) else (z.length : Int)) = (md : Int) ∧ md ≤ z.length :=
      ⟨(if x6 % 2 = 0 then (if (z.length : Int) < sg then (z.length : Int) else sg) else (z.length : Int)).toNat, by split <;> (try split) <;> omega, by split <;> (try split) <;> omega⟩
    have hs4 : Same F0 F8 := s04.trans (g6.f.trans s8)
    refine Z.cut (M := fun σ' H' => (∃ v13, σ' = [some (.ref d.p), some v, some (.ref ta), some (.ref ha), some dv, some (.int n), some (.str t.1), some z2, some pg, some (.str z), some (.int ls), some (.ref D1), some (.bl (decide (x6 % 2 = 0))), v13, none, none, none]) ∧ ∃ F' d', Same F8 F' ∧ d'.p = d.p ∧ d'.pages = d.pages.set ls (cutS z none (some (md : Int))) ∧ Z.Hs ((ha, .lst hv) :: dc A.Disk d') F' H') ?_ ?_
    · walk_at "z"
      refine Z.ixT hpg8 W8.fh 1 rfl fun w hw => ?_
      cases Z.dp_int hw
      walk_at "z"
      refine Z.ixT hpg8 W8.fh 2 rfl fun w hw => ?_
      cases Z.dp_int hw
      walk_at "z"
      refine Z.ixT hpg8 W8.fh 3 rfl fun w hw => ?_
      obtain ⟨qb, qy, rfl, hqb, hqy⟩ := Z.dp_lst hw
      walk_at "z"
      refine ⟨qb, qy, rfl, .inl (W8.fh.seq hqb), fun lb hlb => ?_⟩
      have W9 := W8.new (o := .lst qy) hlb
      obtain ⟨F9, W9, s9, g9⟩ := W9.frz 0 rfl
      have W9 : Z.Ws ((ha, .lst hv) :: dc A.Disk { d with due := if x6 % 2 = 0 then some (0, sg) else none, t := t' }) N0 N0 F9 _ := W9
      generalize upd H8 lb (.lst qy) = H9 at W9 ⊢
      walk_at "z"
      obtain ⟨F10, S10, s10, g10, back⟩ := hs_tail W9.hs
      have s910 : Same F8 F10 := s9.trans s10
      have hqy' : DpAll K F10 qy (rows.map .tuple) := Z.dpa_same s910 hqy
      refine ⟨F10, { d with due := if x6 % 2 = 0 then some (0, sg) else none, t := t' }, v, .str t.1, .str t.1, ts, os, _, _, lb, rfl, S10, hs.same (hs4.trans s910), .str t.1, by have := (tk.nm t htm).1.2.1; show Str.length _ ≤ _; omega, fun i' t2 hit2 e2 => ?_, fun h => absurd rfl (h t htm)⟩
      have hii : i' = n ∧ t2 = t := by
        have a1 : (ts.map (·.1))[n]? = some t.1 := by rw [List.getElem?_map, hti]; rfl
        have a2 : (ts.map (·.1))[i']? = some t.1 := by rw [List.getElem?_map, hit2]; exact congrArg some (PyData.str.inj e2).symm
        have := nd_ix tk.nd a2 a1
        subst this
        rw [hti] at hit2
        exact ⟨rfl, (Option.some.inj hit2).symm⟩
      obtain ⟨rfl, rfl⟩ := hii
      refine ⟨hl, qy, rows, ho, SqL.of (s10 _ _ g9), hqy', pk, ?_⟩
      rw [hls, hz]
      have efw : ∀ r, eff 1 ls z 0 r (d.rows, d.pages) = (d.rows, d.pages.set ls (match r with | none => z | some k => cutS z none (some k))) := fun r => by cases r <;> rfl
      refine ⟨fun c => ?_, fun H' d' c aft he S' => ?_, fun kk H' d' c aft he S' => ?_⟩
      · rw [down] at c
        by_cases e : x6 % 2 = 0
        · simp [comeR, e] at c
        · simp [comeR, e] at c
      · rw [efw] at he
        have e : ¬ x6 % 2 = 0 := fun e => by rw [down] at c; simp [comeR, e] at c
        rw [if_neg e] at emd
        have : md = z.length := by omega
        subst this
        walk_at "z"
        refine ⟨⟨_, by rw [decide_eq_false e]; rfl⟩, F9, d', s9, aft.p, ?_, back _ _ S'⟩
        rw [cut_all]
        exact (Prod.mk.inj he).2
      · rw [efw] at he
        have e : x6 % 2 = 0 := by
          by_cases e : x6 % 2 = 0
          · exact e
          · rw [down] at c; simp [comeR, e] at c
        have ek : kk = sg := by rw [down] at c; simp [comeR, e] at c; exact c.symm
        subst ek
        rw [if_pos e] at emd
        refine ⟨true, Z.exm_of T.sb_Fell T.cb_Fell T.tb_Fell T.sub_Fell_Fell, fun _ ax hax => ?_, (fun q => Bool.noConfusion q)⟩
        walk_at "z"
        refine ⟨⟨_, by rw [decide_eq_true e]; rfl⟩, F9, d', s9, aft.p, ?_, back _ _ S'⟩
        rw [(Prod.mk.inj he).2]
        show d.pages.set ls (cutS z none (some kk)) = _
        congr 1
        by_cases lt : (z.length : Int) < kk
        · rw [if_pos lt] at emd
          have : md = z.length := by omega
          subst this
          obtain ⟨nk, rfl⟩ : ∃ nk : Nat, kk = (nk : Int) := ⟨kk.toNat, by omega⟩
          rw [cut_all, cut_over (by omega)]
        · rw [if_neg lt] at emd
          rw [emd]
    rintro σ9 H9 ⟨⟨v13, rfl⟩, F9, d', s9, ep, epg, S9⟩
    have W9 := ws0 S9
    have hd9 := Z.dp_same s9 hd8
    have hdp9 := W9.at 1 rfl
    rw [ep] at hdp9
    walk_at "z"
    refine ⟨_, rfl, Nat.le_trans zl (by decide), ?_⟩
    walk_at "z"
    refine Z.ixD hd9 W9.fh 7 rfl fun w hw => ?_
    cases Z.dp_int hw
    walk_at "z"
    refine ⟨_, rfl, Nat.le_trans zl (by decide), ?_⟩
    walk_at "z"
    refine ⟨_, rfl, Nat.le_trans zl (by decide), ?_⟩
    walk_at "z"
    rw [hsg]
    refine ⟨_, _, rfl, ?_⟩
    walk_at "z"
    refine Z.lstD (K := K) W9 (.cons (.int (z.length : Int)) (.cons (.int (if (z.length : Int) < sg then (z.length : Int) else sg)) .nil)) fun r10 F10 H10 W10 s10 h10 => ?_
    have hd10 := Z.dp_same s10 hd9
    walk_at "z"
    refine Z.ixD hd10 W10.fh 6 rfl fun w hw => ?_
    cases Z.dp_int hw
    walk_at "z"
    refine .inr ⟨_, rfl, ?_⟩
    walk_at "z"
    have pickm : ∀ {R : V → Hp → Prop}, R (.int (md : Int)) H10 → rIxL K r10 (.int (if decide (V.int (x6 % 2) = V.int 0) = true then 1 else 0)) H10 R := fun {R} h => by
      by_cases e : x6 % 2 = 0
      · rw [if_pos (decide_eq_true (congrArg V.int e))]
        rw [if_pos e] at emd
        exact Z.ixD h10 W10.fh 1 rfl fun w hw => by cases Z.dp_int hw; rw [emd]; exact h
      · rw [if_neg (fun h => e (V.int.inj (of_decide_eq_true h)))]
        rw [if_neg e] at emd
        exact Z.ixD h10 W10.fh 0 rfl fun w hw => by cases Z.dp_int hw; rw [emd]; exact h
    refine pickm ?_
    have W10 : Z.Ws ((ha, .lst hv) :: dc A.Disk d') N0 N0 F10 H10 := W10
    have hdp10 := W10.at 1 rfl
    rw [ep] at hdp10
    walk_at "z"
    obtain ⟨F11, S11, s11, g11, back11⟩ := hs_tail W10.hs
    refine ⟨F11, d', by rw [ep]; rfl, S11, fun H12 S12 => ?_⟩
    have W12 := ws0 (back11 _ _ S12)
    walk_at "z"
    refine Z.lstD (K := K) W12 (.cons .non (.cons (Z.dp_same (s9.trans s10) hpg8) .nil)) fun r13 F13 H13 W13 s13' h13 => ?_
    walk_at "z"
    refine ⟨_, rfl, Nat.le_trans zl (by decide), ?_⟩
    walk_at "z"
    refine .inr ⟨_, rfl, ?_⟩
    walk_at "z"
    have pickh : ∀ {R : V → Hp → Prop} (b : Bool), b = decide ((md : Int) = (z.length : Int)) → (∀ w h, Dp K F13 w (heldD h) → Holds ts (cutS z none (some (md : Int))) h → R w H13) → rIxL K r13 (.int (if b = true then 1 else 0)) H13 R := fun {R} b eb h => by
      by_cases e : md = z.length
      · rw [eb, if_pos (decide_eq_true (p := (md : Int) = (z.length : Int)) (by rw [e]))]
        exact Z.ixD h13 W13.fh 1 rfl fun w hw => h w (some ⟨t, x2 % 8, x3 % 9, rows⟩) hw (by rw [e, cut_all]; exact ⟨⟨htm, pk, ris⟩, hz.symm⟩)
      · rw [eb, if_neg (fun h => e (by have := of_decide_eq_true h; omega))]
        exact Z.ixD h13 W13.fh 0 rfl fun w hw => h w none hw (by rw [← hz] at hmd e ⊢; exact no_end (torn (body_facts tn.2 pk).1 (by show md < (pageT _ _ _ _).length; omega)))
    refine pickh _ (decide_eq_decide.mpr ⟨V.int.inj, congrArg _⟩) fun wh hh hwh hhold => ?_
    have W13 : Z.Ws ((ha, .lst hv) :: dc A.Disk { d' with due := none, down := false }) N0 N0 F13 H13 := W13
    walk_at "z"
    have hvl := Z.dpa_len hhv
    rw [List.length_map, ho.nh] at hvl
    refine Z.setLE (W13.at 0 rfl) (by omega) ?_
    have W14 := W13.head (.lst (hv.set ls wh))
    generalize upd H13 ha (.lst (hv.set ls wh)) = H14 at W14 ⊢
    walk_at "z"
    have s813 : Same F8 F13 := s9.trans (s10.trans s13')
    obtain ⟨Db, bx, eDb, hDb, hbx⟩ := Z.dp_lst (Z.dp_same s813 hbef)
    cases eDb
    cases Z.dpa_strs hbx
    refine Z.slW W14 (W14.fh.seq hDb) fun q15 H15 W15 => ?_
    walk_at "z"
    refine Z.slS (Nat.le_trans zl (by decide)) ?_
    walk_at "z"
    refine Z.lstW W15 (fun q16 H16 W16 => ?_)
    walk_at "z"
    have cl1 : ∀ lo hi, (cutV (d.pages.map V.str) lo hi).length ≤ 8 := fun lo hi => by rw [Z.cutV_str, List.length_map]; exact Nat.le_trans (Z.cutT_len ..) (by omega)
    refine Z.catW W16 (W16.at 1 rfl) (W16.at 0 rfl) (by have := cl1 none (some (ls : Int)); simp only [List.length_cons, List.length_nil]; omega) fun q17 H17 W17 => ?_
    walk_at "z"
    refine Z.slW W17 (W17.fh.seq hDb) fun q18 H18 W18 => ?_
    walk_at "z"
    refine Z.catW W18 (W18.at 1 rfl) (W18.at 0 rfl) (by have := cl1 none (some (ls : Int)); have := cl1 (some ((ls : Int) + 1)) none; simp only [List.length_append, List.length_cons, List.length_nil]; omega) fun q19 H19 W19 => ?_
    walk_at "z"
    have hd13 := Z.dp_same s813 hd8
    refine Z.ixD hd13 W19.fh 6 rfl fun w hw => ?_
    cases Z.dp_int hw
    walk_at "z"
    have ebb : (V.bl (decide (x6 % 2 = 0)) = V.bl (decide (V.int (x6 % 2) = V.int 0))) := congrArg V.bl (decide_eq_decide.mpr ⟨congrArg _, V.int.inj⟩)
    refine Z.iteD (fun _ => ?_) (fun h => absurd ebb h)
    walk_at "z"
    refine ⟨8, rfl, by omega, by omega, ?_⟩
    rw [show Int.toNat 8 = 8 from rfl]
    intro D2 hD2
    have pl' : d'.pages.length = 8 := by rw [epg, List.length_set]; exact pl
    have W19 : Z.Ws ((q19, _) :: (q18, _) :: (q17, _) :: (q16, _) :: (q15, _) :: (ha, .lst (hv.set ls wh)) :: dc A.Disk { d' with due := none, down := false }) N0 N0 F13 H19 := W19
    refine lc_range (lo := 0) (n := 8) (fun j H' => Z.Ws ((D2, .lst ((d'.pages.take j).map .str)) :: (q19, _) :: (q18, _) :: (q17, _) :: (q16, _) :: (q15, _) :: (ha, .lst (hv.set ls wh)) :: dc A.Disk { d' with due := none, down := false }) N0 N0 F13 H') (W19.new hD2) ?_ ?_
    · rintro j H20 hj W20
      refine ⟨rfl, ?_⟩
      have hdp20 := W20.at 7 rfl
      rw [ep] at hdp20
      walk_at "z"
      have ez : d'.pages[j]? = some (d'.pages[j]'(by omega)) := List.getElem?_eq_getElem _
      rw [show (0 : Int) + (j : Int) = (j : Int) by omega]
      refine ⟨{ d' with due := none, down := false }, j, _, by rw [← ep]; rfl, fun p o m => W20.sees p o (by simp only [List.mem_cons]; exact .inr (.inr (.inr (.inr (.inr (.inr (.inr m))))))), ez, ?_⟩
      refine ⟨_, W20.at 0 rfl, by rw [List.length_map, List.length_take]; exact Nat.lt_of_le_of_lt (show _ ≤ 1000 by omega) (by decide), ?_⟩
      rw [List.take_add_one, ez, List.map_append]
      exact W20.set 0 rfl _
    rintro H20 W20
    rw [List.take_of_length_le (by omega)] at W20
    walk_at "z"
    have ho' := ho.put (s := ls) hhold (Nat.le_trans (cut_le hmd) zl) (Z.ok_cut (hz ▸ page_ok tn.2 pk))
    rw [← epg] at ho'
    have ec1 : Z.cutT d.pages none (some (ls : Int)) = d.pages.take ls := by
      unfold Z.cutT
      rw [HT.sIx_nat, HT.sIx_none, List.drop_zero, Nat.sub_zero, Nat.min_eq_left (by omega)]
    have ec2 : Z.cutT d.pages (some ((ls : Int) + 1)) none = d.pages.drop (ls + 1) := by
      unfold Z.cutT
      rw [show (ls : Int) + 1 = ((ls + 1 : Nat) : Int) by omega, HT.sIx_nat, HT.sIx_none, Nat.min_eq_left (by omega)]
      exact List.take_of_length_le (by rw [List.length_drop]; exact Nat.le_refl _)
    have e19 : (cutV (d.pages.map V.str) none (some (ls : Int)) ++ [V.str (cutS z none (some (md : Int)))]) ++ cutV (d.pages.map V.str) (some ((ls : Int) + 1)) none = d'.pages.map V.str := by
      rw [Z.cutV_str, Z.cutV_str, epg, ec1, ec2, List.set_eq_take_append_cons_drop, if_pos (by omega), List.map_append, List.map_cons, List.append_assoc]
      rfl
    have g19 : H20 q19 = _ := W20.at 1 rfl
    rw [e19] at g19
    refine Z.eqStrs (SqL.of (W20.at 0 rfl)) (SqL.of g19) ho'.so ?_
    have S20 := W20.hs.sub (List.drop_sublist 6 _)
    exact k F13 H20 { d' with due := none, down := false } _ (hl.set ls hh) (hs4.trans s813) ep rfl rfl ho' (by rw [List.map_set]; exact dpa_set (Z.dpa_same (hs4.trans s813) hhv) hwh) S20

theorem sameV_dx {K : PySem.W.Frag} {F : Hp} {v : V} {d : PyData} (h : Z.DX K F v d) : Z.SameV v := by cases h <;> first | exact .inl rfl | exact .inr ⟨_, rfl⟩
def sp_law_refused (K : PySem.W.Frag) (A : Adr) : Sp := fun vs H Q _ => ∃ (F : Hp) (d : Dk) (v u : V) (way : Nat) (dt : PyData) (ts : List Tab) (os : List (Str × Str)), vs = [.ref d.p, v, .int way, u] ∧ Z.Hs (dc A.Disk d) F H ∧ IsSch K A F v ts os ∧ Z.DX K F u dt ∧ SmallS dt ∧ NoTab ts dt ∧ ∀ H', Same H H' → Q (.bl true) H'
theorem ok_law_refused (T : Txt K mg A) : ∃ fd, FnOk P w K mg base CX0 8 A.f_law_refused fd ["_law_disk", "_law_schema_here", "_law_way", "_law_thing"] (sp_law_refused K A) ∧ Binds K fd ["_law_disk", "_law_schema_here", "_law_way", "_law_thing"] [] := by
  have ⟨fd, F, b⟩ := T.d_law_refused
  refine ⟨fd, F.ok sc_law_refused (fun vs H Q E h => ?_) (fun cdv Ar outer s H vs Q E hr h => ?_), b⟩
  · obtain ⟨F0, d, v, u, way, dt, ts, os, rfl, _⟩ := h
    rfl
  · obtain ⟨F0, d, v, u, way, dt, ts, os, rfl, S, hs, hu', hz, hno, k⟩ := h
    have nd := sc_law_refused.nd
    have hu := hu_of hr
    have ⟨fd_slots_of, G_slots_of, b_slots_of⟩ := ok_slots_of (P := P) (w := w) (base := base) T
    have ⟨fd_newest, G_newest, b_newest⟩ := ok_newest (P := P) (w := w) (base := base) T
    have ⟨fd_late_page, G_late_page, b_late_page⟩ := ok_late_page (P := P) (w := w) (base := base) T
    refine ⟨_, (pss_cons (ps_set (i := 4) nd rfl (Or.inl rfl) pe_non)
      (pss_cons (ps_try_as (i := 5) (Wout := fun _ _ _ _ => False) rfl rfl nd rfl rfl ⟨rfl, by decide, .inl T.g_NoTable⟩ takes0
      (fun W pn xe tk _ => (pss_one (ps_if (pt_cmpR op_eq (pv 2) pe_int (nomark _)) (pss_one (ps_expr (pe_callS G_slots_of (hr.mono (by decide)) (by rfl) T.g_slots_of T.d_slots_of.kp b_slots_of (fun σ => passAt tk σ) (pa_cons (pv 1) (pa_cons (pv 3) pa_nil))))) (pss_one (ps_if (pt_cmpR op_eq (pv 2) pe_int (nomark _)) (pss_one (ps_expr (pe_callS G_newest (hr.mono (by decide)) (by rfl) T.g_newest T.d_newest.kp b_newest (fun σ => passAt tk σ) (pa_cons (pv 0) (pa_cons (pv 1) (pa_cons (pv 3) pa_nil)))))) (pss_one (ps_expr (pe_callS G_late_page (hr.mono (by decide)) (by rfl) T.g_late_page T.d_late_page.kp b_late_page (fun σ => passAt tk σ) (pa_cons (pv 0) (pa_cons (pv 1) (pa_cons (pv 3) (pa_cons pe_int (pa_cons pe_int (pa_cons (pe_lst pa_nil) pa_nil))))))))))))))
      (fun a oe cls d pn hz hf => (pss_one (ps_set (i := 4) nd rfl (Or.inl rfl) (pe_lst (pa_cons (pe_xf T.xfc_NoTable T.xf_NoTable_table hz hf (pv 5)) pa_nil))))))
      (pss_one (ps_ret (pe_cmpR (Z.op_eqLS hr.units) (pv 4) (pe_lst (pa_cons (pv 3) pa_nil)) (nomark _)))))), ?_⟩
    simp only [cxOf, Cx.nox, L2.start, List.map_cons, List.map_nil, List.length_cons, List.length_nil, Nat.reduceAdd, Nat.reduceSub, List.replicate, List.cons_append, List.nil_append]
    have sv := sameV_dx hu'
    have hn : ∀ (i : Nat) (t : Tab), ts[i]? = some t → ¬ dt = .str t.1 := fun i t hi => hno t (List.mem_of_getElem? hi)
    walk_at "z"
    refine Z.iteD (fun e => ?_) (fun e => ?_)
    · walk_at "z"
      refine ⟨F0, v, u, dt, ts, os, rfl, S.same, hs, hu', hz, fun i t hit e' => absurd e' (hn i t hit), fun _ a1 H1 s1 he => ?_⟩
      refine ⟨true, Z.exm_of T.sb_NoTable T.cb_NoTable T.tb_NoTable T.sub_NoTable_NoTable, fun _ a ha => ?_, (fun q => Bool.noConfusion q)⟩
      simp only [Z.endsAs, Z.slotAs]
      walk_at "z"
      refine ⟨rfl, rfl, a1, _, u, rfl, he, Z.look_eq, ?_⟩
      walk_at "z"
      refine Z.lstW (Z.Ws.init (S.same.trans s1)) (fun q1 H2 W2 => ?_)
      walk_at "z"
      refine Z.lstW W2 (fun q2 H3 W3 => ?_)
      walk_at "z"
      refine ⟨q1, q2, [u], rfl, rfl, SqL.of (W3.at 1 rfl), SqL.of (W3.at 0 rfl), fun x hx => by cases List.mem_singleton.mp hx; exact sv, ?_⟩
      walk_at "z"
      exact k _ (s1.trans W3.same)
    · walk_at "z"
      refine Z.iteD (fun e => ?_) (fun e => ?_)
      · walk_at "z"
        refine ⟨F0, d, v, u, dt, ts, os, rfl, S.same, S.sees, hs, hu', hz, fun i t hit e' => absurd e' (hn i t hit), fun _ a1 H1 s1 he => ?_⟩
        refine ⟨true, Z.exm_of T.sb_NoTable T.cb_NoTable T.tb_NoTable T.sub_NoTable_NoTable, fun _ a ha => ?_, (fun q => Bool.noConfusion q)⟩
        simp only [Z.endsAs, Z.slotAs]
        walk_at "z"
        refine ⟨rfl, rfl, a1, _, u, rfl, he, Z.look_eq, ?_⟩
        walk_at "z"
        refine Z.lstW (Z.Ws.init (S.same.trans s1)) (fun q1 H2 W2 => ?_)
        walk_at "z"
        refine Z.lstW W2 (fun q2 H3 W3 => ?_)
        walk_at "z"
        refine ⟨q1, q2, [u], rfl, rfl, SqL.of (W3.at 1 rfl), SqL.of (W3.at 0 rfl), fun x hx => by cases List.mem_singleton.mp hx; exact sv, ?_⟩
        walk_at "z"
        exact k _ (s1.trans W3.same)
      · walk_at "z"
        refine Z.lstW (Z.Ws.init S.same) (fun q0 H0 W0 => ?_)
        have S0 := S.ext W0.same
        walk_at "z"
        refine ⟨F0, d, v, u, dt, ts, os, 0, 0, q0, rfl, S0, hs, hu', hz, fun i t hit e' => absurd e' (hn i t hit), fun _ a1 H1 s1' he => ?_⟩
        have s1 := W0.same.trans s1'
        refine ⟨true, Z.exm_of T.sb_NoTable T.cb_NoTable T.tb_NoTable T.sub_NoTable_NoTable, fun _ a ha => ?_, (fun q => Bool.noConfusion q)⟩
        simp only [Z.endsAs, Z.slotAs]
        walk_at "z"
        refine ⟨rfl, rfl, a1, _, u, rfl, he, Z.look_eq, ?_⟩
        walk_at "z"
        refine Z.lstW (Z.Ws.init (S.same.trans s1)) (fun q1 H2 W2 => ?_)
        walk_at "z"
        refine Z.lstW W2 (fun q2 H3 W3 => ?_)
        walk_at "z"
        refine ⟨q1, q2, [u], rfl, rfl, SqL.of (W3.at 1 rfl), SqL.of (W3.at 0 rfl), fun x hx => by cases List.mem_singleton.mp hx; exact sv, ?_⟩
        walk_at "z"
        exact k _ (s1.trans W3.same)

theorem op_notIn_seqK {X : Cx} {K : PySem.W.Frag} (h : X.K = K) : OpR X (compareOp .NotIn) (rIn K true) := by subst h; exact op_notIn_seq
theorem filt_step {zs us : List Str} {i : Nat} {z : Str} (h : zs[i]? = some z) : ((zs.take (i + 1)).filter fun z => !decide (z ∈ us)) = ((zs.take i).filter fun z => !decide (z ∈ us)) ++ if z ∈ us then [] else [z] := by
  rw [List.take_add_one, h, List.filter_append]
  by_cases e : z ∈ us <;> simp [e]
theorem one_left {zs us : List Str} (nd : zs.Nodup) (hl : us.length < zs.length) : ∃ z r, (zs.filter fun z => !decide (z ∈ us)) = z :: r ∧ z ∈ zs ∧ z ∉ us := by
  cases h : zs.filter fun z => !decide (z ∈ us) with
  | cons z r =>
    have m : z ∈ zs.filter fun z => !decide (z ∈ us) := by rw [h]; exact List.mem_cons_self
    have m := List.mem_filter.mp m
    exact ⟨z, r, rfl, m.1, by simpa using m.2⟩
  | nil =>
    have all : ∀ z ∈ zs, z ∈ us := fun z hz => Classical.byContradiction fun hn => by
      have m : z ∈ zs.filter fun z => !decide (z ∈ us) := List.mem_filter.mpr ⟨hz, by simp [hn]⟩
      rw [h] at m
      cases m
    have := (List.subset_def.mpr fun {a} h => all a h : zs ⊆ us)
    have := List.Nodup.length_le_of_subset nd this
    omega
theorem ixXa {K : PySem.W.Frag} {F H : Hp} {Q : VK} {v : V} {ds : List PyData} {z : Int} (h : Z.DX K F v (.list ds)) (s : Same F H) (h0 : 0 ≤ z) (h1 : z < ds.length) (k : ∀ w d, d ∈ ds → Z.DX K F w d → Q w H) : rIxL K v (.int z) H Q := by
  obtain ⟨a, vs, rfl, g1, g2⟩ := Z.dx_lst h
  have hl := Z.dxs_len g2
  have e : vs[z.toNat]? = some (vs[z.toNat]'(by omega)) := List.getElem?_eq_getElem _
  obtain ⟨d, e1, e2⟩ := Z.dxs_ix g2 e
  refine ⟨a, vs, z, _, rfl, rfl, s.seq g1, ?_, k _ d (List.mem_of_getElem? e1) e2⟩
  have := atI_nat e
  rwa [show ((z.toNat : Nat) : Int) = z by omega] at this

theorem not_page_nil : NotPage ("" : Str) := by
  unfold NotPage
  decide +kernel
theorem held0 {ts : List Tab} : HeldOk ts (List.replicate 8 ("" : Str)) (List.replicate 8 none) where
  n := List.length_replicate
  nh := List.length_replicate
  at_ := fun i z h e1 e2 => by
    cases List.eq_of_mem_replicate (List.mem_of_getElem? e1)
    cases List.eq_of_mem_replicate (List.mem_of_getElem? e2)
    exact not_page_nil
  sm := fun z hz => by cases List.eq_of_mem_replicate hz; exact Nat.zero_le _
  so := fun z hz => by cases List.eq_of_mem_replicate hz; decide +kernel
def LInv (K : PySem.W.Frag) (A : Adr) (ts : List Tab) (p ha : Addr) (F H : Hp) : Prop := ∃ F' d hv hl, Same F F' ∧ d.p = p ∧ d.due = none ∧ d.down = false ∧ HeldOk ts d.pages hl ∧ DpAll K F' hv (hl.map heldD) ∧ Z.Hs ((ha, .lst hv) :: dc A.Disk d) F' H
def spLaw (K : PySem.W.Frag) : Sp := fun vs H Q _ => ∃ (a : Addr) (ns : List Int), vs = [.ref a] ∧ SqL K H a (ns.map V.int) ∧ ns.length ≤ 63 ∧ ∀ H', Q (.bl true) H'
theorem ok_law {f : Addr} {fd : FuncData} (F : Fun K "law" "law" s_law f fd) (T : Txt K mg A) : FnOk P w K mg base CX0 9 f fd ["_law_script"] (spLaw K) := by
  refine F.ok sc_law (fun vs H Q E h => ?_) (fun cdv Ar outer s H vs Q E hr h => ?_)
  · obtain ⟨a, ns, rfl, _⟩ := h
    rfl
  · obtain ⟨a, ns, rfl, hS, hlen, k⟩ := h
    have nd := sc_law.nd
    have hu := hu_of hr
    have ⟨fd_law_schema, G_law_schema, b_law_schema⟩ := ok_law_schema (P := P) (w := w) (base := base) T
    have ⟨fd_law_cell, G_law_cell, b_law_cell⟩ := ok_law_cell (P := P) (w := w) (base := base) T
    have ⟨fd_Schema___init__, G_Schema___init__, b_Schema___init__, ds_Schema___init__, vd_Schema___init__, bd_Schema___init__⟩ := ok_Schema___init__ (P := P) (w := w) (base := base) T
    have ⟨fd_Disk___init__, G_Disk___init__, b_Disk___init__⟩ := ok_Disk___init__ (P := P) (w := w) (base := base) T
    have ⟨fd_law_right, G_law_right, b_law_right⟩ := ok_law_right (P := P) (w := w) (base := base) T
    have ⟨fd_law_draws, G_law_draws, b_law_draws⟩ := ok_law_draws (P := P) (w := w) (base := base) T
    have ⟨fd_law_put, G_law_put, b_law_put⟩ := ok_law_put (P := P) (w := w) (base := base) T
    have ⟨fd_law_late, G_law_late, b_law_late⟩ := ok_law_late (P := P) (w := w) (base := base) T
    have ⟨fd_law_names, G_law_names, b_law_names⟩ := ok_law_names (P := P) (w := w) (base := base) T
    have ⟨fd_Disk_writes, G_Disk_writes, b_Disk_writes⟩ := ok_Disk_writes (P := P) (w := w) (base := base) T
    have ⟨fd_law_refused, G_law_refused, b_law_refused⟩ := ok_law_refused (P := P) (w := w) (base := base) T
    refine ⟨_, (pss_cons (ps_asg (pe_call G_law_schema (hr.mono (by decide)) (by rfl) T.g_law_schema T.d_law_schema.kp b_law_schema .nil pass0 (pa_cons (pe_call G_law_cell (hr.mono (by decide)) (by rfl) T.g_law_cell T.d_law_cell.kp b_law_cell .nil pass0 (pa_cons (pv 0) (pa_cons pe_int pa_nil))) pa_nil)) (pg_tup rfl (pgs_cons (pg_name (i := 1) nd rfl (Or.inr rfl)) (pgs_cons (pg_name (i := 2) nd rfl (Or.inl rfl)) pgs_nil))))
      (pss_cons (ps_set (i := 3) nd rfl (Or.inl rfl) (pe_make T.mk_Schema G_Schema___init__ (hr.mono (by decide)) rfl T.g_Schema b_Schema___init__ .nil (passes_call (E := fun _ _ _ => False) takes0 (fun _ _ _ _ h => h)) (pa_cons (pv 1) (pa_cons (pv 2) pa_nil))))
      (pss_cons (ps_set (i := 4) nd rfl (Or.inl rfl) (pe_make0 T.mk_Disk G_Disk___init__ (hr.mono (by decide)) rfl T.g_Disk b_Disk___init__ .nil pass0))
      (pss_cons (ps_set (i := 5) nd rfl (Or.inl rfl) (pe_op op_rep (pe_lst (pa_cons pe_non pa_nil)) pe_int))
      (pss_cons (ps_if (pt_not (pt_val (pe_call G_law_right (hr.mono (by decide)) (by rfl) T.g_law_right T.d_law_right.kp b_law_right .nil pass0 (pa_cons (pv 4) (pa_cons (pv 3) (pa_cons (pv 1) (pa_cons (pv 5) pa_nil))))))) (pss_one (ps_ret pe_bl)) pss_nil)
      (pss_cons (ps_for PassesOwn.never rfl (pi_enum (by rfl) T.b_enumerate (pa_cons (pe_op op_cat (pe_lst (pa_cons (pe_call G_law_cell (hr.mono (by decide)) (by rfl) T.g_law_cell T.d_law_cell.kp b_law_cell .nil pass0 (pa_cons (pv 0) (pa_cons pe_int pa_nil))) pa_nil)) (pe_slice sl_list (pv 0) (po_some pe_int) (po_some pe_int))) pa_nil)) (pg_tup rfl (pgs_cons (pg_name (i := 6) nd rfl (Or.inl rfl)) (pgs_cons (pg_name (i := 7) nd rfl (Or.inl rfl)) pgs_nil))) (pss_cons (ps_set (i := 8) nd rfl (Or.inl rfl) (pe_call G_law_draws (hr.mono (by decide)) (by rfl) T.g_law_draws T.d_law_draws.kp b_law_draws .nil pass0 (pa_cons (pv 7) (pa_cons pe_int pa_nil))))
      (Evl.pss_cut (ps_if (pt_cmpR op_eq (pe_op op_mod (pe_ix ix_list (pv 8) pe_int (fun _ _ => rfl)) pe_int) pe_int (nomark _)) (pss_one (ps_expr (pe_call G_law_put (hr.mono (by decide)) (by rfl) T.g_law_put T.d_law_put.kp b_law_put .nil pass0 (pa_cons (pv 4) (pa_cons (pv 1) (pa_cons (pv 5) (pa_cons (pv 8) pa_nil))))))) (pss_one (ps_if (pt_not (pt_val (pe_call G_law_late (hr.mono (by decide)) (by rfl) T.g_law_late T.d_law_late.kp b_law_late .nil pass0 (pa_cons (pv 4) (pa_cons (pv 3) (pa_cons (pv 1) (pa_cons (pv 5) (pa_cons (pv 8) pa_nil)))))))) (pss_one (ps_ret pe_bl)) pss_nil)))
      (pss_cons (ps_set (i := 9) nd rfl (Or.inl rfl) (pe_ix ix_list (pe_lc (own := [("_law_name", 11)]) rfl nd (pi_list (pe_call G_law_names (hr.mono (by decide)) (by rfl) T.g_law_names T.d_law_names.kp b_law_names .nil pass0 (pa_cons (pe_ix ix_list (pv 8) pe_int (fun _ _ => rfl)) (pa_cons pe_int pa_nil)))) (blkOk_by (own := [("_law_name", 11)]) (N := ["_law_script", "_law_tables", "_law_orders", "_law_schema_here", "_law_disk", "_law_held", "_law_k", "_law_cell_here", "_law_draws_here", "_law_lost", "_law_writes", "_law_name", "_law_one", "_law_columns"]) (sc := defScope s_law) (by decide +kernel)) (fun _ _ _ _ _ => pg_name (i := 11) nd rfl (Or.inl rfl)) (fun _ _ _ _ _ => pts_one (pt_cmpR (op_notIn_seqK (K := K) rfl) (pv 11) (pe_lc (own := [("_law_one", 12), ("_law_columns", 13)]) rfl nd (pi_listK (K := K) rfl (pv 1)) (blkOk_by (own := [("_law_one", 12), ("_law_columns", 13)]) (N := ["_law_script", "_law_tables", "_law_orders", "_law_schema_here", "_law_disk", "_law_held", "_law_k", "_law_cell_here", "_law_draws_here", "_law_lost", "_law_writes", "_law_name", "_law_one", "_law_columns"]) (sc := { kind := .function, names := [(".0", .local), ("_law_name", .local), ("_law_tables", .cell)], isGenerator := false, isCoroutine := false }) (by decide +kernel)) (fun _ _ _ _ _ => (pg_tupK (K := K) (n := 2) rfl rfl (pgs_cons (pg_name (i := 12) nd rfl (Or.inl rfl)) (pgs_cons (pg_name (i := 13) nd rfl (Or.inl rfl)) pgs_nil)))) (fun _ _ _ _ _ => pts_nil) (fun _ _ _ _ _ => (pv 12))) (by rfl))) (fun _ _ _ _ _ => (pv 11))) pe_int (fun _ _ => rfl)))
      (pss_cons (ps_set (i := 10) nd rfl (Or.inl rfl) (pe_meth0 (pv 4) T.c_Disk T.m_Disk_writes G_Disk_writes (hr.mono (by decide)) b_Disk_writes .nil pass0))
      (pss_cons (ps_if (pt_not (pt_val (pe_call G_law_refused (hr.mono (by decide)) (by rfl) T.g_law_refused T.d_law_refused.kp b_law_refused .nil pass0 (pa_cons (pv 4) (pa_cons (pv 3) (pa_cons (pe_op op_mod (pv 6) pe_int) (pa_cons (pe_ix ix_list (pe_lst (pa_cons (pv 9) (pa_cons pe_str (pa_cons pe_non (pa_cons pe_int (pa_cons (pe_tup (pa_cons pe_str pa_nil)) (pa_cons (pe_lst (pa_cons (pv 9) pa_nil)) (pa_cons pe_dnewK pa_nil)))))))) (pe_op op_mod (pe_ix ix_list (pv 8) pe_int (fun _ _ => rfl)) pe_int) (fun _ _ => rfl)) pa_nil))))))) (pss_one (ps_ret pe_bl)) pss_nil)
      (pss_one (ps_if (PW.pt (pw_or (pt_cmpR op_ne (pe_meth0 (pv 4) T.c_Disk T.m_Disk_writes G_Disk_writes (hr.mono (by decide)) b_Disk_writes .nil pass0) (pv 10) (nomark _)) (pw_or1 (pt_not (pt_val (pe_call G_law_right (hr.mono (by decide)) (by rfl) T.g_law_right T.d_law_right.kp b_law_right .nil pass0 (pa_cons (pv 4) (pa_cons (pv 3) (pa_cons (pv 1) (pa_cons (pv 5) pa_nil)))))))))) (pss_one (ps_ret pe_bl)) pss_nil))))))))
      (pss_one (ps_ret pe_bl)))))))), ?_⟩
    simp only [cxOf, Cx.nox, L2.start, List.map_cons, List.map_nil, List.length_cons, List.length_nil, Nat.reduceAdd, Nat.reduceSub, List.replicate, List.cons_append, List.nil_append]
    have W0 := Z.Ws.init (Same.refl H)
    walk_at "z"
    refine ⟨a, ns, 0, rfl, hS, hlen, by decide, fun c0 => ?_⟩
    walk_at "z"
    refine ⟨H, c0, rfl, Same.refl _, fun F1 H1 r1 ts os tk ok g1 hr1 => ?_⟩
    have W1 := W0.ext g1
    walk_at "z"
    refine Z.gtupD hr1 W1.fh fun zs hzs => ?_
    obtain ⟨tv, ov, rfl, ht, hov⟩ := Z.dpa2 hzs
    walk_at "z"
    intro x dx nx ndx ne
    have M0 := ws_make (C := A.Schema) W1.fh nx ndx ne
    refine ⟨F1, H1, x, dx, tv, ov, _, _, rfl, M0, Z.dx_of ht, fit_tabs tk, Z.dx_of hov, fit_ords tk ok, fun ts' os' h1 h2 F' H6' q kvs ko W' s' hkv hko => ?_, fun hh => absurd ⟨.inl rfl, ok⟩ ((hh ts (tabs_acc tk)).2 os)⟩
    cases accT_one h1 (tabs_acc tk)
    have ok' : OrdsOk ts os' := by
      rcases h2 with ⟨e, _⟩ | ⟨_, h⟩
      · cases e
      · exact h.2
    refine ⟨rfl, ?_⟩
    obtain ⟨Fa, Wa, sa, ga⟩ := W'.frz 0 rfl
    obtain ⟨Fb, Wb, sb, gb⟩ := Wa.frz 0 rfl
    have hs : IsSch K A Fb (.ref x) ts os' := ⟨x, dx, q, kvs, ko, rfl, sb _ _ ga, gb, hkv.same (sa.trans sb), Z.dp_same (sa.trans sb) hko, tk, ok'⟩
    have s1b : Same F1 Fb := s'.trans (sa.trans sb)
    have htb : Dp K Fb tv (.list (ts.map tabD)) := Z.dp_same s1b ht
    have hSb : SqL K Fb a (ns.map V.int) := (g1.f.trans s1b).seq hS
    have tlo := tk.lo
    have thi := tk.hi
    obtain ⟨ta, tx, rfl, hta, htx⟩ := Z.dp_lst htb
    have htl := Z.dpa_len htx
    rw [List.length_map] at htl
    walk_at "z"
    intro y dy ny ndy ney
    have D0 := ws_make (C := A.Disk) Wb.fh ny ndy ney
    refine ⟨Fb, y, dy, rfl, D0.hs, fun H7 d ed er eg en edue edown S7 => ⟨rfl, ?_⟩⟩
    subst ed
    walk_at "z"
    have W7 := ws0 S7
    refine Z.lstW W7 (fun q8 H8 W8 => ?_)
    refine ⟨q8, 8, _, rfl, rfl, W8.at 0 rfl, by decide, by decide, by decide, fun ha hha => ?_⟩
    have W9 : Z.Ws ((ha, .lst (List.replicate 8 V.non)) :: (q8, _) :: dc A.Disk d) N0 N0 Fb _ := W8.new (o := .lst (List.replicate (8 : Int).toNat [V.non]).flatten) hha
    have W9 := W9.sub (List.Sublist.cons₂ _ (List.sublist_cons_self _ _))
    generalize upd H8 ha _ = H9 at W9 ⊢
    walk_at "z"
    have ho0 : HeldOk ts d.pages (List.replicate 8 none) := eg ▸ held0
    have hhv0 : DpAll K Fb (List.replicate 8 V.non) ((List.replicate 8 (none : Option Pg)).map heldD) := .cons .non (.cons .non (.cons .non (.cons .non (.cons .non (.cons .non (.cons .non (.cons .non .nil)))))))
    refine ⟨Fb, d, .ref x, .ref ta, ha, ts, os', _, _, rfl, W9.fh, fun p o m => W9.sees p o (List.mem_cons_of_mem _ m), hs, tk, htb, ho0, W9.at 0 rfl, hhv0, fun H10 s10 => ?_⟩
    have W10 := W9.exts s10
    walk_at "z"
    refine Z.forE ?_
    walk_at "z"
    refine ⟨a, ns, 1, rfl, W10.fh.seq hSb, hlen, by decide, fun c1 => ?_⟩
    walk_at "z"
    refine Z.lstW W10 fun p2 H2 W2 => ?_
    walk_at "z"
    refine ⟨a, _, rfl, W2.fh.seq hSb, fun p3 hp3 => ?_⟩
    obtain ⟨cs, ec, hcl⟩ := cutV_int ns (some 2) (some 22)
    rw [ec]
    have W3 := W2.new (o := .lst (cs.map V.int)) hp3
    generalize upd H2 p3 (.lst (cs.map V.int)) = H3 at W3 ⊢
    refine Z.catW W3 (W3.at 1 rfl) (W3.at 0 rfl) (by simp only [List.length_cons, List.length_nil, List.length_map]; omega) fun p4 H4 W4 => ?_
    obtain ⟨F4, W4, s4, g4⟩ := W4.frz 0 rfl
    have Wt := W4.sub (List.drop_sublist 2 _)
    have W4 : Z.Ws ((ha, .lst (List.replicate 8 V.non)) :: dc A.Disk d) N0 N0 F4 H4 := Wt
    walk_at "z"
    have s4b : Same Fb F4 := s4
    generalize hp : d.p = dp at *
    refine ⟨p4, _, rfl, W4.fh.seq (SqL.of g4), for_it walk_enum (fun i σ H' => (∃ v6 v7 v8 v9 v10 v11 v12 v13, σ = [some (.ref a), some (.ref ta), some ov, some (.ref x), some (.ref dp), some (.ref ha), v6, v7, v8, v9, v10, v11, v12, v13]) ∧ LInv K A ts dp ha F4 H') ⟨⟨_, _, _, _, _, _, _, _, rfl⟩, F4, d, _, _, Same.refl _, hp, edue, edown, ho0, Z.dpa_same s4b hhv0, W4.hs⟩ (fun i σ H' hi P => by obtain ⟨_, F', d', _, _, sF, _, _, _, _, _, S⟩ := P; exact (sF.trans S.fr).seq (SqL.of g4)) ?_ ?_⟩
    · rintro i x0 σ H5 H6 hi ⟨⟨v6, v7, v8, v9, v10, v11, v12, v13, rfl⟩, F5, d5, hv5, hl5, s5, ep5, edue5, edown5, ho5, hhv5, S5⟩ ⟨T1, x1, x2, rfl, hT, rfl, e1, e2⟩
      cases e1
      have e2 : ([V.int c1] ++ cs.map V.int)[i]? = some x2 := e2
      obtain ⟨c, rfl⟩ : ∃ c, x2 = .int c := by
        rcases List.mem_append.mp (List.mem_of_getElem? e2) with m | m
        · exact ⟨c1, List.mem_singleton.mp m⟩
        · obtain ⟨y, _, rfl⟩ := List.mem_map.mp m
          exact ⟨y, rfl⟩
      have S6 := S5.ext (Z.same_new (o := .tup [.int (i : Nat), .int c]) hT)
      have gT : upd H5 T1 (.tup [.int (i : Nat), .int c]) T1 = _ := upd_same
      generalize upd H5 T1 (.tup [.int (i : Nat), .int c]) = H6 at S6 gT ⊢
      refine ⟨T1, _, rfl, SqT.of gT, rfl, ?_⟩
      have W6 := ws0 S6
      have sb5 := s4b.trans s5
      walk_at "z"
      refine ⟨F5, c, 9, rfl, W6.fh, by decide, fun F7 H7 dv xs hxl pos g7 hdv => ?_⟩
      have W7 := W6.ext g7
      have sb7 := sb5.trans g7.f
      have hhv7 := Z.dpa_same g7.f hhv5
      have pos' : ∀ x ∈ xs, 0 ≤ x := fun x hx => (pos x hx).1
      obtain ⟨y0, y1, y2, y3, y4, y5, y6, y7, y8, rfl⟩ : ∃ x0 x1 x2 x3 x4 x5 x6 x7 x8, xs = [x0, x1, x2, x3, x4, x5, x6, x7, x8] := by
        match xs, hxl with
        | [a, b, c, d, e, f, g, h, i], _ => exact ⟨_, _, _, _, _, _, _, _, _, rfl⟩
      have q6 := pos' y6 (by simp)
      have q7 := pos' y7 (by simp)
      walk_at "z"
      refine Z.cut (M := fun σ' H' => σ' = [some (.ref a), some (.ref ta), some ov, some (.ref x), some (.ref dp), some (.ref ha), some (.int (i : Nat)), some (.int c), some dv, v9, v10, v11, v12, v13] ∧ LInv K A ts dp ha F7 H') ?_ ?_
      · walk_at "z"
        refine Z.ixD hdv W7.fh 8 rfl fun w hw => ?_
        cases Z.dp_int hw
        walk_at "z"
        have hdp7 : H7 d5.p = _ := W7.at 1 rfl
        refine Z.iteD (fun he => ?_) (fun he => ?_)
        · walk_at "z"
          refine ⟨F7, d5, .ref ta, dv, ha, ts, hv5, hl5, _, by rw [ep5]; rfl, W7.hs, tk, Z.dp_same sb7 htb, ho5, hhv7, hdv, rfl, pos', edue5, edown5, fun F' H' d' hv' hl' s1 ep1 ed1 ew1 ho1 hh1 S1 => ?_⟩
          walk_at "z"
          exact ⟨rfl, F', d', hv', hl', s1, ep1.trans ep5, ed1, ew1, ho1, hh1, S1⟩
        · walk_at "z"
          refine ⟨F7, d5, .ref x, .ref ta, dv, ha, ts, os', hv5, hl5, _, by rw [ep5]; rfl, W7.hs, hs.same sb7, tk, Z.dp_same sb7 htb, ho5, hhv7, hdv, rfl, pos', edue5, edown5, fun F' H' d' hv' hl' s1 ep1 ed1 ew1 ho1 hh1 S1 => ?_⟩
          walk_at "z"
          exact ⟨rfl, F', d', hv', hl', s1, ep1.trans ep5, ed1, ew1, ho1, hh1, S1⟩
      rintro σ8 H8 ⟨rfl, F8, d8, hv8, hl8, s78, ep8, edue8, edown8, ho8, hhv8, S8⟩
      have W8 := ws0 S8
      have sb8 := sb7.trans s78
      have hdv8 := Z.dp_same s78 hdv
      walk_at "z"
      refine Z.ixD hdv8 W8.fh 7 rfl fun w hw => ?_
      cases Z.dp_int hw
      walk_at "z"
      refine ⟨F8, y7, 6, rfl, W8.fh, by decide, fun F9 H9 nv zs hzl hzn hznd g9 hnv => ?_⟩
      obtain ⟨za, zx, rfl, hza, hzx⟩ := Z.dp_lst hnv
      cases Z.dpa_strs hzx
      have W9 := W8.ext g9
      have sb9 := sb8.trans g9.f
      walk_at "z"
      refine ⟨za, rfl, ⟨_, W9.fh.seq hza⟩, fun D hD => ?_⟩
      refine lc_it walk_list (fun j H' => Z.Ws ((D, .lst (((zs.take j).filter fun z => !decide (z ∈ ts.map (·.1))).map .str)) :: (ha, .lst hv8) :: dc A.Disk d8) N0 N0 F9 H') (W9.new hD) (fun j H' hj W => W.fh.seq hza) ?_ ?_
      · rintro j x' H10 H11 hj W10 ⟨rfl, hx⟩
        rw [List.getElem?_map] at hx
        obtain ⟨z, hzi, rfl⟩ := Option.map_eq_some_iff.mp hx
        refine ⟨rfl, ?_⟩
        walk_at "z"
        refine ⟨ta, rfl, ⟨_, W10.fh.seq (sb9.seq hta)⟩, fun D2 hD2 => ?_⟩
        refine lc_it walk_list (fun m H' => Z.Ws ((D2, .lst (((ts.take m).map (·.1)).map .str)) :: (D, .lst (((zs.take j).filter fun z => !decide (z ∈ ts.map (·.1))).map .str)) :: (ha, .lst hv8) :: dc A.Disk d8) N0 N0 F9 H') (W10.new hD2) (fun j H' hj W => W.fh.seq (sb9.seq hta)) ?_ ?_
        · rintro m z' H12 H13 hm W12 ⟨rfl, hz'⟩
          obtain ⟨d', e1, e2⟩ := Z.dpa_ix htx hz'
          rw [List.getElem?_map] at e1
          obtain ⟨t', hti, rfl⟩ := Option.map_eq_some_iff.mp e1
          refine Z.gtupD e2 (sb9.trans W12.fh) fun us hus => ?_
          obtain ⟨u1, u2, rfl, hu1, hu2⟩ := Z.dpa2 hus
          cases Z.dp_str hu1
          walk_at "z"
          refine ⟨rfl, ?_⟩
          walk_at "z"
          refine ⟨_, W12.at 0 rfl, by rw [List.length_map, List.length_map, List.length_take]; exact Nat.lt_of_le_of_lt (show _ ≤ 1000 by omega) (by decide), ?_⟩
          rw [List.take_add_one, hti, List.map_append, List.map_append]
          exact W12.set 0 rfl _
        rintro H12 W12
        rw [htl, List.take_length] at W12
        walk_at "z"
        refine notInS (SqL.of (W12.at 0 rfl)) ?_
        have W12 := W12.sub (List.sublist_cons_self _ _)
        refine ⟨_, rfl, ?_⟩
        have el := filt_step (us := ts.map (·.1)) hzi
        refine Z.iteN (fun h => ?_) (fun h => ?_)
        · walk_at "z"
          refine ⟨_, W12.at 0 rfl, ?_, ?_⟩
          · rw [List.length_map]
            exact Nat.lt_of_le_of_lt (Nat.le_trans (List.length_filter_le _ _) (show _ ≤ 1000 by rw [List.length_take]; omega)) (by decide)
          · rw [el, if_neg h, List.map_append]
            exact W12.set 0 rfl _
        · rw [el, if_pos h, List.append_nil]
          exact W12
      rintro H10 W10
      rw [List.length_map, List.take_length] at W10
      obtain ⟨nz, nr, en, nz1, nz2⟩ := one_left (us := ts.map (·.1)) hznd (by rw [List.length_map]; omega)
      rw [en] at W10
      walk_at "z"
      refine Z.ixL (i := 0) (SqL.of (W10.at 0 rfl)) rfl ?_
      have W11 : Z.Ws ((ha, .lst hv8) :: dc A.Disk d8) N0 N0 F9 H10 := W10.sub (List.sublist_cons_self _ _)
      have hdp11 : H10 d8.p = _ := W11.at 1 rfl
      rw [ep8] at hdp11
      walk_at "z"
      refine ⟨d8, by rw [ep8]; rfl, fun p o m => W11.sees p o (List.mem_cons_of_mem _ m), ?_⟩
      walk_at "z"
      refine Z.tupX (K := K) W11 (.cons (.str _) .nil) fun r1 F12 H12 W12 s12 h12 => ?_
      walk_at "z"
      refine Z.lstX (K := K) W12 (.cons (.str nz) .nil) fun r2 F13 H13 W13 s13 h13 => ?_
      walk_at "z"
      intro r3 hr3
      have W14 := W13.dat (o := .dK []) hr3
      have s14 := Z.same_new (o := .dK []) (W13.freeF hr3)
      have h14 : Z.DX K (upd F13 r3 (.dK [])) (.ref r3) (.dict []) := .dic upd_same
      generalize upd H13 r3 (.dK []) = H14 at W14 ⊢
      generalize upd F13 r3 (.dK []) = F14 at W14 s14 h14
      walk_at "z"
      refine Z.lstX (K := K) W14 (.cons (.str _) (.cons (.str _) (.cons .non (.cons (.int _) (.cons (Z.dx_same (s13.trans s14) h12) (.cons (Z.dx_same s14 h13) (.cons h14 .nil))))))) fun r4 F15 H15 W15 s15 h15 => ?_
      have W15 : Z.Ws ((ha, .lst hv8) :: dc A.Disk d8) N0 N0 F15 H15 := W15
      have s815 : Same F8 F15 := g9.f.trans (s12.trans (s13.trans (s14.trans s15)))
      have sb15 := sb8.trans s815
      have hdv15 := Z.dp_same s815 hdv8
      walk_at "z"
      refine Z.ixD hdv15 W15.fh 6 rfl fun w hw => ?_
      cases Z.dp_int hw
      walk_at "z"
      refine ixXa h15 W15.fh (Int.emod_nonneg _ (by decide)) (Int.emod_lt_of_pos _ (by decide)) fun u dt hdt hu => ?_
      walk_at "z"
      obtain ⟨way, eway⟩ : ∃ way : Nat, (i : Int) % 3 = (way : Int) := ⟨((i : Int) % 3).toNat, by omega⟩
      rw [eway]
      have hno : NoTab ts dt ∧ SmallS dt := by
        have nn := hzn nz nz1
        simp only [List.mem_cons, List.not_mem_nil, or_false] at hdt
        rcases hdt with rfl | rfl | rfl | rfl | rfl | rfl | rfl
        · exact ⟨fun t ht e => nz2 (by cases e; exact List.mem_map.mpr ⟨t, ht, rfl⟩), by have := nn.2.1; show Str.length _ ≤ _; omega⟩
        · exact ⟨fun t ht e => by have := (tk.nm t ht).1.1; rw [← PyData.str.inj e] at this; exact absurd this (by decide), by show Str.length _ ≤ _; decide⟩
        · exact ⟨fun t ht e => (nomatch e), trivial⟩
        · exact ⟨fun t ht e => (nomatch e), trivial⟩
        · exact ⟨fun t ht e => (nomatch e), trivial⟩
        · exact ⟨fun t ht e => (nomatch e), trivial⟩
        · exact ⟨fun t ht e => (nomatch e), trivial⟩
      obtain ⟨F16, S16, s16, g16, back⟩ := hs_tail W15.hs
      refine ⟨F16, d8, .ref x, u, way, dt, ts, os', by rw [ep8]; rfl, S16, hs.same (sb15.trans s16), Z.dx_same s16 hu, hno.2, hno.1, fun H17 s17 => ?_⟩
      have W17 := W15.exts s17
      have hdp17 : H17 d8.p = _ := W17.at 1 rfl
      rw [ep8] at hdp17
      walk_at "z"
      refine ⟨d8, by rw [ep8]; rfl, fun p o m => W17.sees p o (List.mem_cons_of_mem _ m), ?_⟩
      walk_at "z"
      refine ⟨F15, d8, .ref x, .ref ta, ha, ts, os', hv8, hl8, by rw [ep8]; rfl, W17.fh, fun p o m => W17.sees p o (List.mem_cons_of_mem _ m), hs.same sb15, tk, Z.dp_same sb15 htb, ho8, W17.at 0 rfl, Z.dpa_same s815 hhv8, fun H18 s18 => ?_⟩
      walk_at "z"
      exact ⟨⟨_, _, _, _, _, _, _, _, rfl⟩, F15, d8, hv8, hl8, s5.trans (g7.f.trans (s78.trans s815)), ep8, edue8, edown8, ho8, Z.dpa_same s815 hhv8, (W17.exts s18).hs⟩
    · rintro σ H5 ⟨⟨v6, v7, v8, v9, v10, v11, v12, v13, rfl⟩, _⟩
      walk_at "z"
      exact k _

theorem all_mk {l : PySem.W.OpenLaw} {w : World} {K : PySem.W.Frag} {h : Heap} {mg : Str → Option Value} {fa : Addr} (X : K.In h) (G : h.Ns mainGlobals mg) (hfa : mg "law" = some (.ref fa))
    {CSchema CDisk CStoreError CNoSchema CFell CNoTable f_is_name f_is_kind f_value_text f_figures_in f_value_in f_is_row_of f_need_pair f_columns_in f_tables_in f_orders_in f_Schema___init__ D_Schema___init__ f_Schema_need_table f_Schema_table_names f_Schema_columns_of f_NoTable___init__ f_Disk___init__ f_Disk_coming f_Disk_page f_Disk_writes f_Disk_fall_at f_Disk_power f_Disk_put_page f_values_in f_page_text f_count_from f_rows_in f_page_in f_slots_of f_newest f_late_page f_law_cell f_law_draws f_law_names f_law_schema f_law_value f_law_row f_law_table_rows f_law_page_text f_law_newest f_law_right f_law_put f_law_late f_law_refused f_law : Addr} {od_is_name an_is_name od_is_kind an_is_kind od_value_text an_value_text od_figures_in an_figures_in od_value_in an_value_in od_is_row_of an_is_row_of od_need_pair an_need_pair od_columns_in an_columns_in od_tables_in an_tables_in od_orders_in an_orders_in od_Schema___init__ an_Schema___init__ Dod_Schema___init__ od_Schema_need_table an_Schema_need_table od_Schema_table_names an_Schema_table_names od_Schema_columns_of an_Schema_columns_of od_NoTable___init__ an_NoTable___init__ od_Disk___init__ an_Disk___init__ od_Disk_coming an_Disk_coming od_Disk_page an_Disk_page od_Disk_writes an_Disk_writes od_Disk_fall_at an_Disk_fall_at od_Disk_power an_Disk_power od_Disk_put_page an_Disk_put_page od_values_in an_values_in od_page_text an_page_text od_count_from an_count_from od_rows_in an_rows_in od_page_in an_page_in od_slots_of an_slots_of od_newest an_newest od_late_page an_late_page od_law_cell an_law_cell od_law_draws an_law_draws od_law_names an_law_names od_law_schema an_law_schema od_law_value an_law_value od_law_row an_law_row od_law_table_rows an_law_table_rows od_law_page_text an_law_page_text od_law_newest an_law_newest od_law_right an_law_right od_law_put an_law_put od_law_late an_law_late od_law_refused an_law_refused od_law an_law : Option Addr} {sl_is_name sl_is_kind sl_value_text sl_figures_in sl_value_in sl_is_row_of sl_need_pair sl_columns_in sl_tables_in sl_orders_in sl_Schema___init__ Dsl_Schema___init__ sl_Schema_need_table sl_Schema_table_names sl_Schema_columns_of sl_NoTable___init__ sl_Disk___init__ sl_Disk_coming sl_Disk_page sl_Disk_writes sl_Disk_fall_at sl_Disk_power sl_Disk_put_page sl_values_in sl_page_text sl_count_from sl_rows_in sl_page_in sl_slots_of sl_newest sl_late_page sl_law_cell sl_law_draws sl_law_names sl_law_schema sl_law_value sl_law_row sl_law_table_rows sl_law_page_text sl_law_newest sl_law_right sl_law_put sl_law_late sl_law_refused sl_law : Array (Option Value)} {oc_is_name kV_is_name dc_is_name pm_is_name cd_is_name ct_is_name oc_is_kind kV_is_kind dc_is_kind pm_is_kind cd_is_kind ct_is_kind oc_value_text kV_value_text dc_value_text pm_value_text cd_value_text ct_value_text oc_figures_in kV_figures_in dc_figures_in pm_figures_in cd_figures_in ct_figures_in oc_value_in kV_value_in dc_value_in pm_value_in cd_value_in ct_value_in oc_is_row_of kV_is_row_of dc_is_row_of pm_is_row_of cd_is_row_of ct_is_row_of oc_need_pair kV_need_pair dc_need_pair pm_need_pair cd_need_pair ct_need_pair oc_columns_in kV_columns_in dc_columns_in pm_columns_in cd_columns_in ct_columns_in oc_tables_in kV_tables_in dc_tables_in pm_tables_in cd_tables_in ct_tables_in oc_orders_in kV_orders_in dc_orders_in pm_orders_in cd_orders_in ct_orders_in oc_Schema___init__ kV_Schema___init__ dc_Schema___init__ pm_Schema___init__ cd_Schema___init__ ct_Schema___init__ Doc_Schema___init__ oc_Schema_need_table kV_Schema_need_table dc_Schema_need_table pm_Schema_need_table cd_Schema_need_table ct_Schema_need_table oc_Schema_table_names kV_Schema_table_names dc_Schema_table_names pm_Schema_table_names cd_Schema_table_names ct_Schema_table_names oc_Schema_columns_of kV_Schema_columns_of dc_Schema_columns_of pm_Schema_columns_of cd_Schema_columns_of ct_Schema_columns_of oc_NoTable___init__ kV_NoTable___init__ dc_NoTable___init__ pm_NoTable___init__ cd_NoTable___init__ ct_NoTable___init__ oc_Disk___init__ kV_Disk___init__ dc_Disk___init__ pm_Disk___init__ cd_Disk___init__ ct_Disk___init__ oc_Disk_coming kV_Disk_coming dc_Disk_coming pm_Disk_coming cd_Disk_coming ct_Disk_coming oc_Disk_page kV_Disk_page dc_Disk_page pm_Disk_page cd_Disk_page ct_Disk_page oc_Disk_writes kV_Disk_writes dc_Disk_writes pm_Disk_writes cd_Disk_writes ct_Disk_writes oc_Disk_fall_at kV_Disk_fall_at dc_Disk_fall_at pm_Disk_fall_at cd_Disk_fall_at ct_Disk_fall_at oc_Disk_power kV_Disk_power dc_Disk_power pm_Disk_power cd_Disk_power ct_Disk_power oc_Disk_put_page kV_Disk_put_page dc_Disk_put_page pm_Disk_put_page cd_Disk_put_page ct_Disk_put_page oc_values_in kV_values_in dc_values_in pm_values_in cd_values_in ct_values_in oc_page_text kV_page_text dc_page_text pm_page_text cd_page_text ct_page_text oc_count_from kV_count_from dc_count_from pm_count_from cd_count_from ct_count_from oc_rows_in kV_rows_in dc_rows_in pm_rows_in cd_rows_in ct_rows_in oc_page_in kV_page_in dc_page_in pm_page_in cd_page_in ct_page_in oc_slots_of kV_slots_of dc_slots_of pm_slots_of cd_slots_of ct_slots_of oc_newest kV_newest dc_newest pm_newest cd_newest ct_newest oc_late_page kV_late_page dc_late_page pm_late_page cd_late_page ct_late_page oc_law_cell kV_law_cell dc_law_cell pm_law_cell cd_law_cell ct_law_cell oc_law_draws kV_law_draws dc_law_draws pm_law_draws cd_law_draws ct_law_draws oc_law_names kV_law_names dc_law_names pm_law_names cd_law_names ct_law_names oc_law_schema kV_law_schema dc_law_schema pm_law_schema cd_law_schema ct_law_schema oc_law_value kV_law_value dc_law_value pm_law_value cd_law_value ct_law_value oc_law_row kV_law_row dc_law_row pm_law_row cd_law_row ct_law_row oc_law_table_rows kV_law_table_rows dc_law_table_rows pm_law_table_rows cd_law_table_rows ct_law_table_rows oc_law_page_text kV_law_page_text dc_law_page_text pm_law_page_text cd_law_page_text ct_law_page_text oc_law_newest kV_law_newest dc_law_newest pm_law_newest cd_law_newest ct_law_newest oc_law_right kV_law_right dc_law_right pm_law_right cd_law_right ct_law_right oc_law_put kV_law_put dc_law_put pm_law_put cd_law_put ct_law_put oc_law_late kV_law_late dc_law_late pm_law_late cd_law_late ct_law_late oc_law_refused kV_law_refused dc_law_refused pm_law_refused cd_law_refused ct_law_refused oc_law kV_law dc_law pm_law cd_law ct_law : Value} {Dn_Schema___init__ : Nat} {t_FIGURES t_LETTERS t_MOST_COLUMNS t_MOST_NUMBER t_MOST_ORDERS t_MOST_ROWS t_MOST_SIGNS t_MOST_SLOTS t_MOST_TABLES : Tok}
    (a_Schema : PySem.W.nsIn K mainGlobals "Schema" = some (some (.ref CSchema)))
    (pg_Schema : PySem.W.plainGet K CSchema Str.empty = true)
    (hd_Schema : PySem.W.hasDictIn K CSchema = true)
    (po_Schema : PySem.W.plainOver K CSchema = true)
    (sa_Schema : PySem.W.findIn K (.ref CSchema) "__setattr__" = some (some (.builtin "object.__setattr__")))
    (mk_Schema : PySem.W.makesIn K CSchema = true)
    (kc_Schema : PySem.W.keepIn K (.ref CSchema) = true)
    (n_Schema_columns : PySem.W.findIn K (.ref CSchema) "columns" = some none)
    (n_Schema_kept_orders : PySem.W.findIn K (.ref CSchema) "kept_orders" = some none)
    (a_Disk : PySem.W.nsIn K mainGlobals "Disk" = some (some (.ref CDisk)))
    (pg_Disk : PySem.W.plainGet K CDisk Str.empty = true)
    (hd_Disk : PySem.W.hasDictIn K CDisk = true)
    (po_Disk : PySem.W.plainOver K CDisk = true)
    (sa_Disk : PySem.W.findIn K (.ref CDisk) "__setattr__" = some (some (.builtin "object.__setattr__")))
    (mk_Disk : PySem.W.makesIn K CDisk = true)
    (kc_Disk : PySem.W.keepIn K (.ref CDisk) = true)
    (n_Disk_held_rows : PySem.W.findIn K (.ref CDisk) "held_rows" = some none)
    (n_Disk_held_pages : PySem.W.findIn K (.ref CDisk) "held_pages" = some none)
    (n_Disk_many_writes : PySem.W.findIn K (.ref CDisk) "many_writes" = some none)
    (n_Disk_due : PySem.W.findIn K (.ref CDisk) "due" = some none)
    (n_Disk_is_down : PySem.W.findIn K (.ref CDisk) "is_down" = some none)
    (a_StoreError : PySem.W.nsIn K mainGlobals "StoreError" = some (some (.ref CStoreError)))
    (a_NoSchema : PySem.W.nsIn K mainGlobals "NoSchema" = some (some (.ref CNoSchema)))
    (a_Fell : PySem.W.nsIn K mainGlobals "Fell" = some (some (.ref CFell)))
    (a_NoTable : PySem.W.nsIn K mainGlobals "NoTable" = some (some (.ref CNoTable)))
    (a_is_name : PySem.W.nsIn K mainGlobals "is_name" = some (some (.ref f_is_name)))
    (l_is_name : K.lookup f_is_name = some ⟨oc_is_name, od_is_name, .func (PySem.W.fnOf "is_name" "is_name" (defArgs s_is_name) (defBody s_is_name) (defScope s_is_name) .none kV_is_name dc_is_name pm_is_name an_is_name cd_is_name ct_is_name), sl_is_name⟩)
    (c_is_name : PySem.W.codeIn K cd_is_name "is_name" = true)
    (k_is_name : PySem.W.keepIn K (.ref f_is_name) = true)
    (a_is_kind : PySem.W.nsIn K mainGlobals "is_kind" = some (some (.ref f_is_kind)))
    (l_is_kind : K.lookup f_is_kind = some ⟨oc_is_kind, od_is_kind, .func (PySem.W.fnOf "is_kind" "is_kind" (defArgs s_is_kind) (defBody s_is_kind) (defScope s_is_kind) .none kV_is_kind dc_is_kind pm_is_kind an_is_kind cd_is_kind ct_is_kind), sl_is_kind⟩)
    (c_is_kind : PySem.W.codeIn K cd_is_kind "is_kind" = true)
    (k_is_kind : PySem.W.keepIn K (.ref f_is_kind) = true)
    (a_value_text : PySem.W.nsIn K mainGlobals "value_text" = some (some (.ref f_value_text)))
    (l_value_text : K.lookup f_value_text = some ⟨oc_value_text, od_value_text, .func (PySem.W.fnOf "value_text" "value_text" (defArgs s_value_text) (defBody s_value_text) (defScope s_value_text) .none kV_value_text dc_value_text pm_value_text an_value_text cd_value_text ct_value_text), sl_value_text⟩)
    (c_value_text : PySem.W.codeIn K cd_value_text "value_text" = true)
    (k_value_text : PySem.W.keepIn K (.ref f_value_text) = true)
    (a_figures_in : PySem.W.nsIn K mainGlobals "figures_in" = some (some (.ref f_figures_in)))
    (l_figures_in : K.lookup f_figures_in = some ⟨oc_figures_in, od_figures_in, .func (PySem.W.fnOf "figures_in" "figures_in" (defArgs s_figures_in) (defBody s_figures_in) (defScope s_figures_in) .none kV_figures_in dc_figures_in pm_figures_in an_figures_in cd_figures_in ct_figures_in), sl_figures_in⟩)
    (c_figures_in : PySem.W.codeIn K cd_figures_in "figures_in" = true)
    (k_figures_in : PySem.W.keepIn K (.ref f_figures_in) = true)
    (a_value_in : PySem.W.nsIn K mainGlobals "value_in" = some (some (.ref f_value_in)))
    (l_value_in : K.lookup f_value_in = some ⟨oc_value_in, od_value_in, .func (PySem.W.fnOf "value_in" "value_in" (defArgs s_value_in) (defBody s_value_in) (defScope s_value_in) .none kV_value_in dc_value_in pm_value_in an_value_in cd_value_in ct_value_in), sl_value_in⟩)
    (c_value_in : PySem.W.codeIn K cd_value_in "value_in" = true)
    (k_value_in : PySem.W.keepIn K (.ref f_value_in) = true)
    (a_is_row_of : PySem.W.nsIn K mainGlobals "is_row_of" = some (some (.ref f_is_row_of)))
    (l_is_row_of : K.lookup f_is_row_of = some ⟨oc_is_row_of, od_is_row_of, .func (PySem.W.fnOf "is_row_of" "is_row_of" (defArgs s_is_row_of) (defBody s_is_row_of) (defScope s_is_row_of) .none kV_is_row_of dc_is_row_of pm_is_row_of an_is_row_of cd_is_row_of ct_is_row_of), sl_is_row_of⟩)
    (c_is_row_of : PySem.W.codeIn K cd_is_row_of "is_row_of" = true)
    (k_is_row_of : PySem.W.keepIn K (.ref f_is_row_of) = true)
    (a_need_pair : PySem.W.nsIn K mainGlobals "need_pair" = some (some (.ref f_need_pair)))
    (l_need_pair : K.lookup f_need_pair = some ⟨oc_need_pair, od_need_pair, .func (PySem.W.fnOf "need_pair" "need_pair" (defArgs s_need_pair) (defBody s_need_pair) (defScope s_need_pair) .none kV_need_pair dc_need_pair pm_need_pair an_need_pair cd_need_pair ct_need_pair), sl_need_pair⟩)
    (c_need_pair : PySem.W.codeIn K cd_need_pair "need_pair" = true)
    (k_need_pair : PySem.W.keepIn K (.ref f_need_pair) = true)
    (a_columns_in : PySem.W.nsIn K mainGlobals "columns_in" = some (some (.ref f_columns_in)))
    (l_columns_in : K.lookup f_columns_in = some ⟨oc_columns_in, od_columns_in, .func (PySem.W.fnOf "columns_in" "columns_in" (defArgs s_columns_in) (defBody s_columns_in) (defScope s_columns_in) .none kV_columns_in dc_columns_in pm_columns_in an_columns_in cd_columns_in ct_columns_in), sl_columns_in⟩)
    (c_columns_in : PySem.W.codeIn K cd_columns_in "columns_in" = true)
    (k_columns_in : PySem.W.keepIn K (.ref f_columns_in) = true)
    (a_tables_in : PySem.W.nsIn K mainGlobals "tables_in" = some (some (.ref f_tables_in)))
    (l_tables_in : K.lookup f_tables_in = some ⟨oc_tables_in, od_tables_in, .func (PySem.W.fnOf "tables_in" "tables_in" (defArgs s_tables_in) (defBody s_tables_in) (defScope s_tables_in) .none kV_tables_in dc_tables_in pm_tables_in an_tables_in cd_tables_in ct_tables_in), sl_tables_in⟩)
    (c_tables_in : PySem.W.codeIn K cd_tables_in "tables_in" = true)
    (k_tables_in : PySem.W.keepIn K (.ref f_tables_in) = true)
    (a_orders_in : PySem.W.nsIn K mainGlobals "orders_in" = some (some (.ref f_orders_in)))
    (l_orders_in : K.lookup f_orders_in = some ⟨oc_orders_in, od_orders_in, .func (PySem.W.fnOf "orders_in" "orders_in" (defArgs s_orders_in) (defBody s_orders_in) (defScope s_orders_in) .none kV_orders_in dc_orders_in pm_orders_in an_orders_in cd_orders_in ct_orders_in), sl_orders_in⟩)
    (c_orders_in : PySem.W.codeIn K cd_orders_in "orders_in" = true)
    (k_orders_in : PySem.W.keepIn K (.ref f_orders_in) = true)
    (a_Schema___init__ : PySem.W.findIn K (.ref CSchema) "__init__" = some (some (.ref f_Schema___init__)))
    (i_Schema___init__ : PySem.W.isFn K (.ref f_Schema___init__) = true)
    (l_Schema___init__ : K.lookup f_Schema___init__ = some ⟨oc_Schema___init__, od_Schema___init__, .func (PySem.W.fnOf "__init__" "Schema.__init__" (defArgs s_Schema___init__) (defBody s_Schema___init__) (defScope s_Schema___init__) (.ref D_Schema___init__) kV_Schema___init__ dc_Schema___init__ pm_Schema___init__ an_Schema___init__ cd_Schema___init__ ct_Schema___init__), sl_Schema___init__⟩)
    (c_Schema___init__ : PySem.W.codeIn K cd_Schema___init__ "Schema.__init__" = true)
    (k_Schema___init__ : PySem.W.keepIn K (.ref f_Schema___init__) = true)
    (lD_Schema___init__ : K.lookup D_Schema___init__ = some ⟨Doc_Schema___init__, Dod_Schema___init__, .seq #[.none] Dn_Schema___init__, Dsl_Schema___init__⟩)
    (a_Schema_need_table : PySem.W.findIn K (.ref CSchema) "need_table" = some (some (.ref f_Schema_need_table)))
    (i_Schema_need_table : PySem.W.isFn K (.ref f_Schema_need_table) = true)
    (l_Schema_need_table : K.lookup f_Schema_need_table = some ⟨oc_Schema_need_table, od_Schema_need_table, .func (PySem.W.fnOf "need_table" "Schema.need_table" (defArgs s_Schema_need_table) (defBody s_Schema_need_table) (defScope s_Schema_need_table) .none kV_Schema_need_table dc_Schema_need_table pm_Schema_need_table an_Schema_need_table cd_Schema_need_table ct_Schema_need_table), sl_Schema_need_table⟩)
    (c_Schema_need_table : PySem.W.codeIn K cd_Schema_need_table "Schema.need_table" = true)
    (k_Schema_need_table : PySem.W.keepIn K (.ref f_Schema_need_table) = true)
    (a_Schema_table_names : PySem.W.findIn K (.ref CSchema) "table_names" = some (some (.ref f_Schema_table_names)))
    (i_Schema_table_names : PySem.W.isFn K (.ref f_Schema_table_names) = true)
    (l_Schema_table_names : K.lookup f_Schema_table_names = some ⟨oc_Schema_table_names, od_Schema_table_names, .func (PySem.W.fnOf "table_names" "Schema.table_names" (defArgs s_Schema_table_names) (defBody s_Schema_table_names) (defScope s_Schema_table_names) .none kV_Schema_table_names dc_Schema_table_names pm_Schema_table_names an_Schema_table_names cd_Schema_table_names ct_Schema_table_names), sl_Schema_table_names⟩)
    (c_Schema_table_names : PySem.W.codeIn K cd_Schema_table_names "Schema.table_names" = true)
    (k_Schema_table_names : PySem.W.keepIn K (.ref f_Schema_table_names) = true)
    (a_Schema_columns_of : PySem.W.findIn K (.ref CSchema) "columns_of" = some (some (.ref f_Schema_columns_of)))
    (i_Schema_columns_of : PySem.W.isFn K (.ref f_Schema_columns_of) = true)
    (l_Schema_columns_of : K.lookup f_Schema_columns_of = some ⟨oc_Schema_columns_of, od_Schema_columns_of, .func (PySem.W.fnOf "columns_of" "Schema.columns_of" (defArgs s_Schema_columns_of) (defBody s_Schema_columns_of) (defScope s_Schema_columns_of) .none kV_Schema_columns_of dc_Schema_columns_of pm_Schema_columns_of an_Schema_columns_of cd_Schema_columns_of ct_Schema_columns_of), sl_Schema_columns_of⟩)
    (c_Schema_columns_of : PySem.W.codeIn K cd_Schema_columns_of "Schema.columns_of" = true)
    (k_Schema_columns_of : PySem.W.keepIn K (.ref f_Schema_columns_of) = true)
    (a_NoTable___init__ : PySem.W.findIn K (.ref CNoTable) "__init__" = some (some (.ref f_NoTable___init__)))
    (tI_NoTable : PySem.W.typeIn K (.ref f_NoTable___init__) = some (.type "function"))
    (l_NoTable___init__ : K.lookup f_NoTable___init__ = some ⟨oc_NoTable___init__, od_NoTable___init__, .func (PySem.W.fnOf "__init__" "NoTable.__init__" (defArgs s_NoTable___init__) (defBody s_NoTable___init__) (defScope s_NoTable___init__) .none kV_NoTable___init__ dc_NoTable___init__ pm_NoTable___init__ an_NoTable___init__ cd_NoTable___init__ ct_NoTable___init__), sl_NoTable___init__⟩)
    (c_NoTable___init__ : PySem.W.codeIn K cd_NoTable___init__ "NoTable.__init__" = true)
    (k_NoTable___init__ : PySem.W.keepIn K (.ref f_NoTable___init__) = true)
    (a_Disk___init__ : PySem.W.findIn K (.ref CDisk) "__init__" = some (some (.ref f_Disk___init__)))
    (i_Disk___init__ : PySem.W.isFn K (.ref f_Disk___init__) = true)
    (l_Disk___init__ : K.lookup f_Disk___init__ = some ⟨oc_Disk___init__, od_Disk___init__, .func (PySem.W.fnOf "__init__" "Disk.__init__" (defArgs s_Disk___init__) (defBody s_Disk___init__) (defScope s_Disk___init__) .none kV_Disk___init__ dc_Disk___init__ pm_Disk___init__ an_Disk___init__ cd_Disk___init__ ct_Disk___init__), sl_Disk___init__⟩)
    (c_Disk___init__ : PySem.W.codeIn K cd_Disk___init__ "Disk.__init__" = true)
    (k_Disk___init__ : PySem.W.keepIn K (.ref f_Disk___init__) = true)
    (a_Disk_coming : PySem.W.findIn K (.ref CDisk) "coming" = some (some (.ref f_Disk_coming)))
    (i_Disk_coming : PySem.W.isFn K (.ref f_Disk_coming) = true)
    (l_Disk_coming : K.lookup f_Disk_coming = some ⟨oc_Disk_coming, od_Disk_coming, .func (PySem.W.fnOf "coming" "Disk.coming" (defArgs s_Disk_coming) (defBody s_Disk_coming) (defScope s_Disk_coming) .none kV_Disk_coming dc_Disk_coming pm_Disk_coming an_Disk_coming cd_Disk_coming ct_Disk_coming), sl_Disk_coming⟩)
    (c_Disk_coming : PySem.W.codeIn K cd_Disk_coming "Disk.coming" = true)
    (k_Disk_coming : PySem.W.keepIn K (.ref f_Disk_coming) = true)
    (a_Disk_page : PySem.W.findIn K (.ref CDisk) "page" = some (some (.ref f_Disk_page)))
    (i_Disk_page : PySem.W.isFn K (.ref f_Disk_page) = true)
    (l_Disk_page : K.lookup f_Disk_page = some ⟨oc_Disk_page, od_Disk_page, .func (PySem.W.fnOf "page" "Disk.page" (defArgs s_Disk_page) (defBody s_Disk_page) (defScope s_Disk_page) .none kV_Disk_page dc_Disk_page pm_Disk_page an_Disk_page cd_Disk_page ct_Disk_page), sl_Disk_page⟩)
    (c_Disk_page : PySem.W.codeIn K cd_Disk_page "Disk.page" = true)
    (k_Disk_page : PySem.W.keepIn K (.ref f_Disk_page) = true)
    (a_Disk_writes : PySem.W.findIn K (.ref CDisk) "writes" = some (some (.ref f_Disk_writes)))
    (i_Disk_writes : PySem.W.isFn K (.ref f_Disk_writes) = true)
    (l_Disk_writes : K.lookup f_Disk_writes = some ⟨oc_Disk_writes, od_Disk_writes, .func (PySem.W.fnOf "writes" "Disk.writes" (defArgs s_Disk_writes) (defBody s_Disk_writes) (defScope s_Disk_writes) .none kV_Disk_writes dc_Disk_writes pm_Disk_writes an_Disk_writes cd_Disk_writes ct_Disk_writes), sl_Disk_writes⟩)
    (c_Disk_writes : PySem.W.codeIn K cd_Disk_writes "Disk.writes" = true)
    (k_Disk_writes : PySem.W.keepIn K (.ref f_Disk_writes) = true)
    (a_Disk_fall_at : PySem.W.findIn K (.ref CDisk) "fall_at" = some (some (.ref f_Disk_fall_at)))
    (i_Disk_fall_at : PySem.W.isFn K (.ref f_Disk_fall_at) = true)
    (l_Disk_fall_at : K.lookup f_Disk_fall_at = some ⟨oc_Disk_fall_at, od_Disk_fall_at, .func (PySem.W.fnOf "fall_at" "Disk.fall_at" (defArgs s_Disk_fall_at) (defBody s_Disk_fall_at) (defScope s_Disk_fall_at) .none kV_Disk_fall_at dc_Disk_fall_at pm_Disk_fall_at an_Disk_fall_at cd_Disk_fall_at ct_Disk_fall_at), sl_Disk_fall_at⟩)
    (c_Disk_fall_at : PySem.W.codeIn K cd_Disk_fall_at "Disk.fall_at" = true)
    (k_Disk_fall_at : PySem.W.keepIn K (.ref f_Disk_fall_at) = true)
    (a_Disk_power : PySem.W.findIn K (.ref CDisk) "power" = some (some (.ref f_Disk_power)))
    (i_Disk_power : PySem.W.isFn K (.ref f_Disk_power) = true)
    (l_Disk_power : K.lookup f_Disk_power = some ⟨oc_Disk_power, od_Disk_power, .func (PySem.W.fnOf "power" "Disk.power" (defArgs s_Disk_power) (defBody s_Disk_power) (defScope s_Disk_power) .none kV_Disk_power dc_Disk_power pm_Disk_power an_Disk_power cd_Disk_power ct_Disk_power), sl_Disk_power⟩)
    (c_Disk_power : PySem.W.codeIn K cd_Disk_power "Disk.power" = true)
    (k_Disk_power : PySem.W.keepIn K (.ref f_Disk_power) = true)
    (a_Disk_put_page : PySem.W.findIn K (.ref CDisk) "put_page" = some (some (.ref f_Disk_put_page)))
    (i_Disk_put_page : PySem.W.isFn K (.ref f_Disk_put_page) = true)
    (l_Disk_put_page : K.lookup f_Disk_put_page = some ⟨oc_Disk_put_page, od_Disk_put_page, .func (PySem.W.fnOf "put_page" "Disk.put_page" (defArgs s_Disk_put_page) (defBody s_Disk_put_page) (defScope s_Disk_put_page) .none kV_Disk_put_page dc_Disk_put_page pm_Disk_put_page an_Disk_put_page cd_Disk_put_page ct_Disk_put_page), sl_Disk_put_page⟩)
    (c_Disk_put_page : PySem.W.codeIn K cd_Disk_put_page "Disk.put_page" = true)
    (k_Disk_put_page : PySem.W.keepIn K (.ref f_Disk_put_page) = true)
    (a_values_in : PySem.W.nsIn K mainGlobals "values_in" = some (some (.ref f_values_in)))
    (l_values_in : K.lookup f_values_in = some ⟨oc_values_in, od_values_in, .func (PySem.W.fnOf "values_in" "values_in" (defArgs s_values_in) (defBody s_values_in) (defScope s_values_in) .none kV_values_in dc_values_in pm_values_in an_values_in cd_values_in ct_values_in), sl_values_in⟩)
    (c_values_in : PySem.W.codeIn K cd_values_in "values_in" = true)
    (k_values_in : PySem.W.keepIn K (.ref f_values_in) = true)
    (a_page_text : PySem.W.nsIn K mainGlobals "page_text" = some (some (.ref f_page_text)))
    (l_page_text : K.lookup f_page_text = some ⟨oc_page_text, od_page_text, .func (PySem.W.fnOf "page_text" "page_text" (defArgs s_page_text) (defBody s_page_text) (defScope s_page_text) .none kV_page_text dc_page_text pm_page_text an_page_text cd_page_text ct_page_text), sl_page_text⟩)
    (c_page_text : PySem.W.codeIn K cd_page_text "page_text" = true)
    (k_page_text : PySem.W.keepIn K (.ref f_page_text) = true)
    (a_count_from : PySem.W.nsIn K mainGlobals "count_from" = some (some (.ref f_count_from)))
    (l_count_from : K.lookup f_count_from = some ⟨oc_count_from, od_count_from, .func (PySem.W.fnOf "count_from" "count_from" (defArgs s_count_from) (defBody s_count_from) (defScope s_count_from) .none kV_count_from dc_count_from pm_count_from an_count_from cd_count_from ct_count_from), sl_count_from⟩)
    (c_count_from : PySem.W.codeIn K cd_count_from "count_from" = true)
    (k_count_from : PySem.W.keepIn K (.ref f_count_from) = true)
    (a_rows_in : PySem.W.nsIn K mainGlobals "rows_in" = some (some (.ref f_rows_in)))
    (l_rows_in : K.lookup f_rows_in = some ⟨oc_rows_in, od_rows_in, .func (PySem.W.fnOf "rows_in" "rows_in" (defArgs s_rows_in) (defBody s_rows_in) (defScope s_rows_in) .none kV_rows_in dc_rows_in pm_rows_in an_rows_in cd_rows_in ct_rows_in), sl_rows_in⟩)
    (c_rows_in : PySem.W.codeIn K cd_rows_in "rows_in" = true)
    (k_rows_in : PySem.W.keepIn K (.ref f_rows_in) = true)
    (a_page_in : PySem.W.nsIn K mainGlobals "page_in" = some (some (.ref f_page_in)))
    (l_page_in : K.lookup f_page_in = some ⟨oc_page_in, od_page_in, .func (PySem.W.fnOf "page_in" "page_in" (defArgs s_page_in) (defBody s_page_in) (defScope s_page_in) .none kV_page_in dc_page_in pm_page_in an_page_in cd_page_in ct_page_in), sl_page_in⟩)
    (c_page_in : PySem.W.codeIn K cd_page_in "page_in" = true)
    (k_page_in : PySem.W.keepIn K (.ref f_page_in) = true)
    (a_slots_of : PySem.W.nsIn K mainGlobals "slots_of" = some (some (.ref f_slots_of)))
    (l_slots_of : K.lookup f_slots_of = some ⟨oc_slots_of, od_slots_of, .func (PySem.W.fnOf "slots_of" "slots_of" (defArgs s_slots_of) (defBody s_slots_of) (defScope s_slots_of) .none kV_slots_of dc_slots_of pm_slots_of an_slots_of cd_slots_of ct_slots_of), sl_slots_of⟩)
    (c_slots_of : PySem.W.codeIn K cd_slots_of "slots_of" = true)
    (k_slots_of : PySem.W.keepIn K (.ref f_slots_of) = true)
    (a_newest : PySem.W.nsIn K mainGlobals "newest" = some (some (.ref f_newest)))
    (l_newest : K.lookup f_newest = some ⟨oc_newest, od_newest, .func (PySem.W.fnOf "newest" "newest" (defArgs s_newest) (defBody s_newest) (defScope s_newest) .none kV_newest dc_newest pm_newest an_newest cd_newest ct_newest), sl_newest⟩)
    (c_newest : PySem.W.codeIn K cd_newest "newest" = true)
    (k_newest : PySem.W.keepIn K (.ref f_newest) = true)
    (a_late_page : PySem.W.nsIn K mainGlobals "late_page" = some (some (.ref f_late_page)))
    (l_late_page : K.lookup f_late_page = some ⟨oc_late_page, od_late_page, .func (PySem.W.fnOf "late_page" "late_page" (defArgs s_late_page) (defBody s_late_page) (defScope s_late_page) .none kV_late_page dc_late_page pm_late_page an_late_page cd_late_page ct_late_page), sl_late_page⟩)
    (c_late_page : PySem.W.codeIn K cd_late_page "late_page" = true)
    (k_late_page : PySem.W.keepIn K (.ref f_late_page) = true)
    (a_law_cell : PySem.W.nsIn K mainGlobals "_law_cell" = some (some (.ref f_law_cell)))
    (l_law_cell : K.lookup f_law_cell = some ⟨oc_law_cell, od_law_cell, .func (PySem.W.fnOf "_law_cell" "_law_cell" (defArgs s_law_cell) (defBody s_law_cell) (defScope s_law_cell) .none kV_law_cell dc_law_cell pm_law_cell an_law_cell cd_law_cell ct_law_cell), sl_law_cell⟩)
    (c_law_cell : PySem.W.codeIn K cd_law_cell "_law_cell" = true)
    (k_law_cell : PySem.W.keepIn K (.ref f_law_cell) = true)
    (a_law_draws : PySem.W.nsIn K mainGlobals "_law_draws" = some (some (.ref f_law_draws)))
    (l_law_draws : K.lookup f_law_draws = some ⟨oc_law_draws, od_law_draws, .func (PySem.W.fnOf "_law_draws" "_law_draws" (defArgs s_law_draws) (defBody s_law_draws) (defScope s_law_draws) .none kV_law_draws dc_law_draws pm_law_draws an_law_draws cd_law_draws ct_law_draws), sl_law_draws⟩)
    (c_law_draws : PySem.W.codeIn K cd_law_draws "_law_draws" = true)
    (k_law_draws : PySem.W.keepIn K (.ref f_law_draws) = true)
    (a_law_names : PySem.W.nsIn K mainGlobals "_law_names" = some (some (.ref f_law_names)))
    (l_law_names : K.lookup f_law_names = some ⟨oc_law_names, od_law_names, .func (PySem.W.fnOf "_law_names" "_law_names" (defArgs s_law_names) (defBody s_law_names) (defScope s_law_names) .none kV_law_names dc_law_names pm_law_names an_law_names cd_law_names ct_law_names), sl_law_names⟩)
    (c_law_names : PySem.W.codeIn K cd_law_names "_law_names" = true)
    (k_law_names : PySem.W.keepIn K (.ref f_law_names) = true)
    (a_law_schema : PySem.W.nsIn K mainGlobals "_law_schema" = some (some (.ref f_law_schema)))
    (l_law_schema : K.lookup f_law_schema = some ⟨oc_law_schema, od_law_schema, .func (PySem.W.fnOf "_law_schema" "_law_schema" (defArgs s_law_schema) (defBody s_law_schema) (defScope s_law_schema) .none kV_law_schema dc_law_schema pm_law_schema an_law_schema cd_law_schema ct_law_schema), sl_law_schema⟩)
    (c_law_schema : PySem.W.codeIn K cd_law_schema "_law_schema" = true)
    (k_law_schema : PySem.W.keepIn K (.ref f_law_schema) = true)
    (a_law_value : PySem.W.nsIn K mainGlobals "_law_value" = some (some (.ref f_law_value)))
    (l_law_value : K.lookup f_law_value = some ⟨oc_law_value, od_law_value, .func (PySem.W.fnOf "_law_value" "_law_value" (defArgs s_law_value) (defBody s_law_value) (defScope s_law_value) .none kV_law_value dc_law_value pm_law_value an_law_value cd_law_value ct_law_value), sl_law_value⟩)
    (c_law_value : PySem.W.codeIn K cd_law_value "_law_value" = true)
    (k_law_value : PySem.W.keepIn K (.ref f_law_value) = true)
    (a_law_row : PySem.W.nsIn K mainGlobals "_law_row" = some (some (.ref f_law_row)))
    (l_law_row : K.lookup f_law_row = some ⟨oc_law_row, od_law_row, .func (PySem.W.fnOf "_law_row" "_law_row" (defArgs s_law_row) (defBody s_law_row) (defScope s_law_row) .none kV_law_row dc_law_row pm_law_row an_law_row cd_law_row ct_law_row), sl_law_row⟩)
    (c_law_row : PySem.W.codeIn K cd_law_row "_law_row" = true)
    (k_law_row : PySem.W.keepIn K (.ref f_law_row) = true)
    (a_law_table_rows : PySem.W.nsIn K mainGlobals "_law_table_rows" = some (some (.ref f_law_table_rows)))
    (l_law_table_rows : K.lookup f_law_table_rows = some ⟨oc_law_table_rows, od_law_table_rows, .func (PySem.W.fnOf "_law_table_rows" "_law_table_rows" (defArgs s_law_table_rows) (defBody s_law_table_rows) (defScope s_law_table_rows) .none kV_law_table_rows dc_law_table_rows pm_law_table_rows an_law_table_rows cd_law_table_rows ct_law_table_rows), sl_law_table_rows⟩)
    (c_law_table_rows : PySem.W.codeIn K cd_law_table_rows "_law_table_rows" = true)
    (k_law_table_rows : PySem.W.keepIn K (.ref f_law_table_rows) = true)
    (a_law_page_text : PySem.W.nsIn K mainGlobals "_law_page_text" = some (some (.ref f_law_page_text)))
    (l_law_page_text : K.lookup f_law_page_text = some ⟨oc_law_page_text, od_law_page_text, .func (PySem.W.fnOf "_law_page_text" "_law_page_text" (defArgs s_law_page_text) (defBody s_law_page_text) (defScope s_law_page_text) .none kV_law_page_text dc_law_page_text pm_law_page_text an_law_page_text cd_law_page_text ct_law_page_text), sl_law_page_text⟩)
    (c_law_page_text : PySem.W.codeIn K cd_law_page_text "_law_page_text" = true)
    (k_law_page_text : PySem.W.keepIn K (.ref f_law_page_text) = true)
    (a_law_newest : PySem.W.nsIn K mainGlobals "_law_newest" = some (some (.ref f_law_newest)))
    (l_law_newest : K.lookup f_law_newest = some ⟨oc_law_newest, od_law_newest, .func (PySem.W.fnOf "_law_newest" "_law_newest" (defArgs s_law_newest) (defBody s_law_newest) (defScope s_law_newest) .none kV_law_newest dc_law_newest pm_law_newest an_law_newest cd_law_newest ct_law_newest), sl_law_newest⟩)
    (c_law_newest : PySem.W.codeIn K cd_law_newest "_law_newest" = true)
    (k_law_newest : PySem.W.keepIn K (.ref f_law_newest) = true)
    (a_law_right : PySem.W.nsIn K mainGlobals "_law_right" = some (some (.ref f_law_right)))
    (l_law_right : K.lookup f_law_right = some ⟨oc_law_right, od_law_right, .func (PySem.W.fnOf "_law_right" "_law_right" (defArgs s_law_right) (defBody s_law_right) (defScope s_law_right) .none kV_law_right dc_law_right pm_law_right an_law_right cd_law_right ct_law_right), sl_law_right⟩)
    (c_law_right : PySem.W.codeIn K cd_law_right "_law_right" = true)
    (k_law_right : PySem.W.keepIn K (.ref f_law_right) = true)
    (a_law_put : PySem.W.nsIn K mainGlobals "_law_put" = some (some (.ref f_law_put)))
    (l_law_put : K.lookup f_law_put = some ⟨oc_law_put, od_law_put, .func (PySem.W.fnOf "_law_put" "_law_put" (defArgs s_law_put) (defBody s_law_put) (defScope s_law_put) .none kV_law_put dc_law_put pm_law_put an_law_put cd_law_put ct_law_put), sl_law_put⟩)
    (c_law_put : PySem.W.codeIn K cd_law_put "_law_put" = true)
    (k_law_put : PySem.W.keepIn K (.ref f_law_put) = true)
    (a_law_late : PySem.W.nsIn K mainGlobals "_law_late" = some (some (.ref f_law_late)))
    (l_law_late : K.lookup f_law_late = some ⟨oc_law_late, od_law_late, .func (PySem.W.fnOf "_law_late" "_law_late" (defArgs s_law_late) (defBody s_law_late) (defScope s_law_late) .none kV_law_late dc_law_late pm_law_late an_law_late cd_law_late ct_law_late), sl_law_late⟩)
    (c_law_late : PySem.W.codeIn K cd_law_late "_law_late" = true)
    (k_law_late : PySem.W.keepIn K (.ref f_law_late) = true)
    (a_law_refused : PySem.W.nsIn K mainGlobals "_law_refused" = some (some (.ref f_law_refused)))
    (l_law_refused : K.lookup f_law_refused = some ⟨oc_law_refused, od_law_refused, .func (PySem.W.fnOf "_law_refused" "_law_refused" (defArgs s_law_refused) (defBody s_law_refused) (defScope s_law_refused) .none kV_law_refused dc_law_refused pm_law_refused an_law_refused cd_law_refused ct_law_refused), sl_law_refused⟩)
    (c_law_refused : PySem.W.codeIn K cd_law_refused "_law_refused" = true)
    (k_law_refused : PySem.W.keepIn K (.ref f_law_refused) = true)
    (a_law : PySem.W.nsIn K mainGlobals "law" = some (some (.ref f_law)))
    (l_law : K.lookup f_law = some ⟨oc_law, od_law, .func (PySem.W.fnOf "law" "law" (defArgs s_law) (defBody s_law) (defScope s_law) .none kV_law dc_law pm_law an_law cd_law ct_law), sl_law⟩)
    (c_law : PySem.W.codeIn K cd_law "law" = true)
    (k_law : PySem.W.keepIn K (.ref f_law) = true)
    (xF_NoSchema : PySem.W.excIn K CNoSchema [.type "ValueError", .type "Exception", .type "BaseException", .type "object"] "ValueError.__new__" = true)
    (kc_NoSchema : PySem.W.keepIn K (.ref CNoSchema) = true)
    (xg_NoSchema : PySem.W.findIn K (.ref CNoSchema) "__getattribute__" = some (some (.builtin "BaseException.__getattribute__")))
    (xk_NoSchema : PySem.W.findIn K (.ref CNoSchema) "__getattr__" = some none)
    (xd_NoSchema : PySem.W.hasDictIn K CNoSchema = true)
    (xa_NoSchema : PySem.W.findIn K (.ref CNoSchema) "__class__" = some (some (.builtin "object.__class__")))
    (xm_NoSchema : PySem.W.mroIn K CNoSchema (.type "object") = some true)
    (xF_Fell : PySem.W.excIn K CFell [.type "ValueError", .type "Exception", .type "BaseException", .type "object"] "ValueError.__new__" = true)
    (kc_Fell : PySem.W.keepIn K (.ref CFell) = true)
    (xg_Fell : PySem.W.findIn K (.ref CFell) "__getattribute__" = some (some (.builtin "BaseException.__getattribute__")))
    (xk_Fell : PySem.W.findIn K (.ref CFell) "__getattr__" = some none)
    (xd_Fell : PySem.W.hasDictIn K CFell = true)
    (xa_Fell : PySem.W.findIn K (.ref CFell) "__class__" = some (some (.builtin "object.__class__")))
    (xm_Fell : PySem.W.mroIn K CFell (.type "object") = some true)
    (oe_NoTable : Z.oexB K CNoTable = true)
    (os_NoTable : PySem.W.findIn K (.ref CNoTable) "__setattr__" = some (some (.builtin "object.__setattr__")))
    (kc_NoTable : PySem.W.keepIn K (.ref CNoTable) = true)
    (xg_NoTable : PySem.W.findIn K (.ref CNoTable) "__getattribute__" = some (some (.builtin "BaseException.__getattribute__")))
    (xk_NoTable : PySem.W.findIn K (.ref CNoTable) "__getattr__" = some none)
    (xd_NoTable : PySem.W.hasDictIn K CNoTable = true)
    (xa_NoTable : PySem.W.findIn K (.ref CNoTable) "__class__" = some (some (.builtin "object.__class__")))
    (xm_NoTable : PySem.W.mroIn K CNoTable (.type "object") = some true)
    (xf_NoTable_table : PySem.W.findIn K (.ref CNoTable) "table" = some none)
    (xr_StoreError : PySem.W.readsIn K CStoreError (.type "type") = true)
    (xs_StoreError : PySem.W.specialIn K (.ref CStoreError) "__getattribute__" = some (some (.builtin "type.__getattribute__")))
    (xi_StoreError : PySem.W.findCls K (.ref CStoreError) (.type "type") "__init__" = some (.val (.builtin "ValueError.__init__")))
    (sb_StoreError : PySem.W.subIn K (.ref CStoreError) (.type "BaseException") = some true)
    (cb_StoreError : PySem.W.isClsIn K CStoreError = true)
    (tb_StoreError : PySem.W.typeIn K (.ref CStoreError) = some (.type "type"))
    (sb_NoSchema : PySem.W.subIn K (.ref CNoSchema) (.type "BaseException") = some true)
    (cb_NoSchema : PySem.W.isClsIn K CNoSchema = true)
    (tb_NoSchema : PySem.W.typeIn K (.ref CNoSchema) = some (.type "type"))
    (sb_Fell : PySem.W.subIn K (.ref CFell) (.type "BaseException") = some true)
    (cb_Fell : PySem.W.isClsIn K CFell = true)
    (tb_Fell : PySem.W.typeIn K (.ref CFell) = some (.type "type"))
    (sb_NoTable : PySem.W.subIn K (.ref CNoTable) (.type "BaseException") = some true)
    (cb_NoTable : PySem.W.isClsIn K CNoTable = true)
    (tb_NoTable : PySem.W.typeIn K (.ref CNoTable) = some (.type "type"))
    (xn : PySem.W.specialIn K (.builtin "object.__class__") "__get__" = some (some (.builtin "getset_descriptor.__get__")))
    (xt : PySem.W.takesIn K (.builtin "object.__class__") = some true)
    (sub_NoTable_NoTable : PySem.W.subIn K (.ref CNoTable) (.ref CNoTable) = some true)
    (sub_Fell_Fell : PySem.W.subIn K (.ref CFell) (.ref CFell) = some true)
    (z_abs : PySem.W.nsIn K mainGlobals "abs" = some none)
    (z_enumerate : PySem.W.nsIn K mainGlobals "enumerate" = some none)
    (z_int : PySem.W.nsIn K mainGlobals "int" = some none)
    (z_isinstance : PySem.W.nsIn K mainGlobals "isinstance" = some none)
    (z_len : PySem.W.nsIn K mainGlobals "len" = some none)
    (z_list : PySem.W.nsIn K mainGlobals "list" = some none)
    (z_min : PySem.W.nsIn K mainGlobals "min" = some none)
    (z_range : PySem.W.nsIn K mainGlobals "range" = some none)
    (z_sorted : PySem.W.nsIn K mainGlobals "sorted" = some none)
    (z_str : PySem.W.nsIn K mainGlobals "str" = some none)
    (z_tuple : PySem.W.nsIn K mainGlobals "tuple" = some none)
    (z_zip : PySem.W.nsIn K mainGlobals "zip" = some none)
    (u_FIGURES : PySem.W.nsIn K mainGlobals "FIGURES" = some (some (.str "0123456789" t_FIGURES)))
    (u_LETTERS : PySem.W.nsIn K mainGlobals "LETTERS" = some (some (.str "abcdefghijklmnopqrstuvwxyz" t_LETTERS)))
    (u_MOST_COLUMNS : PySem.W.nsIn K mainGlobals "MOST_COLUMNS" = some (some (.int (4) t_MOST_COLUMNS)))
    (u_MOST_NUMBER : PySem.W.nsIn K mainGlobals "MOST_NUMBER" = some (some (.int (1000000000) t_MOST_NUMBER)))
    (u_MOST_ORDERS : PySem.W.nsIn K mainGlobals "MOST_ORDERS" = some (some (.int (4) t_MOST_ORDERS)))
    (u_MOST_ROWS : PySem.W.nsIn K mainGlobals "MOST_ROWS" = some (some (.int (60) t_MOST_ROWS)))
    (u_MOST_SIGNS : PySem.W.nsIn K mainGlobals "MOST_SIGNS" = some (some (.int (8) t_MOST_SIGNS)))
    (u_MOST_SLOTS : PySem.W.nsIn K mainGlobals "MOST_SLOTS" = some (some (.int (8) t_MOST_SLOTS)))
    (u_MOST_TABLES : PySem.W.nsIn K mainGlobals "MOST_TABLES" = some (some (.int (4) t_MOST_TABLES)))
    : ∃ fd : FuncData, (∀ (s : Shared) (v : Value), BindsTo s fd ⟨[v], []⟩ [("_law_script", v)]) ∧ ∀ base : Heap, K.In base → base.Ns mainGlobals mg → FnOk l.prog w K mg base CX0 9 fa fd ["_law_script"] (spLaw K) := by
  have e := hfa.symm.trans (PySem.W.mg_of X G a_law)
  cases e
  have T : Txt K mg { Schema := CSchema, Disk := CDisk, StoreError := CStoreError, NoSchema := CNoSchema, Fell := CFell, NoTable := CNoTable, f_is_name := f_is_name, f_is_kind := f_is_kind, f_value_text := f_value_text, f_figures_in := f_figures_in, f_value_in := f_value_in, f_is_row_of := f_is_row_of, f_need_pair := f_need_pair, f_columns_in := f_columns_in, f_tables_in := f_tables_in, f_orders_in := f_orders_in, f_Schema___init__ := f_Schema___init__, f_Schema_need_table := f_Schema_need_table, f_Schema_table_names := f_Schema_table_names, f_Schema_columns_of := f_Schema_columns_of, f_NoTable___init__ := f_NoTable___init__, f_Disk___init__ := f_Disk___init__, f_Disk_coming := f_Disk_coming, f_Disk_page := f_Disk_page, f_Disk_writes := f_Disk_writes, f_Disk_fall_at := f_Disk_fall_at, f_Disk_power := f_Disk_power, f_Disk_put_page := f_Disk_put_page, f_values_in := f_values_in, f_page_text := f_page_text, f_count_from := f_count_from, f_rows_in := f_rows_in, f_page_in := f_page_in, f_slots_of := f_slots_of, f_newest := f_newest, f_late_page := f_late_page, f_law_cell := f_law_cell, f_law_draws := f_law_draws, f_law_names := f_law_names, f_law_schema := f_law_schema, f_law_value := f_law_value, f_law_row := f_law_row, f_law_table_rows := f_law_table_rows, f_law_page_text := f_law_page_text, f_law_newest := f_law_newest, f_law_right := f_law_right, f_law_put := f_law_put, f_law_late := f_law_late, f_law_refused := f_law_refused, f_law := fa } := { c_Schema := ⟨pg_Schema, hd_Schema, po_Schema, sa_Schema⟩, g_Schema := PySem.W.mg_of X G a_Schema, n_Schema_columns := n_Schema_columns, n_Schema_kept_orders := n_Schema_kept_orders, c_Disk := ⟨pg_Disk, hd_Disk, po_Disk, sa_Disk⟩, g_Disk := PySem.W.mg_of X G a_Disk, n_Disk_held_rows := n_Disk_held_rows, n_Disk_held_pages := n_Disk_held_pages, n_Disk_many_writes := n_Disk_many_writes, n_Disk_due := n_Disk_due, n_Disk_is_down := n_Disk_is_down, g_StoreError := PySem.W.mg_of X G a_StoreError, g_NoSchema := PySem.W.mg_of X G a_NoSchema, g_Fell := PySem.W.mg_of X G a_Fell, g_NoTable := PySem.W.mg_of X G a_NoTable, d_is_name := ⟨_, fun_mk (st := s_is_name) l_is_name c_is_name k_is_name, (fun_mk (st := s_is_name) l_is_name c_is_name k_is_name).binds (ps := ["thing"]) fun _ _ _ _ _ _ us hl => match us, hl with | [_], _ => rfl⟩, g_is_name := PySem.W.mg_of X G a_is_name, d_is_kind := ⟨_, fun_mk (st := s_is_kind) l_is_kind c_is_kind k_is_kind, (fun_mk (st := s_is_kind) l_is_kind c_is_kind k_is_kind).binds (ps := ["thing"]) fun _ _ _ _ _ _ us hl => match us, hl with | [_], _ => rfl⟩, g_is_kind := PySem.W.mg_of X G a_is_kind, d_value_text := ⟨_, fun_mk (st := s_value_text) l_value_text c_value_text k_value_text, (fun_mk (st := s_value_text) l_value_text c_value_text k_value_text).binds (ps := ["value"]) fun _ _ _ _ _ _ us hl => match us, hl with | [_], _ => rfl⟩, g_value_text := PySem.W.mg_of X G a_value_text, d_figures_in := ⟨_, fun_mk (st := s_figures_in) l_figures_in c_figures_in k_figures_in, (fun_mk (st := s_figures_in) l_figures_in c_figures_in k_figures_in).binds (ps := ["text"]) fun _ _ _ _ _ _ us hl => match us, hl with | [_], _ => rfl⟩, g_figures_in := PySem.W.mg_of X G a_figures_in, d_value_in := ⟨_, fun_mk (st := s_value_in) l_value_in c_value_in k_value_in, (fun_mk (st := s_value_in) l_value_in c_value_in k_value_in).binds (ps := ["kind", "text"]) fun _ _ _ _ _ _ us hl => match us, hl with | [_, _], _ => rfl⟩, g_value_in := PySem.W.mg_of X G a_value_in, d_is_row_of := ⟨_, fun_mk (st := s_is_row_of) l_is_row_of c_is_row_of k_is_row_of, (fun_mk (st := s_is_row_of) l_is_row_of c_is_row_of k_is_row_of).binds (ps := ["thing", "least", "most"]) fun _ _ _ _ _ _ us hl => match us, hl with | [_, _, _], _ => rfl⟩, g_is_row_of := PySem.W.mg_of X G a_is_row_of, d_need_pair := ⟨_, fun_mk (st := s_need_pair) l_need_pair c_need_pair k_need_pair, (fun_mk (st := s_need_pair) l_need_pair c_need_pair k_need_pair).binds (ps := ["thing"]) fun _ _ _ _ _ _ us hl => match us, hl with | [_], _ => rfl⟩, g_need_pair := PySem.W.mg_of X G a_need_pair, d_columns_in := ⟨_, fun_mk (st := s_columns_in) l_columns_in c_columns_in k_columns_in, (fun_mk (st := s_columns_in) l_columns_in c_columns_in k_columns_in).binds (ps := ["thing"]) fun _ _ _ _ _ _ us hl => match us, hl with | [_], _ => rfl⟩, g_columns_in := PySem.W.mg_of X G a_columns_in, d_tables_in := ⟨_, fun_mk (st := s_tables_in) l_tables_in c_tables_in k_tables_in, (fun_mk (st := s_tables_in) l_tables_in c_tables_in k_tables_in).binds (ps := ["thing"]) fun _ _ _ _ _ _ us hl => match us, hl with | [_], _ => rfl⟩, g_tables_in := PySem.W.mg_of X G a_tables_in, d_orders_in := ⟨_, fun_mk (st := s_orders_in) l_orders_in c_orders_in k_orders_in, (fun_mk (st := s_orders_in) l_orders_in c_orders_in k_orders_in).binds (ps := ["thing", "tables"]) fun _ _ _ _ _ _ us hl => match us, hl with | [_, _], _ => rfl⟩, g_orders_in := PySem.W.mg_of X G a_orders_in, d_Schema___init__ := FD.mk (st := s_Schema___init__) l_Schema___init__ c_Schema___init__ k_Schema___init__ lD_Schema___init__ (ps := ["self", "tables", "orders"]) (fun _ _ _ _ _ _ _ us its hl hi => match us, hl, its, hi with | [_, _, _], _, [_], _ => ⟨_, rfl, rfl⟩) (fun _ _ _ _ _ _ _ us its hl hi => match us, hl, its, hi with | [_, _], _, [_], _ => ⟨_, rfl, rfl⟩), mk_Schema := ⟨mk_Schema, a_Schema___init__, i_Schema___init__, kc_Schema⟩, d_Schema_need_table := ⟨_, fun_mk (st := s_Schema_need_table) l_Schema_need_table c_Schema_need_table k_Schema_need_table, (fun_mk (st := s_Schema_need_table) l_Schema_need_table c_Schema_need_table k_Schema_need_table).binds (ps := ["self", "table"]) fun _ _ _ _ _ _ us hl => match us, hl with | [_, _], _ => rfl⟩, m_Schema_need_table := ⟨a_Schema_need_table, i_Schema_need_table, k_Schema_need_table⟩, d_Schema_table_names := ⟨_, fun_mk (st := s_Schema_table_names) l_Schema_table_names c_Schema_table_names k_Schema_table_names, (fun_mk (st := s_Schema_table_names) l_Schema_table_names c_Schema_table_names k_Schema_table_names).binds (ps := ["self"]) fun _ _ _ _ _ _ us hl => match us, hl with | [_], _ => rfl⟩, m_Schema_table_names := ⟨a_Schema_table_names, i_Schema_table_names, k_Schema_table_names⟩, d_Schema_columns_of := ⟨_, fun_mk (st := s_Schema_columns_of) l_Schema_columns_of c_Schema_columns_of k_Schema_columns_of, (fun_mk (st := s_Schema_columns_of) l_Schema_columns_of c_Schema_columns_of k_Schema_columns_of).binds (ps := ["self", "table"]) fun _ _ _ _ _ _ us hl => match us, hl with | [_, _], _ => rfl⟩, m_Schema_columns_of := ⟨a_Schema_columns_of, i_Schema_columns_of, k_Schema_columns_of⟩, d_NoTable___init__ := ⟨_, fun_mk (st := s_NoTable___init__) l_NoTable___init__ c_NoTable___init__ k_NoTable___init__, (fun_mk (st := s_NoTable___init__) l_NoTable___init__ c_NoTable___init__ k_NoTable___init__).binds (ps := ["self", "table"]) fun _ _ _ _ _ _ us hl => match us, hl with | [_, _], _ => rfl⟩, iC_NoTable := a_NoTable___init__, tI_NoTable := tI_NoTable, d_Disk___init__ := ⟨_, fun_mk (st := s_Disk___init__) l_Disk___init__ c_Disk___init__ k_Disk___init__, (fun_mk (st := s_Disk___init__) l_Disk___init__ c_Disk___init__ k_Disk___init__).binds (ps := ["self"]) fun _ _ _ _ _ _ us hl => match us, hl with | [_], _ => rfl⟩, mk_Disk := ⟨mk_Disk, a_Disk___init__, i_Disk___init__, kc_Disk⟩, d_Disk_coming := ⟨_, fun_mk (st := s_Disk_coming) l_Disk_coming c_Disk_coming k_Disk_coming, (fun_mk (st := s_Disk_coming) l_Disk_coming c_Disk_coming k_Disk_coming).binds (ps := ["self"]) fun _ _ _ _ _ _ us hl => match us, hl with | [_], _ => rfl⟩, m_Disk_coming := ⟨a_Disk_coming, i_Disk_coming, k_Disk_coming⟩, d_Disk_page := ⟨_, fun_mk (st := s_Disk_page) l_Disk_page c_Disk_page k_Disk_page, (fun_mk (st := s_Disk_page) l_Disk_page c_Disk_page k_Disk_page).binds (ps := ["self", "slot"]) fun _ _ _ _ _ _ us hl => match us, hl with | [_, _], _ => rfl⟩, m_Disk_page := ⟨a_Disk_page, i_Disk_page, k_Disk_page⟩, d_Disk_writes := ⟨_, fun_mk (st := s_Disk_writes) l_Disk_writes c_Disk_writes k_Disk_writes, (fun_mk (st := s_Disk_writes) l_Disk_writes c_Disk_writes k_Disk_writes).binds (ps := ["self"]) fun _ _ _ _ _ _ us hl => match us, hl with | [_], _ => rfl⟩, m_Disk_writes := ⟨a_Disk_writes, i_Disk_writes, k_Disk_writes⟩, d_Disk_fall_at := ⟨_, fun_mk (st := s_Disk_fall_at) l_Disk_fall_at c_Disk_fall_at k_Disk_fall_at, (fun_mk (st := s_Disk_fall_at) l_Disk_fall_at c_Disk_fall_at k_Disk_fall_at).binds (ps := ["self", "after", "signs"]) fun _ _ _ _ _ _ us hl => match us, hl with | [_, _, _], _ => rfl⟩, m_Disk_fall_at := ⟨a_Disk_fall_at, i_Disk_fall_at, k_Disk_fall_at⟩, d_Disk_power := ⟨_, fun_mk (st := s_Disk_power) l_Disk_power c_Disk_power k_Disk_power, (fun_mk (st := s_Disk_power) l_Disk_power c_Disk_power k_Disk_power).binds (ps := ["self"]) fun _ _ _ _ _ _ us hl => match us, hl with | [_], _ => rfl⟩, m_Disk_power := ⟨a_Disk_power, i_Disk_power, k_Disk_power⟩, d_Disk_put_page := ⟨_, fun_mk (st := s_Disk_put_page) l_Disk_put_page c_Disk_put_page k_Disk_put_page, (fun_mk (st := s_Disk_put_page) l_Disk_put_page c_Disk_put_page k_Disk_put_page).binds (ps := ["self", "slot", "text"]) fun _ _ _ _ _ _ us hl => match us, hl with | [_, _, _], _ => rfl⟩, m_Disk_put_page := ⟨a_Disk_put_page, i_Disk_put_page, k_Disk_put_page⟩, d_values_in := ⟨_, fun_mk (st := s_values_in) l_values_in c_values_in k_values_in, (fun_mk (st := s_values_in) l_values_in c_values_in k_values_in).binds (ps := ["columns", "words"]) fun _ _ _ _ _ _ us hl => match us, hl with | [_, _], _ => rfl⟩, g_values_in := PySem.W.mg_of X G a_values_in, d_page_text := ⟨_, fun_mk (st := s_page_text) l_page_text c_page_text k_page_text, (fun_mk (st := s_page_text) l_page_text c_page_text k_page_text).binds (ps := ["table", "last", "many", "rows"]) fun _ _ _ _ _ _ us hl => match us, hl with | [_, _, _, _], _ => rfl⟩, g_page_text := PySem.W.mg_of X G a_page_text, d_count_from := ⟨_, fun_mk (st := s_count_from) l_count_from c_count_from k_count_from, (fun_mk (st := s_count_from) l_count_from c_count_from k_count_from).binds (ps := ["word"]) fun _ _ _ _ _ _ us hl => match us, hl with | [_], _ => rfl⟩, g_count_from := PySem.W.mg_of X G a_count_from, d_rows_in := ⟨_, fun_mk (st := s_rows_in) l_rows_in c_rows_in k_rows_in, (fun_mk (st := s_rows_in) l_rows_in c_rows_in k_rows_in).binds (ps := ["columns", "parts"]) fun _ _ _ _ _ _ us hl => match us, hl with | [_, _], _ => rfl⟩, g_rows_in := PySem.W.mg_of X G a_rows_in, d_page_in := ⟨_, fun_mk (st := s_page_in) l_page_in c_page_in k_page_in, (fun_mk (st := s_page_in) l_page_in c_page_in k_page_in).binds (ps := ["schema", "text"]) fun _ _ _ _ _ _ us hl => match us, hl with | [_, _], _ => rfl⟩, g_page_in := PySem.W.mg_of X G a_page_in, d_slots_of := ⟨_, fun_mk (st := s_slots_of) l_slots_of c_slots_of k_slots_of, (fun_mk (st := s_slots_of) l_slots_of c_slots_of k_slots_of).binds (ps := ["schema", "table"]) fun _ _ _ _ _ _ us hl => match us, hl with | [_, _], _ => rfl⟩, g_slots_of := PySem.W.mg_of X G a_slots_of, d_newest := ⟨_, fun_mk (st := s_newest) l_newest c_newest k_newest, (fun_mk (st := s_newest) l_newest c_newest k_newest).binds (ps := ["disk", "schema", "table"]) fun _ _ _ _ _ _ us hl => match us, hl with | [_, _, _], _ => rfl⟩, g_newest := PySem.W.mg_of X G a_newest, d_late_page := ⟨_, fun_mk (st := s_late_page) l_late_page c_late_page k_late_page, (fun_mk (st := s_late_page) l_late_page c_late_page k_late_page).binds (ps := ["disk", "schema", "table", "last", "many", "rows"]) fun _ _ _ _ _ _ us hl => match us, hl with | [_, _, _, _, _, _], _ => rfl⟩, g_late_page := PySem.W.mg_of X G a_late_page, d_law_cell := ⟨_, fun_mk (st := s_law_cell) l_law_cell c_law_cell k_law_cell, (fun_mk (st := s_law_cell) l_law_cell c_law_cell k_law_cell).binds (ps := ["_law_script", "_law_k"]) fun _ _ _ _ _ _ us hl => match us, hl with | [_, _], _ => rfl⟩, g_law_cell := PySem.W.mg_of X G a_law_cell, d_law_draws := ⟨_, fun_mk (st := s_law_draws) l_law_draws c_law_draws k_law_draws, (fun_mk (st := s_law_draws) l_law_draws c_law_draws k_law_draws).binds (ps := ["_law_cell_here", "_law_many"]) fun _ _ _ _ _ _ us hl => match us, hl with | [_, _], _ => rfl⟩, g_law_draws := PySem.W.mg_of X G a_law_draws, d_law_names := ⟨_, fun_mk (st := s_law_names) l_law_names c_law_names k_law_names, (fun_mk (st := s_law_names) l_law_names c_law_names k_law_names).binds (ps := ["_law_cell_here", "_law_many"]) fun _ _ _ _ _ _ us hl => match us, hl with | [_, _], _ => rfl⟩, g_law_names := PySem.W.mg_of X G a_law_names, d_law_schema := ⟨_, fun_mk (st := s_law_schema) l_law_schema c_law_schema k_law_schema, (fun_mk (st := s_law_schema) l_law_schema c_law_schema k_law_schema).binds (ps := ["_law_cell_here"]) fun _ _ _ _ _ _ us hl => match us, hl with | [_], _ => rfl⟩, g_law_schema := PySem.W.mg_of X G a_law_schema, d_law_value := ⟨_, fun_mk (st := s_law_value) l_law_value c_law_value k_law_value, (fun_mk (st := s_law_value) l_law_value c_law_value k_law_value).binds (ps := ["_law_kind", "_law_draw"]) fun _ _ _ _ _ _ us hl => match us, hl with | [_, _], _ => rfl⟩, g_law_value := PySem.W.mg_of X G a_law_value, d_law_row := ⟨_, fun_mk (st := s_law_row) l_law_row c_law_row k_law_row, (fun_mk (st := s_law_row) l_law_row c_law_row k_law_row).binds (ps := ["_law_columns", "_law_draws_here"]) fun _ _ _ _ _ _ us hl => match us, hl with | [_, _], _ => rfl⟩, g_law_row := PySem.W.mg_of X G a_law_row, d_law_table_rows := ⟨_, fun_mk (st := s_law_table_rows) l_law_table_rows c_law_table_rows k_law_table_rows, (fun_mk (st := s_law_table_rows) l_law_table_rows c_law_table_rows k_law_table_rows).binds (ps := ["_law_columns", "_law_cell_here", "_law_many"]) fun _ _ _ _ _ _ us hl => match us, hl with | [_, _, _], _ => rfl⟩, g_law_table_rows := PySem.W.mg_of X G a_law_table_rows, d_law_page_text := ⟨_, fun_mk (st := s_law_page_text) l_law_page_text c_law_page_text k_law_page_text, (fun_mk (st := s_law_page_text) l_law_page_text c_law_page_text k_law_page_text).binds (ps := ["_law_name", "_law_last", "_law_many", "_law_rows"]) fun _ _ _ _ _ _ us hl => match us, hl with | [_, _, _, _], _ => rfl⟩, g_law_page_text := PySem.W.mg_of X G a_law_page_text, d_law_newest := ⟨_, fun_mk (st := s_law_newest) l_law_newest c_law_newest k_law_newest, (fun_mk (st := s_law_newest) l_law_newest c_law_newest k_law_newest).binds (ps := ["_law_tables", "_law_held", "_law_place"]) fun _ _ _ _ _ _ us hl => match us, hl with | [_, _, _], _ => rfl⟩, g_law_newest := PySem.W.mg_of X G a_law_newest, d_law_right := ⟨_, fun_mk (st := s_law_right) l_law_right c_law_right k_law_right, (fun_mk (st := s_law_right) l_law_right c_law_right k_law_right).binds (ps := ["_law_disk", "_law_schema_here", "_law_tables", "_law_held"]) fun _ _ _ _ _ _ us hl => match us, hl with | [_, _, _, _], _ => rfl⟩, g_law_right := PySem.W.mg_of X G a_law_right, d_law_put := ⟨_, fun_mk (st := s_law_put) l_law_put c_law_put k_law_put, (fun_mk (st := s_law_put) l_law_put c_law_put k_law_put).binds (ps := ["_law_disk", "_law_tables", "_law_held", "_law_draws_here"]) fun _ _ _ _ _ _ us hl => match us, hl with | [_, _, _, _], _ => rfl⟩, g_law_put := PySem.W.mg_of X G a_law_put, d_law_late := ⟨_, fun_mk (st := s_law_late) l_law_late c_law_late k_law_late, (fun_mk (st := s_law_late) l_law_late c_law_late k_law_late).binds (ps := ["_law_disk", "_law_schema_here", "_law_tables", "_law_held", "_law_draws_here"]) fun _ _ _ _ _ _ us hl => match us, hl with | [_, _, _, _, _], _ => rfl⟩, g_law_late := PySem.W.mg_of X G a_law_late, d_law_refused := ⟨_, fun_mk (st := s_law_refused) l_law_refused c_law_refused k_law_refused, (fun_mk (st := s_law_refused) l_law_refused c_law_refused k_law_refused).binds (ps := ["_law_disk", "_law_schema_here", "_law_way", "_law_thing"]) fun _ _ _ _ _ _ us hl => match us, hl with | [_, _, _, _], _ => rfl⟩, g_law_refused := PySem.W.mg_of X G a_law_refused, d_law := ⟨_, fun_mk (st := s_law) l_law c_law k_law, (fun_mk (st := s_law) l_law c_law k_law).binds (ps := ["_law_script"]) fun _ _ _ _ _ _ us hl => match us, hl with | [_], _ => rfl⟩, g_law := PySem.W.mg_of X G a_law, xF_NoSchema := xF_NoSchema, kc_NoSchema := kc_NoSchema, xg_NoSchema := xg_NoSchema, xk_NoSchema := xk_NoSchema, xd_NoSchema := xd_NoSchema, xa_NoSchema := xa_NoSchema, xm_NoSchema := xm_NoSchema, xF_Fell := xF_Fell, kc_Fell := kc_Fell, xg_Fell := xg_Fell, xk_Fell := xk_Fell, xd_Fell := xd_Fell, xa_Fell := xa_Fell, xm_Fell := xm_Fell, oe_NoTable := oe_NoTable, os_NoTable := os_NoTable, kc_NoTable := kc_NoTable, xg_NoTable := xg_NoTable, xk_NoTable := xk_NoTable, xd_NoTable := xd_NoTable, xa_NoTable := xa_NoTable, xm_NoTable := xm_NoTable, xf_NoTable_table := xf_NoTable_table, xr_StoreError := xr_StoreError, xs_StoreError := xs_StoreError, xi_StoreError := xi_StoreError, sb_StoreError := sb_StoreError, cb_StoreError := cb_StoreError, tb_StoreError := tb_StoreError, sb_NoSchema := sb_NoSchema, cb_NoSchema := cb_NoSchema, tb_NoSchema := tb_NoSchema, sb_Fell := sb_Fell, cb_Fell := cb_Fell, tb_Fell := tb_Fell, sb_NoTable := sb_NoTable, cb_NoTable := cb_NoTable, tb_NoTable := tb_NoTable, xn := xn, xt := xt, sub_NoTable_NoTable := sub_NoTable_NoTable, sub_Fell_Fell := sub_Fell_Fell, b_abs := PySem.W.mg_none_of X G z_abs, b_enumerate := PySem.W.mg_none_of X G z_enumerate, b_int := PySem.W.mg_none_of X G z_int, b_isinstance := PySem.W.mg_none_of X G z_isinstance, b_len := PySem.W.mg_none_of X G z_len, b_list := PySem.W.mg_none_of X G z_list, b_min := PySem.W.mg_none_of X G z_min, b_range := PySem.W.mg_none_of X G z_range, b_sorted := PySem.W.mg_none_of X G z_sorted, b_str := PySem.W.mg_none_of X G z_str, b_tuple := PySem.W.mg_none_of X G z_tuple, b_zip := PySem.W.mg_none_of X G z_zip, v_FIGURES := ⟨t_FIGURES, PySem.W.mg_of X G u_FIGURES⟩, v_LETTERS := ⟨t_LETTERS, PySem.W.mg_of X G u_LETTERS⟩, v_MOST_COLUMNS := ⟨t_MOST_COLUMNS, PySem.W.mg_of X G u_MOST_COLUMNS⟩, v_MOST_NUMBER := ⟨t_MOST_NUMBER, PySem.W.mg_of X G u_MOST_NUMBER⟩, v_MOST_ORDERS := ⟨t_MOST_ORDERS, PySem.W.mg_of X G u_MOST_ORDERS⟩, v_MOST_ROWS := ⟨t_MOST_ROWS, PySem.W.mg_of X G u_MOST_ROWS⟩, v_MOST_SIGNS := ⟨t_MOST_SIGNS, PySem.W.mg_of X G u_MOST_SIGNS⟩, v_MOST_SLOTS := ⟨t_MOST_SLOTS, PySem.W.mg_of X G u_MOST_SLOTS⟩, v_MOST_TABLES := ⟨t_MOST_TABLES, PySem.W.mg_of X G u_MOST_TABLES⟩ }
  exact ⟨_, fun s v => .of_eq rfl, fun base _ _ => ok_law (fun_mk (st := s_law) l_law c_law k_law) T⟩
theorem walk {l : PySem.W.OpenLaw} {q : Program} {loose : List Str} {XP : (Str → Option Value) → Heap → Prop} {YP : World → Heap → Prop} {d : DefRec} {K : Params → PySem.W.Frag} (hn : l.most = some 63) (hdf : d.params.defaults = [])
    (hY : ∀ (w : World) (h : Heap), YP w h → (K w.params).In h)
    (F : ∀ (w : World) (mg : Str → Option Value) (fa : Addr) (h : Heap), (K w.params).In h → h.Ns mainGlobals mg → mg d.name = some (.ref fa) →
      ∃ fd : FuncData, (∀ (s : Shared) (u : Value), BindsTo s fd ⟨[u], []⟩ [("_law_script", u)]) ∧ ∀ base : Heap, (K w.params).In base → base.Ns mainGlobals mg → FnOk l.prog w (K w.params) mg base CX0 9 fa fd ["_law_script"] (spLaw (K w.params))) :
    PySem.W.WalkO q loose XP YP l.row.toRowW d [] (fun f vs => PySem.call f vs) :=
  L2.walk_of (n := 63) (k := 9) (x := "_law_script") (CX := fun _ => CX0) (sp := fun w => spLaw (K w.params)) hn (by decide) hdf ⟨rfl, by decide, by decide⟩ hY F (fun _ _ a ns hl _ hS => ⟨a, ns, rfl, hS, hl, fun _ => rfl⟩) fun _ _ _ _ _ z => z
end
end Toy
open PySem PySem.W PyProof.Rows in
set_option maxRecDepth 100000 in
set_option maxHeartbeats 0 in
theorem PySem.Challenge.cw_planstore_k24_newest_and_late_holds : PySem.Challenge.rw_planstore_k24_newest_and_late.Holds := by
  w_on; o_law; k_head; (case hw => w_witness2)
  k_fill
  refine Toy.walk (l := PySem.Challenge.rw_planstore_k24_newest_and_late) rfl rfl (fun w h Y => PySem.W.kIn_of Y) ?F
  case F =>
    intro w mg fa h KX G hmg
    refine' Toy.all_mk KX G hmg ?a_Schema ?pg_Schema ?hd_Schema ?po_Schema ?sa_Schema ?mk_Schema ?kc_Schema ?n_Schema_columns ?n_Schema_kept_orders ?a_Disk ?pg_Disk ?hd_Disk ?po_Disk ?sa_Disk ?mk_Disk ?kc_Disk ?n_Disk_held_rows ?n_Disk_held_pages ?n_Disk_many_writes ?n_Disk_due ?n_Disk_is_down ?a_StoreError ?a_NoSchema ?a_Fell ?a_NoTable ?a_is_name ?l_is_name ?c_is_name ?k_is_name ?a_is_kind ?l_is_kind ?c_is_kind ?k_is_kind ?a_value_text ?l_value_text ?c_value_text ?k_value_text ?a_figures_in ?l_figures_in ?c_figures_in ?k_figures_in ?a_value_in ?l_value_in ?c_value_in ?k_value_in ?a_is_row_of ?l_is_row_of ?c_is_row_of ?k_is_row_of ?a_need_pair ?l_need_pair ?c_need_pair ?k_need_pair ?a_columns_in ?l_columns_in ?c_columns_in ?k_columns_in ?a_tables_in ?l_tables_in ?c_tables_in ?k_tables_in ?a_orders_in ?l_orders_in ?c_orders_in ?k_orders_in ?a_Schema___init__ ?i_Schema___init__ ?l_Schema___init__ ?c_Schema___init__ ?k_Schema___init__ ?lD_Schema___init__ ?a_Schema_need_table ?i_Schema_need_table ?l_Schema_need_table ?c_Schema_need_table ?k_Schema_need_table ?a_Schema_table_names ?i_Schema_table_names ?l_Schema_table_names ?c_Schema_table_names ?k_Schema_table_names ?a_Schema_columns_of ?i_Schema_columns_of ?l_Schema_columns_of ?c_Schema_columns_of ?k_Schema_columns_of ?a_NoTable___init__ ?tI_NoTable ?l_NoTable___init__ ?c_NoTable___init__ ?k_NoTable___init__ ?a_Disk___init__ ?i_Disk___init__ ?l_Disk___init__ ?c_Disk___init__ ?k_Disk___init__ ?a_Disk_coming ?i_Disk_coming ?l_Disk_coming ?c_Disk_coming ?k_Disk_coming ?a_Disk_page ?i_Disk_page ?l_Disk_page ?c_Disk_page ?k_Disk_page ?a_Disk_writes ?i_Disk_writes ?l_Disk_writes ?c_Disk_writes ?k_Disk_writes ?a_Disk_fall_at ?i_Disk_fall_at ?l_Disk_fall_at ?c_Disk_fall_at ?k_Disk_fall_at ?a_Disk_power ?i_Disk_power ?l_Disk_power ?c_Disk_power ?k_Disk_power ?a_Disk_put_page ?i_Disk_put_page ?l_Disk_put_page ?c_Disk_put_page ?k_Disk_put_page ?a_values_in ?l_values_in ?c_values_in ?k_values_in ?a_page_text ?l_page_text ?c_page_text ?k_page_text ?a_count_from ?l_count_from ?c_count_from ?k_count_from ?a_rows_in ?l_rows_in ?c_rows_in ?k_rows_in ?a_page_in ?l_page_in ?c_page_in ?k_page_in ?a_slots_of ?l_slots_of ?c_slots_of ?k_slots_of ?a_newest ?l_newest ?c_newest ?k_newest ?a_late_page ?l_late_page ?c_late_page ?k_late_page ?a_law_cell ?l_law_cell ?c_law_cell ?k_law_cell ?a_law_draws ?l_law_draws ?c_law_draws ?k_law_draws ?a_law_names ?l_law_names ?c_law_names ?k_law_names ?a_law_schema ?l_law_schema ?c_law_schema ?k_law_schema ?a_law_value ?l_law_value ?c_law_value ?k_law_value ?a_law_row ?l_law_row ?c_law_row ?k_law_row ?a_law_table_rows ?l_law_table_rows ?c_law_table_rows ?k_law_table_rows ?a_law_page_text ?l_law_page_text ?c_law_page_text ?k_law_page_text ?a_law_newest ?l_law_newest ?c_law_newest ?k_law_newest ?a_law_right ?l_law_right ?c_law_right ?k_law_right ?a_law_put ?l_law_put ?c_law_put ?k_law_put ?a_law_late ?l_law_late ?c_law_late ?k_law_late ?a_law_refused ?l_law_refused ?c_law_refused ?k_law_refused ?a_law ?l_law ?c_law ?k_law ?xF_NoSchema ?kc_NoSchema ?xg_NoSchema ?xk_NoSchema ?xd_NoSchema ?xa_NoSchema ?xm_NoSchema ?xF_Fell ?kc_Fell ?xg_Fell ?xk_Fell ?xd_Fell ?xa_Fell ?xm_Fell ?oe_NoTable ?os_NoTable ?kc_NoTable ?xg_NoTable ?xk_NoTable ?xd_NoTable ?xa_NoTable ?xm_NoTable ?xf_NoTable_table ?xr_StoreError ?xs_StoreError ?xi_StoreError ?sb_StoreError ?cb_StoreError ?tb_StoreError ?sb_NoSchema ?cb_NoSchema ?tb_NoSchema ?sb_Fell ?cb_Fell ?tb_Fell ?sb_NoTable ?cb_NoTable ?tb_NoTable ?xn ?xt ?sub_NoTable_NoTable ?sub_Fell_Fell ?z_abs ?z_enumerate ?z_int ?z_isinstance ?z_len ?z_list ?z_min ?z_range ?z_sorted ?z_str ?z_tuple ?z_zip ?u_FIGURES ?u_LETTERS ?u_MOST_COLUMNS ?u_MOST_NUMBER ?u_MOST_ORDERS ?u_MOST_ROWS ?u_MOST_SIGNS ?u_MOST_SLOTS ?u_MOST_TABLES
    (case a_Schema => k_is)
    (case pg_Schema => k_is)
    (case hd_Schema => k_is)
    (case po_Schema => k_is)
    (case sa_Schema => k_is)
    (case mk_Schema => k_is)
    (case kc_Schema => k_is)
    (case n_Schema_columns => k_is)
    (case n_Schema_kept_orders => k_is)
    (case a_Disk => k_is)
    (case pg_Disk => k_is)
    (case hd_Disk => k_is)
    (case po_Disk => k_is)
    (case sa_Disk => k_is)
    (case mk_Disk => k_is)
    (case kc_Disk => k_is)
    (case n_Disk_held_rows => k_is)
    (case n_Disk_held_pages => k_is)
    (case n_Disk_many_writes => k_is)
    (case n_Disk_due => k_is)
    (case n_Disk_is_down => k_is)
    (case a_StoreError => k_is)
    (case a_NoSchema => k_is)
    (case a_Fell => k_is)
    (case a_NoTable => k_is)
    (case a_is_name => k_is)
    (case l_is_name => k_is)
    (case c_is_name => k_is)
    (case k_is_name => k_is)
    (case a_is_kind => k_is)
    (case l_is_kind => k_is)
    (case c_is_kind => k_is)
    (case k_is_kind => k_is)
    (case a_value_text => k_is)
    (case l_value_text => k_is)
    (case c_value_text => k_is)
    (case k_value_text => k_is)
    (case a_figures_in => k_is)
    (case l_figures_in => k_is)
    (case c_figures_in => k_is)
    (case k_figures_in => k_is)
    (case a_value_in => k_is)
    (case l_value_in => k_is)
    (case c_value_in => k_is)
    (case k_value_in => k_is)
    (case a_is_row_of => k_is)
    (case l_is_row_of => k_is)
    (case c_is_row_of => k_is)
    (case k_is_row_of => k_is)
    (case a_need_pair => k_is)
    (case l_need_pair => k_is)
    (case c_need_pair => k_is)
    (case k_need_pair => k_is)
    (case a_columns_in => k_is)
    (case l_columns_in => k_is)
    (case c_columns_in => k_is)
    (case k_columns_in => k_is)
    (case a_tables_in => k_is)
    (case l_tables_in => k_is)
    (case c_tables_in => k_is)
    (case k_tables_in => k_is)
    (case a_orders_in => k_is)
    (case l_orders_in => k_is)
    (case c_orders_in => k_is)
    (case k_orders_in => k_is)
    (case a_Schema___init__ => k_is)
    (case i_Schema___init__ => k_is)
    (case l_Schema___init__ => k_is)
    (case c_Schema___init__ => k_is)
    (case k_Schema___init__ => k_is)
    (case lD_Schema___init__ => k_is)
    (case a_Schema_need_table => k_is)
    (case i_Schema_need_table => k_is)
    (case l_Schema_need_table => k_is)
    (case c_Schema_need_table => k_is)
    (case k_Schema_need_table => k_is)
    (case a_Schema_table_names => k_is)
    (case i_Schema_table_names => k_is)
    (case l_Schema_table_names => k_is)
    (case c_Schema_table_names => k_is)
    (case k_Schema_table_names => k_is)
    (case a_Schema_columns_of => k_is)
    (case i_Schema_columns_of => k_is)
    (case l_Schema_columns_of => k_is)
    (case c_Schema_columns_of => k_is)
    (case k_Schema_columns_of => k_is)
    (case a_NoTable___init__ => k_is)
    (case tI_NoTable => k_is)
    (case l_NoTable___init__ => k_is)
    (case c_NoTable___init__ => k_is)
    (case k_NoTable___init__ => k_is)
    (case a_Disk___init__ => k_is)
    (case i_Disk___init__ => k_is)
    (case l_Disk___init__ => k_is)
    (case c_Disk___init__ => k_is)
    (case k_Disk___init__ => k_is)
    (case a_Disk_coming => k_is)
    (case i_Disk_coming => k_is)
    (case l_Disk_coming => k_is)
    (case c_Disk_coming => k_is)
    (case k_Disk_coming => k_is)
    (case a_Disk_page => k_is)
    (case i_Disk_page => k_is)
    (case l_Disk_page => k_is)
    (case c_Disk_page => k_is)
    (case k_Disk_page => k_is)
    (case a_Disk_writes => k_is)
    (case i_Disk_writes => k_is)
    (case l_Disk_writes => k_is)
    (case c_Disk_writes => k_is)
    (case k_Disk_writes => k_is)
    (case a_Disk_fall_at => k_is)
    (case i_Disk_fall_at => k_is)
    (case l_Disk_fall_at => k_is)
    (case c_Disk_fall_at => k_is)
    (case k_Disk_fall_at => k_is)
    (case a_Disk_power => k_is)
    (case i_Disk_power => k_is)
    (case l_Disk_power => k_is)
    (case c_Disk_power => k_is)
    (case k_Disk_power => k_is)
    (case a_Disk_put_page => k_is)
    (case i_Disk_put_page => k_is)
    (case l_Disk_put_page => k_is)
    (case c_Disk_put_page => k_is)
    (case k_Disk_put_page => k_is)
    (case a_values_in => k_is)
    (case l_values_in => k_is)
    (case c_values_in => k_is)
    (case k_values_in => k_is)
    (case a_page_text => k_is)
    (case l_page_text => k_is)
    (case c_page_text => k_is)
    (case k_page_text => k_is)
    (case a_count_from => k_is)
    (case l_count_from => k_is)
    (case c_count_from => k_is)
    (case k_count_from => k_is)
    (case a_rows_in => k_is)
    (case l_rows_in => k_is)
    (case c_rows_in => k_is)
    (case k_rows_in => k_is)
    (case a_page_in => k_is)
    (case l_page_in => k_is)
    (case c_page_in => k_is)
    (case k_page_in => k_is)
    (case a_slots_of => k_is)
    (case l_slots_of => k_is)
    (case c_slots_of => k_is)
    (case k_slots_of => k_is)
    (case a_newest => k_is)
    (case l_newest => k_is)
    (case c_newest => k_is)
    (case k_newest => k_is)
    (case a_late_page => k_is)
    (case l_late_page => k_is)
    (case c_late_page => k_is)
    (case k_late_page => k_is)
    (case a_law_cell => k_is)
    (case l_law_cell => k_is)
    (case c_law_cell => k_is)
    (case k_law_cell => k_is)
    (case a_law_draws => k_is)
    (case l_law_draws => k_is)
    (case c_law_draws => k_is)
    (case k_law_draws => k_is)
    (case a_law_names => k_is)
    (case l_law_names => k_is)
    (case c_law_names => k_is)
    (case k_law_names => k_is)
    (case a_law_schema => k_is)
    (case l_law_schema => k_is)
    (case c_law_schema => k_is)
    (case k_law_schema => k_is)
    (case a_law_value => k_is)
    (case l_law_value => k_is)
    (case c_law_value => k_is)
    (case k_law_value => k_is)
    (case a_law_row => k_is)
    (case l_law_row => k_is)
    (case c_law_row => k_is)
    (case k_law_row => k_is)
    (case a_law_table_rows => k_is)
    (case l_law_table_rows => k_is)
    (case c_law_table_rows => k_is)
    (case k_law_table_rows => k_is)
    (case a_law_page_text => k_is)
    (case l_law_page_text => k_is)
    (case c_law_page_text => k_is)
    (case k_law_page_text => k_is)
    (case a_law_newest => k_is)
    (case l_law_newest => k_is)
    (case c_law_newest => k_is)
    (case k_law_newest => k_is)
    (case a_law_right => k_is)
    (case l_law_right => k_is)
    (case c_law_right => k_is)
    (case k_law_right => k_is)
    (case a_law_put => k_is)
    (case l_law_put => k_is)
    (case c_law_put => k_is)
    (case k_law_put => k_is)
    (case a_law_late => k_is)
    (case l_law_late => k_is)
    (case c_law_late => k_is)
    (case k_law_late => k_is)
    (case a_law_refused => k_is)
    (case l_law_refused => k_is)
    (case c_law_refused => k_is)
    (case k_law_refused => k_is)
    (case a_law => k_is)
    (case l_law => k_is)
    (case c_law => k_is)
    (case k_law => k_is)
    (case xF_NoSchema => k_exc)
    (case kc_NoSchema => k_is)
    (case xg_NoSchema => k_is)
    (case xk_NoSchema => k_is)
    (case xd_NoSchema => k_is)
    (case xa_NoSchema => k_is)
    (case xm_NoSchema => k_is)
    (case xF_Fell => k_exc)
    (case kc_Fell => k_is)
    (case xg_Fell => k_is)
    (case xk_Fell => k_is)
    (case xd_Fell => k_is)
    (case xa_Fell => k_is)
    (case xm_Fell => k_is)
    (case oe_NoTable => kernel_rfl)
    (case os_NoTable => k_is)
    (case kc_NoTable => k_is)
    (case xg_NoTable => k_is)
    (case xk_NoTable => k_is)
    (case xd_NoTable => k_is)
    (case xa_NoTable => k_is)
    (case xm_NoTable => k_is)
    (case xf_NoTable_table => k_is)
    (case xr_StoreError => k_is)
    (case xs_StoreError => k_is)
    (case xi_StoreError => k_is)
    (case sb_StoreError => k_is)
    (case cb_StoreError => k_is)
    (case tb_StoreError => k_is)
    (case sb_NoSchema => k_is)
    (case cb_NoSchema => k_is)
    (case tb_NoSchema => k_is)
    (case sb_Fell => k_is)
    (case cb_Fell => k_is)
    (case tb_Fell => k_is)
    (case sb_NoTable => k_is)
    (case cb_NoTable => k_is)
    (case tb_NoTable => k_is)
    (case xn => k_is)
    (case xt => k_is)
    (case sub_NoTable_NoTable => k_is)
    (case sub_Fell_Fell => k_is)
    (case z_abs => k_is)
    (case z_enumerate => k_is)
    (case z_int => k_is)
    (case z_isinstance => k_is)
    (case z_len => k_is)
    (case z_list => k_is)
    (case z_min => k_is)
    (case z_range => k_is)
    (case z_sorted => k_is)
    (case z_str => k_is)
    (case z_tuple => k_is)
    (case z_zip => k_is)
    (case u_FIGURES => k_is)
    (case u_LETTERS => k_is)
    (case u_MOST_COLUMNS => k_is)
    (case u_MOST_NUMBER => k_is)
    (case u_MOST_ORDERS => k_is)
    (case u_MOST_ROWS => k_is)
    (case u_MOST_SIGNS => k_is)
    (case u_MOST_SLOTS => k_is)
    (case u_MOST_TABLES => k_is)
