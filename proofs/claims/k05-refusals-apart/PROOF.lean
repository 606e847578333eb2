import PyProof.Rows.All
import Wide.All
import OpenK.AllK
import Wide.FinOn
import HandS.ForMost
import HandS.WideBits
import HandS.RaiseMore
import HandS.IsInst
import HandS.TryOnly
import HandS.Exc
import HandS.Evl
import HandS.TupLe
import HandS.TupAny
import HandS.Walk
import HandS.Deep
import HandS.ListItems
import HandS.Conv
import HandS.Defaults
import HandS.Zip
import HandS.More
import HandS.ExcOwn
import HandS.ExcIs
import HandS.WordsExc
import HandS.ExcInit
import HandS.ExcField
import HandS.TryMany
import HandS.ExcValue
import KE.KExcIs
import PySem.Challenge.RW_planstore_k05_refusals_apart
set_option Elab.async false
set_option linter.all false
set_option maxRecDepth 100000
set_option maxHeartbeats 40000000
/-! ### the state of a def: blocks of objects that are ours, over a frame that stands still -/
namespace Z
open PySem L2
structure Hs (L : List (Addr × HO)) (F H : Hp) : Prop where
  nd : (L.map (·.1)).Nodup
  own : ∀ p o, (p, o) ∈ L → H p = some o ∧ F p = none
  fr : ∀ b o, F b = some o → H b = some o
/-- every cell of the block stands -/
def Sees (b : List (Addr × HO)) (H : Hp) : Prop := ∀ p o, (p, o) ∈ b → H p = some o
theorem Sees.same {b : List (Addr × HO)} {H H' : Hp} (s : Sees b H) (e : Same H H') : Sees b H' := fun p o m => e p o (s p o m)
theorem Sees.at {b : List (Addr × HO)} {H : Hp} (s : Sees b H) (i : Nat) {p : Addr} {o : HO} (h : b[i]? = some (p, o)) : H p = some o := s p o (List.mem_of_getElem? h)
section
variable {L L1 L2 : List (Addr × HO)} {F H H' : Hp} {p : Addr} {o o' : HO}
theorem Hs.same (S : Hs L F H) : Same F H := S.fr
theorem Hs.sees (S : Hs L F H) : Sees L H := fun p o m => (S.own p o m).1
theorem Hs.at (S : Hs L F H) (i : Nat) (h : L[i]? = some (p, o)) : H p = some o := S.sees.at i h
theorem Hs.nil : Hs [] H H := ⟨List.nodup_nil, fun _ _ m => (nomatch m), fun _ _ e => e⟩
theorem Hs.ext (S : Hs L F H) (e : Same H H') : Hs L F H' := ⟨S.nd, fun p o m => ⟨e p o (S.own p o m).1, (S.own p o m).2⟩, fun b o q => e b o (S.fr b o q)⟩
theorem Hs.fresh (S : Hs L F H) (hp : H p = none) : p ∉ L.map (·.1) ∧ F p = none := by
  refine ⟨fun m => ?_, ?_⟩
  · obtain ⟨⟨q, u⟩, m, e⟩ := List.mem_map.mp m
    have h := (S.own q u m).1
    have e' : q = p := e
    rw [e', hp] at h
    cases h
  · cases h : F p with
    | none => rfl
    | some u => rw [S.fr p u h] at hp; cases hp
theorem same_new (hp : H p = none) : Same H (upd H p o) := fun b u e => by rw [upd_ne (ne_of_none e hp)]; exact e
theorem Hs.add (S : Hs L F H) (e : Same H H') (hp : H p = none) (h : H' p = some o) : Hs ((p, o) :: L) F H' := by
  obtain ⟨h1, h2⟩ := S.fresh hp
  refine ⟨List.nodup_cons.mpr ⟨h1, S.nd⟩, fun q u m => ?_, fun b u q => e b u (S.fr b u q)⟩
  rcases List.mem_cons.mp m with m | m
  · cases m
    exact ⟨h, h2⟩
  · exact ⟨e q u (S.own q u m).1, (S.own q u m).2⟩
theorem Hs.new (S : Hs L F H) (hp : H p = none) : Hs ((p, o) :: L) F (upd H p o) := S.add (same_new hp) hp upd_same
theorem Hs.head (S : Hs ((p, o) :: L) F H) (o' : HO) : Hs ((p, o') :: L) F (upd H p o') := by
  have nd := S.nd
  rw [List.map_cons, List.nodup_cons] at nd
  refine ⟨by rw [List.map_cons, List.nodup_cons]; exact nd, fun q u m => ?_, fun b u q => ?_⟩
  · rcases List.mem_cons.mp m with m | m
    · cases m
      exact ⟨upd_same, (S.own p o List.mem_cons_self).2⟩
    · have hne : q ≠ p := fun e => nd.1 (List.mem_map.mpr ⟨(q, u), m, e⟩)
      have h := S.own q u (List.mem_cons_of_mem _ m)
      exact ⟨by rw [upd_ne hne]; exact h.1, h.2⟩
  · have hne : b ≠ p := fun e => by
      have := (S.own p o List.mem_cons_self).2
      rw [e, this] at q
      cases q
    rw [upd_ne hne]
    exact S.fr b u q
theorem Hs.perm (S : Hs L F H) (e : L.Perm L1) : Hs L1 F H := ⟨(e.map _).nodup_iff.mp S.nd, fun p o m => S.own p o (e.mem_iff.mpr m), S.fr⟩
theorem set_perm : ∀ {L : List (Addr × HO)} {i : Nat} {x : Addr × HO}, L[i]? = some x → ∀ y, (L.set i y).Perm (y :: L.eraseIdx i)
  | [], i, x, h, y => by simp at h
  | a :: r, 0, x, h, y => List.Perm.refl _
  | a :: r, i + 1, x, h, y => by
    have ih := set_perm (L := r) (i := i) (x := x) (by simpa using h) y
    exact (List.Perm.cons a ih).trans (List.Perm.swap _ _ _)
theorem self_perm {L : List (Addr × HO)} {i : Nat} {x : Addr × HO} (h : L[i]? = some x) : L.Perm (x :: L.eraseIdx i) := by
  have e := set_perm h x
  have : L.set i x = L := by
    obtain ⟨h1, h2⟩ := List.getElem?_eq_some_iff.mp h
    rw [← h2]
    exact List.set_getElem_self h1
  rw [this] at e
  exact e
theorem Hs.set (S : Hs L F H) (i : Nat) (h : L[i]? = some (p, o)) (o' : HO) : Hs (L.set i (p, o')) F (upd H p o') :=
  ((S.perm (self_perm h)).head o').perm (set_perm h (p, o')).symm
theorem Hs.sub (S : Hs L F H) (e : L1.Sublist L) : Hs L1 F H := ⟨(e.map _).nodup S.nd, fun p o m => S.own p o (e.subset m), S.fr⟩
/-- some cells, by their places, in any order -/
theorem Hs.pick (S : Hs L F H) : ∀ (is : List Nat) {L' : List (Addr × HO)}, is.Nodup → is.map (fun i => L[i]?) = L'.map some → Hs L' F H
  | is, L', hn, h => by
    have mem : ∀ x ∈ L', ∃ i ∈ is, L[i]? = some x := fun x hx => by
      have : some x ∈ is.map (fun i => L[i]?) := by rw [h]; exact List.mem_map.mpr ⟨x, hx, rfl⟩
      obtain ⟨i, hi, e⟩ := List.mem_map.mp this
      exact ⟨i, hi, e⟩
    refine ⟨?_, fun p o m => ?_, S.fr⟩
    · clear mem
      induction is generalizing L' with
      | nil =>
        cases L' with
        | nil => exact List.nodup_nil
        | cons a r => cases h
      | cons i is ih =>
        cases L' with
        | nil => cases h
        | cons a r =>
          rw [List.map_cons, List.map_cons, List.cons.injEq] at h
          obtain ⟨h1, h2⟩ := h
          rw [List.nodup_cons] at hn
          rw [List.map_cons, List.nodup_cons]
          refine ⟨fun m => ?_, ih r hn.2 h2⟩
          obtain ⟨b, hb, e⟩ := List.mem_map.mp m
          have : some b ∈ is.map (fun i => L[i]?) := by rw [h2]; exact List.mem_map.mpr ⟨b, hb, rfl⟩
          obtain ⟨j, hj, e2⟩ := List.mem_map.mp this
          have f1 : (L.map (·.1))[i]? = some a.1 := by rw [List.getElem?_map, h1]; rfl
          have f2 : (L.map (·.1))[j]? = some b.1 := by rw [List.getElem?_map]; show Option.map _ (L[j]?) = _; rw [e2]; rfl
          rw [e] at f2
          have : i = j := nd_ix S.nd f1 f2
          rw [this] at hn
          exact hn.1 hj
    · obtain ⟨i, _, e⟩ := mem _ m
      exact S.own p o (List.mem_of_getElem? e)
/-- what stands beside L1 goes into the frame, and comes back behind -/
theorem Hs.split (S : Hs (L1 ++ L2) F H) : ∃ F', Hs L1 F' H ∧ (Same F F' ∧ Sees L2 F') ∧ ∀ L' H', Hs L' F' H' → Hs (L' ++ L2) F H' := by
  have nd := S.nd
  rw [List.map_append, List.nodup_append] at nd
  obtain ⟨n1, n2, n3⟩ := nd
  have key : ∀ p o, (p, o) ∈ L2 → List.lookup p L2 = some o := by
    clear S n3
    induction L2 with
    | nil => intro p o m; cases m
    | cons a r ih =>
      intro p o m
      rw [List.map_cons, List.nodup_cons] at n2
      obtain ⟨q, u⟩ := a
      rcases List.mem_cons.mp m with m | m
      · cases m
        simp [List.lookup]
      · have hne : p ≠ q := fun e => n2.1 (List.mem_map.mpr ⟨(p, o), m, e⟩)
        have hb : (p == q) = false := by simpa using hne
        simp only [List.lookup, hb]
        exact ih n2.2 p o m
  have back : ∀ p o, List.lookup p L2 = some o → (p, o) ∈ L2 := by
    clear S n3 n2 key
    induction L2 with
    | nil => intro p o m; cases m
    | cons a r ih =>
      intro p o m
      obtain ⟨q, u⟩ := a
      by_cases e : p = q
      · subst e
        simp [List.lookup] at m
        subst m
        exact List.mem_cons_self
      · have hb : (p == q) = false := by simpa using e
        simp only [List.lookup, hb] at m
        exact List.mem_cons_of_mem _ (ih p o m)
  refine ⟨fun b => (List.lookup b L2).or (F b), ⟨n1, fun p o m => ⟨(S.own p o (List.mem_append_left _ m)).1, ?_⟩, fun b o q => ?_⟩, ⟨fun b o q => ?_, fun p o m => by simp [key p o m]⟩, fun L' H' S' => ⟨?_, fun p o m => ?_, fun b o q => ?_⟩⟩
  · cases h : List.lookup p L2 with
    | none => exact (S.own p o (List.mem_append_left _ m)).2
    | some u => exact absurd rfl (n3 p (List.mem_map.mpr ⟨_, m, rfl⟩) p (List.mem_map.mpr ⟨_, back p u h, rfl⟩))
  · cases h : List.lookup b L2 with
    | none =>
      have q' : F b = some o := by simpa [h] using q
      exact S.fr b o q'
    | some u =>
      have q' : u = o := by simpa [h] using q
      subst q'
      exact (S.own b u (List.mem_append_right _ (back b u h))).1
  · show (List.lookup b L2).or (F b) = some o
    cases h : List.lookup b L2 with
    | none => exact q
    | some u => rw [(S.own b u (List.mem_append_right _ (back b u h))).2] at q; cases q
  · rw [List.map_append, List.nodup_append]
    refine ⟨S'.nd, n2, fun a ha b hb e => ?_⟩
    subst e
    obtain ⟨⟨q, u⟩, m, rfl⟩ := List.mem_map.mp ha
    obtain ⟨⟨q', u'⟩, m', e⟩ := List.mem_map.mp hb
    have e' : q' = q := e
    subst e'
    have h := (S'.own _ u m).2
    simp [key _ u' m'] at h
  · rcases List.mem_append.mp m with m | m
    · obtain ⟨h1, h2⟩ := S'.own p o m
      refine ⟨h1, ?_⟩
      cases h : List.lookup p L2 with
      | none => simpa [h] using h2
      | some u => simp [h] at h2
    · exact ⟨S'.fr p o (by simp [key p o m]), (S.own p o (List.mem_append_right _ m)).2⟩
  · refine S'.fr b o ?_
    show (List.lookup b L2).or (F b) = some o
    cases h : List.lookup b L2 with
    | none => exact q
    | some u => rw [(S.own b u (List.mem_append_right _ (back b u h))).2] at q; cases q
theorem flat_perm : ∀ {Ls : List (List (Addr × HO))} {i : Nat} {b : List (Addr × HO)}, Ls[i]? = some b → ∀ c, (Ls.set i c).flatten.Perm (c ++ (Ls.eraseIdx i).flatten)
  | [], i, b, h, c => by simp at h
  | a :: r, 0, b, h, c => List.Perm.refl _
  | a :: r, i + 1, b, h, c => by
    have ih := flat_perm (Ls := r) (i := i) (b := b) (by simpa using h) c
    show (a ++ (r.set i c).flatten).Perm (c ++ (a ++ (r.eraseIdx i).flatten))
    refine (List.Perm.append_left a ih).trans ?_
    rw [← List.append_assoc, ← List.append_assoc]
    exact List.Perm.append_right _ List.perm_append_comm
theorem set_self {α : Type} {Ls : List α} {i : Nat} {b : α} (h : Ls[i]? = some b) : Ls.set i b = Ls := by
  obtain ⟨h1, h2⟩ := List.getElem?_eq_some_iff.mp h
  rw [← h2]
  exact List.set_getElem_self h1
/-- the i-th block taken out, changed, put back -/
theorem Hs.block {Ls : List (List (Addr × HO))} (S : Hs Ls.flatten F H) (i : Nat) {b : List (Addr × HO)} (h : Ls[i]? = some b) :
    ∃ F', Hs b F' H ∧ (Same F F' ∧ Sees (Ls.eraseIdx i).flatten F') ∧ ∀ c H', Hs c F' H' → Hs (Ls.set i c).flatten F H' := by
  have p := flat_perm h b
  rw [set_self h] at p
  obtain ⟨F', S', sm, k⟩ := (S.perm p).split
  exact ⟨F', S', sm, fun c H' q => (k c H' q).perm (flat_perm h c).symm⟩
/-- another block in the stead of the i-th -/
theorem Hs.swap {Ls : List (List (Addr × HO))} {c : List (Addr × HO)} (S : Hs (c ++ Ls.flatten) F H) (i : Nat) {b : List (Addr × HO)} (h : Ls[i]? = some b) : Hs (Ls.set i c).flatten F H := by
  have p := flat_perm h b
  rw [set_self h] at p
  have S1 : Hs (c ++ (b ++ (Ls.eraseIdx i).flatten)) F H := S.perm (List.Perm.append_left c p)
  exact (S1.sub (List.Sublist.append_left (List.sublist_append_right _ _) c)).perm (flat_perm h c).symm
theorem Hs.join {new : List (Addr × HO)} (N : Hs new H H') (S : Hs L F H) : Hs (new ++ L) F H' := by
  refine ⟨?_, fun p o m => ?_, fun b o q => N.fr b o (S.fr b o q)⟩
  · rw [List.map_append, List.nodup_append]
    refine ⟨N.nd, S.nd, fun a ha b hb e => ?_⟩
    subst e
    obtain ⟨⟨q, u⟩, m, rfl⟩ := List.mem_map.mp ha
    obtain ⟨⟨q', u'⟩, m', e⟩ := List.mem_map.mp hb
    have e' : q' = q := e
    subst e'
    have h1 := (N.own _ u m).2
    rw [(S.own _ u' m').1] at h1
    cases h1
  · rcases List.mem_append.mp m with m | m
    · obtain ⟨h1, h2⟩ := N.own p o m
      refine ⟨h1, ?_⟩
      cases h : F p with
      | none => rfl
      | some u => rw [S.fr p u h] at h2; cases h2
    · obtain ⟨h1, h2⟩ := S.own p o m
      exact ⟨N.fr p o h1, h2⟩
theorem Hs.base {F0 : Hp} (S : Hs L F H) (e : Same F0 F) : Hs L F0 H := ⟨S.nd, fun p o m => ⟨(S.own p o m).1, e.free (S.own p o m).2⟩, fun b o q => S.fr b o (e b o q)⟩
/-- all else into the frame -/
theorem Hs.all (S : Hs L F H) : ∃ F', Hs L F' H ∧ (∀ b o, b ∉ L.map (·.1) → H b = some o → F' b = some o) ∧ Same F F' := by
  refine ⟨fun b => if b ∈ L.map (·.1) then none else H b, ⟨S.nd, fun p o m => ⟨(S.own p o m).1, if_pos (List.mem_map.mpr ⟨_, m, rfl⟩)⟩, fun b o q => ?_⟩, fun b o h q => (if_neg h).trans q, fun b o q => ?_⟩
  · by_cases h : b ∈ L.map (·.1)
    · rw [if_pos h] at q; cases q
    · rwa [if_neg h] at q
  · have h : b ∉ L.map (·.1) := fun h => by
      obtain ⟨⟨p, u⟩, m, e⟩ := List.mem_map.mp h
      have e' : p = b := e
      rw [← e', (S.own p u m).2] at q
      cases q
    exact (if_neg h).trans (S.fr b o q)
theorem Hs.blk {Ls : List (List (Addr × HO))} (S : Hs Ls.flatten F H) (i : Nat) {b : List (Addr × HO)} (h : Ls[i]? = some b) : Sees b H := fun p o m =>
  (S.own p o (List.mem_flatten.mpr ⟨b, List.mem_of_getElem? h, m⟩)).1
end
end Z
/-! ### readings, one word a construct -/
namespace Z
open PySem L2
/-- one of several readings, chosen where it is asked -/
def tEx {ι : Type} (p : ι → Prop) (t : ι → TE) : TE := fun σ H Q => ∃ i, p i ∧ t i σ H Q
/-- a new list, a new tuple of these values -/
abbrev rLst (xs : List V) (H : Hp) (Q : VK) : Prop := xs.length ≤ sizeLine ∧ ∀ p, H p = none → Q (.ref p) (upd H p (.lst xs))
abbrev rTup (xs : List V) (H : Hp) (Q : VK) : Prop := xs.length ≤ sizeLine ∧ ∀ p, H p = none → Q (.ref p) (upd H p (.tup xs))
/-- C(), no __init__ but object's -/
def tMakeO (C : Addr) : TE := fun _ H Q => ∀ a dx, H a = none → H dx = none → dx ≠ a → Q (.ref a) (upd (upd H dx (.own a)) a (.ins C dx []))
/-- a slice's part that may be None -/
def tPartN (t : TE) : TO := fun σ H Q => t σ H fun x H1 => (x = .non ∧ Q none H1) ∨ ∃ i, x = .int i ∧ Q (some i) H1
section
variable {σ : L2.St} {H : Hp} {Q : VK} {QB : Bool → Hp → Prop} {D : Ends} {t1 t2 ts tu : TS} {te ta tb tv tx : TE} {tt t u : TT} {v x y : V} {i : Nat} {K : PySem.W.Frag} {R : List V → Hp → Prop} {tA tr : TA}
theorem seq (h : t1 { D with nx := t2 D } σ H) : tSeq t1 t2 D σ H := h
theorem next (h : D.nx σ H) : tNext D σ H := h
theorem var (h : σ[i]? = some (some v)) (k : Q v H) : tVar i σ H Q := ⟨v, h, k⟩
theorem con (k : Q v H) : tC v σ H Q := k
theorem asg (h : te σ H fun x H1 => D.nx (σ.set i (some x)) H1) : tAsg te (gName i) D σ H := h
theorem drop (h : te σ H fun _ H1 => D.nx σ H1) : tDrop te D σ H := h
theorem ret (h : te σ H D.rt) : tRet te D σ H := h
theorem retN (h : D.rt .non H) : tRetN D σ H := h
theorem ifS (h : tt σ H fun b H1 => if b = true then t1 D σ H1 else t2 D σ H1) : tIfS tt t1 t2 D σ H := h
theorem op {r : R2} (h : ta σ H fun x H1 => tb σ H1 fun y H2 => r x y H2 Q) : tOp r ta tb σ H Q := h
theorem un {r : V → Hp → VK → Prop} (h : ta σ H fun x H1 => r x H1 Q) : tUn r ta σ H Q := h
theorem i0 {g : Int → Int → V} {a b : Int} (k : Q (g a b) H) : rI0 g (.int a) (.int b) H Q := ⟨a, b, rfl, rfl, k⟩
theorem ic {C : Int → Int → Prop} {g : Int → Int → V} {a b : Int} (c : C a b) (k : Q (g a b) H) : rI C g (.int a) (.int b) H Q := ⟨a, b, rfl, rfl, c, k⟩
theorem eqS (h : scal x y = true) (k : Q (.bl (decide (x = y))) H) : rEq x y H Q := ⟨h, k⟩
theorem neS (h : scal x y = true) (k : Q (.bl (!decide (x = y))) H) : rNe x y H Q := ⟨h, k⟩
theorem test {b : Bool} (h : te σ H fun x H' => ∃ k, x = .bl k ∧ QB k H') : tTest te σ H QB := h
theorem tstB {b : Bool} (k : QB b H) : ∃ k, (V.bl b) = .bl k ∧ QB k H := ⟨b, rfl, k⟩
theorem bB (h : te σ H fun x H1 => ∃ c, x = .bl c ∧ QB c H1) : tB te σ H QB := h
theorem andT (h : t σ H fun c H1 => if c = true then u σ H1 QB else QB false H1) : tAnd t u σ H QB := h
theorem orT (h : t σ H fun c H1 => if c = true then QB true H1 else u σ H1 QB) : tOr t u σ H QB := h
theorem notT (h : t σ H fun c H1 => QB (!c) H1) : tNot t σ H QB := h
theorem andV (h : ta σ H fun x H1 => ∃ c, x = .bl c ∧ if c = true then tb σ H1 Q else Q (.bl false) H1) : tAndV ta tb σ H Q := h
theorem orV (h : ta σ H fun x H1 => ∃ c, x = .bl c ∧ if c = true then Q (.bl true) H1 else tb σ H1 Q) : tOrV ta tb σ H Q := h
theorem notV (h : ta σ H fun x H1 => ∃ c, x = .bl c ∧ Q (.bl (!c)) H1) : tNotV ta σ H Q := h
theorem ifE (h : tt σ H fun c H1 => if c = true then ta σ H1 Q else tb σ H1 Q) : tIf tt ta tb σ H Q := h
theorem blE {b : Bool} {P : Bool → Prop} (k : P b) : ∃ c, (V.bl b) = .bl c ∧ P c := ⟨b, rfl, k⟩
theorem nil (k : R [] H) : tNil σ H R := k
theorem cons (h : ta σ H fun x H1 => tr σ H1 fun xs H2 => R (x :: xs) H2) : tCons ta tr σ H R := h
theorem fld {f : Str} (h : ta σ H fun x H1 => ∃ a C dx fs v, x = .ref a ∧ H1 a = some (.ins C dx fs) ∧ Cls K C ∧ NoAttr K C f ∧ fs.lookup f = some v ∧ Q v H1) : tFld K ta f σ H Q := h
theorem fldE {a C dx : Addr} {fs : List (Str × V)} {f : Str} {R : V → Prop} (ho : H a = some (.ins C dx fs)) (c : Cls K C) (n : NoAttr K C f) (l : fs.lookup f = some v) (k : R v) :
    ∃ a' C dx fs v, (V.ref a) = .ref a' ∧ H a' = some (.ins C dx fs) ∧ Cls K C ∧ NoAttr K C f ∧ fs.lookup f = some v ∧ R v := ⟨a, C, dx, fs, v, rfl, ho, c, n, l, k⟩
theorem sfld {f : Str} (h : tv σ H fun y H1 => ta σ H1 fun x H2 => ∃ a C dx fs, x = .ref a ∧ H2 a = some (.ins C dx fs) ∧ Cls K C ∧ NoAttr K C f ∧ fs.length < 1000 ∧ D.nx σ (upd H2 a (.ins C dx (putF f y fs)))) : sFld K ta tv f D σ H := h
theorem sfldE {a C dx : Addr} {fs : List (Str × V)} {f : Str} {R : Addr → Addr → Addr → List (Str × V) → Prop} (ho : H a = some (.ins C dx fs)) (c : Cls K C) (n : NoAttr K C f) (l : fs.length < 1000) (k : R a C dx fs) :
    ∃ a' C dx fs, (V.ref a) = .ref a' ∧ H a' = some (.ins C dx fs) ∧ Cls K C ∧ NoAttr K C f ∧ fs.length < 1000 ∧ R a' C dx fs := ⟨a, C, dx, fs, rfl, ho, c, n, l, k⟩
theorem aug {f : Str} {rd : V → V → Hp → VK → Prop} (h : ta σ H fun x H1 => ∃ a C dx fs v, x = .ref a ∧ H1 a = some (.ins C dx fs) ∧ Cls K C ∧ NoAttr K C f ∧ fs.lookup f = some v ∧
    tv σ H1 fun y H2 => rd v y H2 fun z H3 => ∃ dx' fs', H3 a = some (.ins C dx' fs') ∧ fs'.length < 1000 ∧ D.nx σ (upd H3 a (.ins C dx' (putF f z fs')))) : sFldAug K ta tv rd f D σ H := h
theorem augE {a C dx : Addr} {fs : List (Str × V)} {R : Addr → List (Str × V) → Prop} (ho : H a = some (.ins C dx fs)) (l : fs.length < 1000) (k : R dx fs) :
    ∃ dx fs, H a = some (.ins C dx fs) ∧ fs.length < 1000 ∧ R dx fs := ⟨dx, fs, ho, l, k⟩
theorem augV {a C dx : Addr} {fs : List (Str × V)} {f : Str} {R : Addr → Addr → V → Prop} (ho : H a = some (.ins C dx fs)) (c : Cls K C) (n : NoAttr K C f) (l : fs.lookup f = some v) (k : R a C v) :
    ∃ a' C dx fs v, (V.ref a) = .ref a' ∧ H a' = some (.ins C dx fs) ∧ Cls K C ∧ NoAttr K C f ∧ fs.lookup f = some v ∧ R a' C v := ⟨a, C, dx, fs, v, rfl, ho, c, n, l, k⟩
theorem rAddE {a b : Int} {R : V → Hp → Prop} (k : R (.int (a + b)) H) : rAdd (.int a) (.int b) H R := ⟨a, b, rfl, rfl, k⟩
theorem isN {P : Prop} (k : P) : (V.non = .non) ∧ P := ⟨rfl, k⟩
theorem lstE {vs : List V} (hz : vs.length ≤ 1000) (k : ∀ p, H p = none → Q (.ref p) (upd H p (.lst vs))) : vs.length ≤ sizeLine ∧ ∀ p, H p = none → Q (.ref p) (upd H p (.lst vs)) := ⟨Nat.le_trans hz (by decide), k⟩
theorem lst (h : tA σ H fun xs H1 => rLst xs H1 Q) : tLst tA σ H Q := h
theorem tup (h : tA σ H fun xs H1 => rTup xs H1 Q) : tTup tA σ H Q := h
theorem call {sp : Sp} {E : XK} (h : tA σ H fun vs H1 => sp (vs ++ []) H1 Q E) : tCall sp [] E tA σ H Q := h
theorem iteD {p A B : Prop} [Decidable p] (h1 : p → A) (h2 : ¬ p → B) : if decide p = true then A else B := by
  by_cases h : p
  · rw [if_pos (decide_eq_true h)]; exact h1 h
  · rw [if_neg (by rw [decide_eq_false h]; exact Bool.false_ne_true)]; exact h2 h
theorem iteN {p A B : Prop} [Decidable p] (h1 : ¬ p → A) (h2 : p → B) : if (!decide p) = true then A else B := by
  by_cases h : p
  · rw [if_neg (by rw [decide_eq_true h]; exact Bool.false_ne_true)]; exact h2 h
  · rw [if_pos (by rw [decide_eq_false h]; rfl)]; exact h1 h
theorem iteSelf {α : Type} {a : α} {A B : Prop} [Decidable (a = a)] (k : A) : if decide (a = a) = true then A else B := by rw [if_pos (decide_eq_true rfl)]; exact k
theorem iteNSelf {α : Type} {a : α} {A B : Prop} [Decidable (a = a)] (k : B) : if (!decide (a = a)) = true then A else B := by rw [if_neg (by rw [decide_eq_true rfl]; exact Bool.false_ne_true)]; exact k
theorem setLE {p : Addr} {xs : List V} {i : Nat} {v : V} {R : Hp → Prop} (ho : H p = some (.lst xs)) (hi : i < xs.length) (k : R (upd H p (.lst (xs.set i v)))) : rSetL (.ref p) (.int i) v H R :=
  ⟨p, xs, i, i, rfl, rfl, ho, by unfold ixN; rw [if_pos (by omega), if_pos (by omega)]; simp, k⟩
theorem m0 {r : V → List V → Hp → VK → Prop} (h : ta σ H fun x H1 => (∃ a, x = .str a) ∧ r x [] H1 Q) : tM0 r ta σ H Q := h
theorem m1 {r : V → List V → Hp → VK → Prop} (h : ta σ H fun x H1 => (∃ a, x = .str a) ∧ te σ H1 fun y H2 => r x [y] H2 Q) : tM1 r ta te σ H Q := h
theorem lenSeq {p : Addr} {xs : List V} {R : List V → Prop} (h : SqL K H p xs) (k : R xs) : ∃ q ys, [V.ref p] = [.ref q] ∧ (SqL K H q ys ∨ SqT K H q ys) ∧ R ys := ⟨p, xs, rfl, .inl h, k⟩
theorem ixAll {p : Addr} {xs : List V} {z : Int} {G : V → Prop} (h : SqL K H p xs) (h0 : 0 ≤ z) (h1 : z < xs.length) (hp : ∀ x ∈ xs, G x) (k : ∀ v, G v → xs[z.toNat]? = some v → Q v H) : rIxL K (.ref p) (.int z) H Q := by
  have hz : z.toNat < xs.length := by omega
  have e : xs[z.toNat]? = some xs[z.toNat] := List.getElem?_eq_getElem hz
  refine ⟨p, xs, z, xs[z.toNat], rfl, rfl, h, ?_, k _ (hp _ (List.getElem_mem hz)) e⟩
  have e2 := atI_nat e
  have e3 : ((z.toNat : Nat) : Int) = z := by omega
  rwa [e3] at e2
theorem ixL {p : Addr} {xs : List V} {i : Nat} {v : V} (h : SqL K H p xs) (e : xs[i]? = some v) (k : Q v H) : rIxL K (.ref p) (.int i) H Q := ⟨p, xs, i, v, rfl, rfl, h, atI_nat e, k⟩
theorem iteTd {b : Bool} {A B : Prop} (h : b = true) (k : A) : if b = true then A else B := by rw [if_pos h]; exact k
theorem iteFd {b : Bool} {A B : Prop} (h : b = false) (k : B) : if b = true then A else B := by rw [if_neg (by rw [h]; exact Bool.false_ne_true)]; exact k
theorem gcons {t : TG} {u : TGs} {v : V} {r : List V} {R : L2.St → Hp → Prop} (h : t v σ H fun σ' H' => u r σ' H' R) : gCons t u (v :: r) σ H R := ⟨v, r, rfl, h⟩
theorem gnil {R : L2.St → Hp → Prop} (k : R σ H) : gNil [] σ H R := ⟨rfl, k⟩
theorem gname {v : V} {R : L2.St → Hp → Prop} (k : R (σ.set i (some v)) H) : gName i v σ H R := k
theorem partN {R : Option Int → Hp → Prop} (h : te σ H fun x H1 => (x = .non ∧ R none H1) ∨ ∃ i, x = .int i ∧ R (some i) H1) : tPartN te σ H R := h
theorem forR1 {g : TG} (h : tA σ H fun vs H1 => ∃ j : Int, vs = [.int j] ∧ -(2 ^ 62) ≤ j ∧ j < 2 ^ 62 ∧ ∃ W : Nat → Nat → L2.St → Hp → Prop, (∃ m, W 0 m σ H1) ∧ ∀ i m σ H, W i m σ H →
      ((Itr 0 j.toNat).stop i H ∧ D.nx σ H) ∨ ((Itr 0 j.toNat).go i H ∧ ∃ N : L2.St → Hp → Prop, (∀ σ' H', N σ' H' → ∃ m', m' < m ∧ W (i + 1) m' σ' H') ∧ ∀ x H', (Itr 0 j.toNat).yld i H x H' → g x σ H' fun σ2 H2 => ts { D with nx := N, ct := N, bk := D.nx } σ2 H2)) :
    tFor (iRng1 tA) g ts D σ H := h
theorem forL {tl : TE} {g : TG} (h : tl σ H fun x H1 => ∃ a, x = .ref a ∧ (∃ xs, SqL K H1 a xs) ∧ ∃ W : Nat → Nat → L2.St → Hp → Prop, (∃ m, W 0 m σ H1) ∧ ∀ i m σ H, W i m σ H →
      ((Itl K a).stop i H ∧ D.nx σ H) ∨ ((Itl K a).go i H ∧ ∃ N : L2.St → Hp → Prop, (∀ σ' H', N σ' H' → ∃ m', m' < m ∧ W (i + 1) m' σ' H') ∧ ∀ x H', (Itl K a).yld i H x H' → g x σ H' fun σ2 H2 => ts { D with nx := N, ct := N, bk := D.nx } σ2 H2)) :
    tFor (iList K tl) g ts D σ H := h
theorem rng {n : Nat} {P : Nat → Prop} (hn : n ≤ 100000) (k : P n) : ∃ j : Int, [V.int (n : Int)] = [.int j] ∧ -(2 ^ 62) ≤ j ∧ j < 2 ^ 62 ∧ P j.toNat := ⟨n, rfl, by omega, by omega, by rw [Int.toNat_natCast]; exact k⟩
theorem cut {M : L2.St → Hp → Prop} (h : tu { D with nx := M } σ H) (k : ∀ σ' H', M σ' H' → ts D σ' H') : Evl.tCut tu ts D σ H := ⟨M, h, k⟩
theorem meth {C : Addr} {m : Str} {sp : Sp} {dvs : List V} {E : XK} (h : ta σ H fun x H1 => ∃ a dx fs, x = .ref a ∧ H1 a = some (.ins C dx fs) ∧ fs.lookup m = none ∧ tA σ H1 fun vs H2 => sp (x :: (vs ++ dvs)) H2 Q E) : tMeth C m sp dvs E ta tA σ H Q := h
theorem methE {C a dx : Addr} {fs : List (Str × V)} {m : Str} {P : Prop} (ho : H a = some (.ins C dx fs)) (l : fs.lookup m = none) (k : P) :
    ∃ a' dx fs, (V.ref a) = .ref a' ∧ H a' = some (.ins C dx fs) ∧ fs.lookup m = none ∧ P := ⟨a, dx, fs, rfl, ho, l, k⟩
theorem make {C : Addr} {sp : Sp} {dvs : List V} {E : XK} (h : tA σ H fun vs H1 => ∀ x dx, H1 x = none → H1 dx = none → dx ≠ x →
    sp (.ref x :: (vs ++ dvs)) (upd (upd H1 dx (.own x)) x (.ins C dx [])) (fun v H2 => v = .non ∧ Q (.ref x) H2) E) : tMake C sp dvs E tA σ H Q := h
theorem makeO {C : Addr} (h : ∀ a dx, H a = none → H dx = none → dx ≠ a → Q (.ref a) (upd (upd H dx (.own a)) a (.ins C dx []))) : tMakeO C σ H Q := h
theorem mkO {L : List (Addr × HO)} {F : Hp} {a dx C : Addr} (S : Hs L F H) (h1 : H a = none) (h2 : H dx = none) (h3 : dx ≠ a) : Hs ((a, .ins C dx []) :: L) F (upd (upd H dx (.own a)) a (.ins C dx [])) :=
  (S.ext (same_new h2)).new (by rw [upd_ne (Ne.symm h3)]; exact h1)
theorem sl {r : V → Option Int → Option Int → Hp → VK → Prop} {tl th : TO} (h : te σ H fun x H1 => tl σ H1 fun l H2 => th σ H2 fun u H3 => r x l u H3 Q) : tSl r te tl th σ H Q := h
theorem noPart {R : Option Int → Hp → Prop} (k : R none H) : tNoPart σ H R := k
theorem part {R : Option Int → Hp → Prop} (h : te σ H fun x H1 => ∃ i, x = .int i ∧ R (some i) H1) : tPart te σ H R := h
theorem partE {i : Int} {P : Int → Prop} (k : P i) : ∃ j, (V.int i) = .int j ∧ P j := ⟨i, rfl, k⟩
theorem slS {z : Str} {lo hi : Option Int} (hz : z.length ≤ 10000) (k : Q (.str (cutS z lo hi)) H) : rSlS (.str z) lo hi H Q := ⟨z, rfl, Nat.le_trans hz (by decide), k⟩
theorem bm {T : String} {r : V → List V → Hp → VK → Prop} (h : ta σ H fun x H1 => tyV K T x H1 ∧ tA σ H1 fun xs H2 => r x xs H2 Q) : tBM K T r ta tA σ H Q := h
theorem bm0 {T : String} {r : V → List V → Hp → VK → Prop} (h : ta σ H fun x H1 => tyV K T x H1 ∧ r x [] H1 Q) : tBM0 K T r ta σ H Q := h
theorem asgG {g : TG} (h : te σ H fun x H1 => g x σ H1 D.nx) : tAsg te g D σ H := h
theorem gsub {to ti : TE} {t : TSet} {v : V} {R : L2.St → Hp → Prop} (h : to σ H fun o H1 => ti σ H1 fun i H2 => t o i v H2 fun H3 => R σ H3) : gSub to ti t v σ H R := h
theorem dget {td ty : TE} (h : td σ H fun x H1 => ty σ H1 fun y H2 => ∃ a v, x = .ref a ∧ DGet H2 a y (some v) ∧ Q v H2) : tDGet td ty σ H Q := h
theorem dgetE {a : Addr} {kvs : List (Key × V)} {k : Key} {v : V} {R : V → Prop} (ho : H a = some (.dK kvs)) (e : valV kvs k = some v) (q : R v) : ∃ a' v, (V.ref a) = .ref a' ∧ DGet H a' (kV k) (some v) ∧ R v := ⟨a, v, rfl, e ▸ DGet.k ho, q⟩
theorem dgetS {a : Addr} {kvs : List (Key × V)} {k : Str} {v : V} {R : V → Prop} (ho : H a = some (.dK kvs)) (e : valV kvs (Sum.inr k) = some v) (q : R v) : ∃ a' v, (V.ref a) = .ref a' ∧ DGet H a' (.str k) (some v) ∧ R v := ⟨a, v, rfl, e ▸ DGet.k (k := Sum.inr k) ho, q⟩
theorem dput {td ty : TE} (h : tv σ H fun v H1 => td σ H1 fun x H2 => ty σ H2 fun y H3 => ∃ a H4, x = .ref a ∧ DPut H3 a y v H4 ∧ D.nx σ H4) : sDPut td ty tv D σ H := h
theorem dputS {a : Addr} {kvs kvs' : List (Key × V)} {k : Str} {v : V} {R : Hp → Prop} (ho : H a = some (.dK kvs)) (l : kvs.length < 1000) (e : putK kvs (Sum.inr k) v = kvs') (q : R (upd H a (.dK kvs'))) :
    ∃ a' H4, (V.ref a) = .ref a' ∧ DPut H a' (.str k) v H4 ∧ R H4 := ⟨a, _, rfl, DPut.k (k := Sum.inr k) ho (Nat.lt_of_lt_of_le l (by decide)), by rw [e]; exact q⟩
theorem pairsN {R : List (V × V) → Hp → Prop} (k : R [] H) : tPairs [] σ H R := k
theorem pairsC {tk : TE} {r : List (TE × TE)} {R : List (V × V) → Hp → Prop} (h : tk σ H fun x H1 => tv σ H1 fun y H2 => tPairs r σ H2 fun ps H3 => R ((x, y) :: ps) H3) : tPairs ((tk, tv) :: r) σ H R := h
theorem yes {R : Bool → Hp → Prop} (k : R true H) : tYes σ H R := k
theorem addS {a b : Str} {R : Str → Str → Prop} (hz : a.length + b.length ≤ 100000) (k : R a b) : ∃ i j, (V.str a) = .str i ∧ (V.str b) = .str j ∧ i.length + j.length ≤ sizeLine ∧ R i j := ⟨a, b, rfl, rfl, Nat.le_trans hz (by decide), k⟩
theorem cb {r : List V → Hp → VK → Prop} (h : tA σ H fun vs H1 => r vs H1 Q) : tCB r tA σ H Q := h
end
theorem look_ne {f g : Str} {v : V} {r : List (Str × V)} (h : decide (f = g) = false) : List.lookup f ((g, v) :: r) = List.lookup f r := by
  have hb : (f == g) = false := by simpa using h
  simp only [List.lookup, hb]
theorem look_eq {f : Str} {v : V} {r : List (Str × V)} : List.lookup f ((f, v) :: r) = some v := by simp [List.lookup]
theorem put_ne {f g : Str} {v w : V} {r : List (Str × V)} (h : decide (g = f) = false) : putF f v ((g, w) :: r) = (g, w) :: putF f v r := by
  have hb : ¬ g = f := by simpa using h
  rw [putF, if_neg hb]
theorem put_eq {f : Str} {v w : V} {r : List (Str × V)} : putF f v ((f, w) :: r) = (f, v) :: r := by rw [putF, if_pos rfl]
theorem put_nil {f : Str} {v : V} : putF f v [] = [(f, v)] := rfl
section
open PyProof.Rows
variable {X : Cx} {x : Str} {i : Int} {z : Str} {t : Tok} {pos : Pos}
theorem pe_gint (hg : Gl X x) (hm : ∃ t, X.mg x = some (.int i t)) (hd : (x == ("__debug__" : Str)) = false := by decide) : PE X (.Name x pos) (tC (.int i)) := let ⟨_, h⟩ := hm; pe_glob hg h ⟨_, rfl⟩ hd
theorem kit_self {K : PySem.W.Frag} {C : Addr} : PySem.W.kitOne K (.ref C) (.ref C) = some true := by
  unfold PySem.W.kitOne
  rw [if_pos (by simp)]
theorem kit_yes {K : PySem.W.Frag} {C R : Addr} (h1 : PySem.W.isClsIn K R = true) (h2 : PySem.W.typeIn K (.ref R) = some (.type "type")) (h3 : PySem.W.subIn K (.ref C) (.ref R) = some true) : PySem.W.kitOne K (.ref C) (.ref R) = some true := by
  unfold PySem.W.kitOne
  by_cases e : (Value.ref C == Value.ref R) = true
  · rw [if_pos e]
  · rw [if_neg e]
    unfold PySem.W.kitCls
    have h1' : (PySem.W.clsIn K R).isSome = true := h1
    have e2 : ((PySem.W.clsIn K R).isSome && PySem.W.typeIn K (.ref R) == some (.type "type")) = true := by rw [h1', h2] <;> rfl
    show (if ((PySem.W.clsIn K R).isSome && PySem.W.typeIn K (.ref R) == some (.type "type")) = true then PySem.W.subIn K (.ref C) (.ref R) else none) = some true
    rw [if_pos e2]
    exact h3
theorem kit_no {K : PySem.W.Frag} {C R : Addr} (h1 : PySem.W.isClsIn K R = true) (h2 : PySem.W.typeIn K (.ref R) = some (.type "type")) (h3 : PySem.W.subIn K (.ref C) (.ref R) = some false) (hne : C ≠ R) : PySem.W.kitOne K (.ref C) (.ref R) = some false := by
  unfold PySem.W.kitOne
  rw [if_neg (by simpa using hne)]
  unfold PySem.W.kitCls
  have h1' : (PySem.W.clsIn K R).isSome = true := h1
  have e2 : ((PySem.W.clsIn K R).isSome && PySem.W.typeIn K (.ref R) == some (.type "type")) = true := by rw [h1', h2] <;> rfl
  show (if ((PySem.W.clsIn K R).isSome && PySem.W.typeIn K (.ref R) == some (.type "type")) = true then PySem.W.subIn K (.ref C) (.ref R) else none) = some false
  rw [if_pos e2]
  exact h3
theorem pe_ex {X : Cx} {e : Expr} {ι : Type} {p : ι → Prop} {t : ι → TE} (h : ∀ i, p i → PE X e (t i)) : PE X e (tEx p t) := ⟨fun pins s σ H Q I ⟨i, hp, hq⟩ => (h i hp).run pins s σ H Q I hq⟩
theorem pe_makeO {X : Cx} {C : Addr} {x : Str} {p pos : Pos} (hmk : PySem.W.makesIn X.K C = true) (hi : PySem.W.findIn X.K (.ref C) "__init__" = some (some (.builtin "object.__init__"))) (kp : PySem.W.keepIn X.K (.ref C) = true) (hg : Gl X x) (hm : X.mg x = some (.ref C))
    (hdb : (x == ("__debug__" : Str)) = false := by decide) : PE X (.Call (.Name x p) [] [] pos) (tMakeO C) := by
  refine ⟨fun pins s σ H Q I h => ?_⟩
  refine wpAny_Call_Name_kw (ld_glob I hg hm ?_ hdb)
  refine PySem.W.callWith_K0 I.kIn kp ?_
  show wpAny _ _ (PySem.call (Value.ref C) []) _ _ _
  refine wpAny_call ?_
  have hq := h (s.heap.objs.size + 1) s.heap.objs.size (I.hok.fresh (Nat.le_succ _)) (I.hok.fresh (Nat.le_refl _)) (Nat.ne_of_lt (Nat.lt_succ_self _))
  have I2 := Inv.made (C := C) I
  have Y := PySem.W.makes_of (M := model X.prog X.w) I.kIn hmk
  have L0 := PySem.W.looks_findIn (M := model X.prog X.w) I.kIn hi
  obtain ⟨hh, g, d, t, os⟩ := s
  refine PySem.W.make_core Y L0 (fun self => PySem.W.Looks.of_pure (PySem.W.oi_bind self)) (.inr ⟨rfl, rfl⟩) ?_
  have e2 : ((hh.push PySem.W.emptyDict).push (PySem.W.instObj C hh.objs.size)).get? (hh.objs.size + 1) = some (PySem.W.instObj C hh.objs.size) := by
    have := Heap.get?_push_size (hh.push PySem.W.emptyDict) (o := PySem.W.instObj C hh.objs.size) rfl
    rwa [Heap.size_push] at this
  have t1 : PySem.W.Looks (model X.prog X.w) ((hh.push PySem.W.emptyDict).push (PySem.W.instObj C hh.objs.size)) (typeOf (.ref (hh.objs.size + 1))) (.ref C) := (PySem.W.Looks.ld e2).andThen .now
  have t2 : PySem.W.Looks (model X.prog X.w) ((hh.push PySem.W.emptyDict).push (PySem.W.instObj C hh.objs.size)) (isInstance (.ref (hh.objs.size + 1)) (.type "object")) true := t1.andThen (Y.top.keeps fun b o e => Heap.get?_push_of_some _ (Heap.get?_push_of_some _ e))
  refine codeAny_call_builtin PySem.W.oi_plain PySem.W.entry_oi (@PySem.W.check_slot (model X.prog X.w) _ _ _ "object.__init__" "object" "__init__" (.ref (hh.objs.size + 1)) [] [] _ PySem.W.oi_kind PySem.W.oi_split t2 (PySem.W.oi_args (.ref (hh.objs.size + 1))) ?_)
  rw [PySem.W.oi_run]
  exact wpAny_pure (And.intro rfl ⟨V.ref _, _, I2, rfl, hq⟩)
theorem pe_gstr (hg : Gl X x) (hm : ∃ t, X.mg x = some (.str z t)) (hd : (x == ("__debug__" : Str)) = false := by decide) : PE X (.Name x pos) (tC (.str z)) := let ⟨_, h⟩ := hm; pe_glob hg h ⟨_, rfl⟩ hd
end
end Z
/-! ### further rules -/
namespace Z
open PySem L2 PyProof.Rows
/-- a text times an int -/
def rRepS : R2 := fun x y H Q => ∃ (z : Str) (n : Int), x = .str z ∧ y = .int n ∧ z.length ≤ 1000 ∧ 0 ≤ n ∧ n ≤ 1000 ∧ ∀ r : Str, r = Txt.mul z n → r.length ≤ z.length * n.toNat → Q (.str r) H
theorem mul_len (z : Str) (n : Int) : (Txt.mul z n).length ≤ z.length * n.toNat := by
  unfold Txt.mul
  by_cases h : n < 1
  · rw [if_pos h]
    exact Nat.zero_le _
  · rw [if_neg h]
    by_cases h2 : (n == 1 || z.length == 0) = true
    · rw [if_pos h2]
      have : 1 ≤ n.toNat := by omega
      exact Nat.le_mul_of_pos_right _ this
    · rw [if_neg h2]
      have gen : ∀ (k : Nat) (a : Array Nat), ((List.replicate k z.cps).foldl (· ++ ·) a).size = a.size + k * z.cps.size := by
        intro k
        induction k with
        | zero => intro a; simp
        | succ k ih =>
          intro a
          rw [List.replicate_succ, List.foldl_cons, ih, Array.size_append, Nat.succ_mul]
          omega
      show ((List.replicate n.toNat z.cps).foldl (· ++ ·) #[]).size ≤ z.cps.size * n.toNat
      rw [gen, Nat.mul_comm]
      simp
theorem op_repS {X : Cx} : OpR X (binaryOp .Mult) rRepS := by
  intro pins s σ H x y v u Q I rx ry h
  obtain ⟨z, n, rfl, rfl, hz, h0, h1, q⟩ := h
  obtain ⟨t, rfl⟩ := rx
  obtain ⟨t', rfl⟩ := ry
  refine SB.mul ⟨?_, fun _ _ => ?_, fun _ _ => ?_⟩ fun t2 k => ⟨.str (Txt.mul z n), H, I.tok _, ⟨_, rfl⟩, q _ rfl (mul_len z n)⟩
  · rw [Bool.or_eq_false_iff]
    exact ⟨decide_eq_false (by omega), decide_eq_false (by omega)⟩
  · have hn : 1 ≤ n := by omega
    have : (z.length : Int) ≤ (2 ^ 63 - 1) / n := by
      refine Int.le_ediv_of_mul_le (by omega) ?_
      have h2 : (z.length : Int) * n ≤ 1000 * 1000 := Int.mul_le_mul (by omega) h1 (by omega) (by omega)
      omega
    omega
  · show decide (z.length * n.toNat > sizeLine) = false
    refine decide_eq_false ?_
    have h2 : z.length * n.toNat ≤ 1000 * 1000 := Nat.mul_le_mul hz (by omega)
    rw [sizeLine_eq]
    omega
theorem po_val {X : Cx} {e : Expr} {te : TE} (h : PE X e te) : PO X (some e) (tPartN te) := by
  refine ⟨fun pins s σ H Q I hw => ?_⟩
  rw [evalPart_some]
  refine thn (h.run pins s σ H _ I hw) fun u s1 ⟨x, H1, I1, r1, q1⟩ => ?_
  rcases q1 with ⟨rfl, q⟩ | ⟨i, rfl, q⟩
  · cases r1
    exact ⟨none, H1, I1, .none, q⟩
  · obtain ⟨t, rfl⟩ := r1
    exact ⟨some i, H1, I1, .int i t, q⟩
def cutT (xs : List Str) (lo hi : Option Int) : List Str := (xs.drop (HT.sIx xs.length 0 lo)).take (HT.sIx xs.length xs.length hi - HT.sIx xs.length 0 lo)
theorem cutV_str (xs : List Str) (lo hi : Option Int) : cutV (xs.map V.str) lo hi = (cutT xs lo hi).map V.str := by
  unfold cutV cutT
  rw [List.length_map, List.map_take, List.map_drop]
theorem cutT_len (xs : List Str) (lo hi : Option Int) : (cutT xs lo hi).length ≤ xs.length := by
  unfold cutT
  rw [List.length_take, List.length_drop]
  omega
theorem dp_strs {K : PySem.W.Frag} {H : Hp} : ∀ xs : List Str, DpAll K H (xs.map V.str) (xs.map PyData.str)
  | [] => .nil
  | x :: r => .cons (.str x) (dp_strs r)
theorem lay_strs : ∀ xs : List Str, (∀ x ∈ xs, PyData.strOk x = true) → PyData.canLayAll0 (xs.map PyData.str) = true
  | [], _ => by simp [PyData.canLayAll0]
  | x :: r, h => by
    rw [List.map_cons, PyData.canLayAll0, lay_strs r fun y hy => h y (List.mem_cons_of_mem _ hy), Bool.and_true, PyData.canLay0]
    exact h x List.mem_cons_self
theorem depth_strs : ∀ xs : List Str, PyData.depthAll (xs.map PyData.str) = 0
  | [] => by simp [PyData.depthAll]
  | x :: r => by rw [List.map_cons, PyData.depthAll, depth_strs r]; simp [PyData.depth]
theorem shaped_strs {xs : List Str} (h : ∀ x ∈ xs, PyData.strOk x = true) : SeqAt.shaped (.list (xs.map PyData.str)) = true := by
  unfold SeqAt.shaped
  rw [Bool.and_eq_true]
  refine ⟨by rw [PyData.canLay0]; exact lay_strs xs h, decide_eq_true ?_⟩
  rw [PyData.depth, depth_strs]
  decide
theorem eqv_strs : ∀ xs : List Str, PyData.eqvAll (xs.map PyData.str) (xs.map PyData.str) = true
  | [] => by simp [PyData.eqvAll]
  | x :: r => by rw [List.map_cons, PyData.eqvAll, eqv_strs r]; simp [PyData.eqv]
theorem ok_app {x y : Str} (h1 : PyData.strOk x = true) (h2 : PyData.strOk y = true) : PyData.strOk (x ++ y) = true := by
  unfold PyData.strOk at *
  show (x.cps ++ y.cps).all _ = true
  rw [Array.all_append, h1, h2]
  rfl
theorem ok_cut {z : Str} {lo hi : Option Int} (h : PyData.strOk z = true) : PyData.strOk (cutS z lo hi) = true := by
  unfold PyData.strOk cutS at *
  rw [List.all_toArray, List.all_eq_true]
  intro x hx
  rw [Array.all_eq_true_iff_forall_mem] at h
  exact h x (by simpa using List.mem_of_mem_drop (List.mem_of_mem_take hx))
theorem ixS {z : Str} {i : Int} {Q : VK} {H : Hp} (hz : z.length ≤ 100000) (h0 : 0 ≤ i) (h1 : i < z.length) (k : ∀ c, z.cps.toList[i.toNat]? = some c → Q (.str ⟨#[c]⟩) H) : rIxS (.str z) (.int i) H Q := by
  have hl : i.toNat < z.cps.toList.length := by
    rw [Array.length_toList]
    have : z.length = z.cps.size := rfl
    omega
  have e := List.getElem?_eq_getElem hl
  refine ⟨z, i, _, rfl, rfl, Nat.le_trans hz (by decide), ?_, k _ e⟩
  have e2 := atI_nat e
  have e3 : ((i.toNat : Nat) : Int) = i := by omega
  rwa [e3] at e2
section
variable {K : PySem.W.Frag} {H : Hp} {Q : VK} {a b : Addr} {xs : List Str}
/-- two lists of the same texts -/
theorem eqStrs (ha : SqL K H a (xs.map V.str)) (hb : SqL K H b (xs.map V.str)) (h : ∀ x ∈ xs, PyData.strOk x = true) (k : Q (.bl true) H) : rEqD K (.ref a) (.ref b) H Q :=
  ⟨_, _, .lst ha (dp_strs xs), .lst hb (dp_strs xs), shaped_strs h, shaped_strs h, by rw [PyData.eqv, eqv_strs]; exact k⟩
theorem neStrs (ha : SqL K H a (xs.map V.str)) (hb : SqL K H b (xs.map V.str)) (h : ∀ x ∈ xs, PyData.strOk x = true) (k : Q (.bl false) H) : rNeD K (.ref a) (.ref b) H Q :=
  ⟨_, _, .lst ha (dp_strs xs), .lst hb (dp_strs xs), shaped_strs h, shaped_strs h, by rw [PyData.eqv, eqv_strs]; exact k⟩
end
end Z
local macro_rules | `(tactic| walk_at "z ne") => `(tactic| first | assumption | (refine Ne.symm ?_; assumption))
local macro_rules | `(tactic| walk_at "z hp") => `(tactic| first | assumption | (with_reducible exact L2.upd_same) | (refine (L2.upd_ne ?_).trans ?_; (walk_at "z ne"); walk_at "z hp"))
local macro_rules | `(tactic| walk_at "z ic") => `(tactic| first | decide | (show (0 : Int) < _; first | decide | omega) | (show (0 : Int) ≤ _; first | decide | omega) | exact ⟨by decide, by decide⟩ | exact ⟨by decide, by decide, by decide⟩ | exact .inl ⟨by omega, by omega⟩ | exact .inr ⟨by omega, by omega⟩ | exact ⟨by omega, by omega⟩)
local macro_rules | `(tactic| walk_at "z small") => `(tactic| (first | decide | (simp only [List.length_cons, List.length_nil]; decide) | omega))
local macro_rules | `(tactic| walk_at "z no") => `(tactic| rfl)
/-- a slot, an expression, a statement: as far as nothing is asked -/
local macro_rules | `(tactic| walk_at "z1") => `(tactic| first
  | (with_reducible refine Z.seq ?_) | (with_reducible refine Z.asg ?_) | (with_reducible refine Z.ret ?_) | (with_reducible refine Z.retN ?_) | (with_reducible refine Z.drop ?_) | (with_reducible refine Z.next ?_)
  | (with_reducible refine Z.ifS ?_) | (with_reducible refine Z.op ?_) | (with_reducible refine Z.un ?_) | (with_reducible refine Z.con ?_) | ((with_reducible refine' Z.var ?hv ?_); (case hv => exact rfl))
  | (with_reducible refine Z.i0 ?_) | ((with_reducible refine Z.eqS ?hs ?_); (case hs => exact rfl)) | ((with_reducible refine Z.neS ?hs ?_); (case hs => exact rfl))
  | (with_reducible refine Z.test (b := true) ?_) | (with_reducible refine Z.tstB ?_) | (with_reducible refine Z.bB ?_) | (with_reducible refine Z.andT ?_) | (with_reducible refine Z.orT ?_) | (with_reducible refine Z.notT ?_)
  | (with_reducible refine Z.andV ?_) | (with_reducible refine Z.orV ?_) | (with_reducible refine Z.notV ?_) | (with_reducible refine Z.ifE ?_) | (with_reducible refine Z.blE ?_)
  | (with_reducible refine Z.nil ?_) | (with_reducible refine Z.cons ?_) | (with_reducible refine Z.fld ?_) | (with_reducible refine Z.sfld ?_) | (with_reducible refine Z.aug ?_) | (with_reducible refine Z.rAddE ?_)
  | ((with_reducible refine' Z.fldE ?ho ?hc ?hn ?hl ?_); (case ho => walk_at "z hp"); (case hc => walk_at "z cls"); (case hn => walk_at "z attr"); (case hl => walk_at "z look"))
  | ((with_reducible refine' Z.augV ?ho ?hc ?hn ?hl ?_); (case ho => walk_at "z hp"); (case hc => walk_at "z cls"); (case hn => walk_at "z attr"); (case hl => walk_at "z look"))
  | ((with_reducible refine' Z.sfldE ?ho ?hc ?hn ?hl ?_); (case ho => walk_at "z hp"); (case hc => walk_at "z cls"); (case hn => walk_at "z attr"); (case hl => walk_at "z small"); walk_at "z put")
  | ((with_reducible refine' Z.augE ?ho ?hl ?_); (case ho => walk_at "z hp"); (case hl => walk_at "z small"); walk_at "z put")
  | (with_reducible refine Z.meth ?_) | ((with_reducible refine' Z.methE ?ho ?hl ?_); (case ho => walk_at "z hp"); (case hl => walk_at "z no"))
  | (with_reducible refine Z.make ?_) | (with_reducible refine Z.makeO ?_) | (with_reducible refine Z.m0 ?_) | (with_reducible refine Z.m1 ?_) | (with_reducible refine Z.sl ?_) | (with_reducible refine Z.noPart ?_) | (with_reducible refine Z.part ?_) | (with_reducible refine Z.partE ?_) | (with_reducible refine Z.bm ?_) | (with_reducible refine Z.bm0 ?_)
  | (with_reducible refine Z.pairsC ?_) | (with_reducible refine Z.pairsN ?_) | (with_reducible refine Z.yes ?_)
  | (with_reducible refine Z.gcons ?_) | (with_reducible refine Z.gnil ?_) | (with_reducible refine Z.gname ?_) | (with_reducible refine Z.partN ?_) | (with_reducible refine Z.forR1 ?_) | (with_reducible refine Z.forL ?_)
  | (with_reducible refine Z.asgG ?_) | (with_reducible refine Z.gsub ?_) | (with_reducible refine Z.dget ?_) | (with_reducible refine Z.dput ?_)
  | ((with_reducible refine' Z.dgetS ?ho ?he ?_); (case ho => walk_at "z hp"); (case he => walk_at "z val"))
  | ((with_reducible refine' Z.dputS ?ho ?hl ?he ?_); (case ho => walk_at "z hp"); (case hl => walk_at "z small"); (case he => walk_at "z putK"))
  | (with_reducible refine Z.lst ?_) | (with_reducible refine Z.tup ?_) | (with_reducible refine Z.call ?_) | (with_reducible refine Z.cb ?_) | ((with_reducible refine Z.ic ?hc ?_); (case hc => walk_at "z ic")))
local macro_rules | `(tactic| walk_at "z dec") => `(tactic| first | (refine Z.iteTd (by decide +kernel) ?_) | (refine Z.iteFd (by decide +kernel) ?_) | skip)
/-- .. and the tests whose answer stands there -/
theorem Z.iteId {b : Bool} {A B : Prop} (h : if b = true then A else B) : if b = true then A else B := h
local macro_rules | `(tactic| walk_at "z") => `(tactic| repeat (first | walk_at "z1" | ((with_reducible refine Z.iteId ?_); first | (refine L2.iteT ?_) | (refine L2.iteF ?_)) | (with_reducible refine Z.isN ?_) | (with_reducible refine Z.iteSelf ?_) | (with_reducible refine Z.iteNSelf ?_)))

/-! ### raising, catching -/
namespace Z
open PySem PySem.Spec L2 PyProof.Rows
section
variable {X : Cx} {C : Addr} {bmB : List Value} {B newId initId : String}
/-- X(), X an own exception class without own __init__ -/
theorem pmk_own0 {x : Str} {p pos : Pos} (F : ExcBaseFacts B newId initId bmB) (q : PySem.W.excIn X.K C bmB newId = true) (gC : X.mg x = some (.ref C)) (kC : PySem.W.keepIn X.K (.ref C) = true) (r : Raises X (.ref C)) (hg : Gl X x := by rfl)
    (hdb : (x == ("__debug__" : Str)) = false := by decide) : PMk X (.Call (.Name x p) [] [] pos) (fun _ H Q => Q (.ref C) none H) := by
  intro pins s σ H Q I h
  refine wpAny_Call_Name_kw (ld_glob I hg gC ?_ hdb)
  refine PySem.W.callWith_K0 I.kIn kC ?_
  show wpAny _ _ (PySem.call (Value.ref C) []) _ _ _
  obtain ⟨bm, N, nm, qn, bs, hdct, sn, sub, ab, col, dd, k0, k1, k2, k3, k5, mN, hC, hN, hni, T⟩ := exc_obj I.kIn q
  refine wpAny_call_exc_subT F T hC hN hni (fun h' e hm => ?_) (Nat.zero_le _)
  exact mk_of I hm r h (I.hok.gone hm.new)
/-- isinstance(e, c), e what the suite holds, of the class cls -/
def rIsG (K : PySem.W.Frag) (cls : Value) (d : Option Addr) (a : Addr) : List V → Hp → VK → Prop := fun xs H Q => ∃ (D : Addr) (c : V) (cv : Value) (b : Bool), cls = .ref D ∧ d = none ∧ ExcC K D ∧ xs = [.ref a, c] ∧ ClsV c cv ∧ PySem.W.kitOne K (.ref D) cv = some b ∧ Q (.bl b) H
theorem call_isG {a : Addr} {cls : Value} {d : Option Addr} {oe : Obj} {pn : List (Addr × Obj)} (hz : Zc cls d oe) (hf : ∃ vs, oe.data = .fields vs) : CallR (X.suite a ((a, oe) :: pn)) (.builtin "isinstance") (rIsG X.K cls d a) := by
  intro pins s σ H xs us Q I r h
  obtain ⟨D, c, cv, b, rfl, rfl, C, rfl, hc, e, q⟩ := h
  exact call_isE C hz hf pins s σ H _ us Q I r ⟨c, cv, b, rfl, fun u ru => hc.eq ru, e, q⟩
def rIsGT (K : PySem.W.Frag) (cls : Value) (d : Option Addr) (a : Addr) : List V → Hp → VK → Prop := fun xs H Q => ∃ (D tp : Addr) (cs : List V) (ws : List Value) (b : Bool), cls = .ref D ∧ d = none ∧ ExcC K D ∧ xs = [.ref a, .ref tp] ∧ H tp = some (.tup cs) ∧ Paired ClsV cs ws ∧
  PySem.W.kitAny K (.ref D) ws = some b ∧ Q (.bl b) H
theorem call_isGT {a : Addr} {cls : Value} {d : Option Addr} {oe : Obj} {pn : List (Addr × Obj)} (hz : Zc cls d oe) (hf : ∃ vs, oe.data = .fields vs) : CallR (X.suite a ((a, oe) :: pn)) (.builtin "isinstance") (rIsGT X.K cls d a) := by
  intro pins s σ H xs us Q I r h
  obtain ⟨D, tp, cs, ws, b, rfl, rfl, C, rfl, hT, k, e, q⟩ := h
  obtain ⟨u1, u2, rfl, r1, r2⟩ := vals2 r
  cases (show u1 = Value.ref a from r1)
  cases (show u2 = Value.ref tp from r2)
  obtain ⟨hget, _⟩ := I.pin (a, oe) (List.mem_append.mpr (.inl List.mem_cons_self))
  obtain ⟨vs, hv⟩ := hf
  have J : PySem.W.InstAt s.heap a oe D none := by
    obtain ⟨oc, od, oda, osl⟩ := oe
    obtain ⟨h1, h2⟩ := hz
    dsimp only at h1 h2 hv
    subst h1 h2 hv
    exact ⟨hget, rfl, rfl, trivial⟩
  obtain ⟨_, its, rv, o, h1, h2, n, h3⟩ := (show ObjOk _ _ H s.heap tp (.tup cs) from I.hok tp _ hT)
  have e3 := ClsV.all k rv
  subst e3
  obtain ⟨oc, od, dt, sl⟩ := o
  simp only at h2 h3
  subst h2 h3
  exact PySem.W.kia_tup (PySem.W.handS_kitx_exc C.hg C.hk C.hs C.hd C.ha C.hn C.ht C.hm) I.kIn J h1 e (fun z => nomatch z) fun tk => ⟨.bl b, H, I.kept (t' := tk) fun _ _ z => z, rfl, q⟩
theorem exm_of {K : PySem.W.Frag} {D S : Addr} {b : Bool} (h1 : PySem.W.subIn K (.ref S) (.type "BaseException") = some true) (h2 : PySem.W.isClsIn K S = true) (h3 : PySem.W.typeIn K (.ref S) = some (.type "type")) (h4 : PySem.W.subIn K (.ref D) (.ref S) = some b) :
    PySem.W.exmOne K (.ref D) (.ref S) = some b := by
  have e1 : (PySem.W.subIn K (.ref S) (.type "BaseException") == some true) = true := by rw [h1] <;> rfl
  have e2 : ((PySem.W.clsIn K S).isSome && PySem.W.typeIn K (.ref S) == some (.type "type")) = true := by
    have h2' : (PySem.W.clsIn K S).isSome = true := h2
    rw [h2', h3] <;> rfl
  show (if (PySem.W.subIn K (.ref S) (.type "BaseException") == some true) = true then (if ((PySem.W.clsIn K S).isSome && PySem.W.typeIn K (.ref S) == some (.type "type")) = true then PySem.W.subIn K (.ref D) (.ref S) else none) else none) = some b
  rw [if_pos e1, if_pos e2]
  exact h4
end
section
variable {X : Cx} {CX : CXT} {k : Nat} {f C : Addr} {fd : FuncData} {ps : List Str} {sp : Sp} {E : L2.St → XK} {x m : Str} {p pos apos : Pos} {e o : Expr} {es : List Expr} {ta : TE} {t : TA}
/-- o.m(..) that may raise, within a try: what is raised is wished for at the slots -/
def tMethX (C : Addr) (m : Str) (sp : Sp) (E : L2.St → XK) (ta : TE) (t : TA) : TE := fun σ H Q => ta σ H fun x H1 => ∃ a dx fs, x = .ref a ∧ H1 a = some (.ins C dx fs) ∧ fs.lookup m = none ∧ t σ H1 fun vs H2 => sp (x :: vs) H2 Q (E σ)
theorem pe_methX {pl : Sem Bool} (he : PE X o ta) (c : Cls X.K C) (hm : Meth X.K C m f) (F : FnOk X.prog X.w X.K X.mg X.base CX k f fd ps sp) (hr : Room k X.A) (hb : Binds X.K fd ps []) (hx : ∀ σ, PassesAt CX X σ (E σ)) (ha : PA X (e :: es) t)
    (hst : starEach (e :: es) X.env = (false, eval e X.env) :: starEach es X.env := by rfl) (hpl : (backTo pos (starEach es X.env)).any (·.1) = false := by rfl)
    (ht : eval (.Call (.Attribute o m apos) (e :: es) [] pos) X.env = (do
      let ov ← eval o X.env
      standAt apos.atName
      let (f, first) ← holding [ov] (getMethod ov m pl)
      callWith pos f first (backTo pos (starEach (e :: es) X.env)) (backToKw pos (keywordEach [] X.env))) := by rfl) :
    PE X (.Call (.Attribute o m apos) (e :: es) [] pos) (tMethX C m sp E ta t) := by
  refine ⟨fun pins s σ H Q I h => ?_⟩
  refine PySem.W.methodCall_KW (pl := pl) (thn (he.run pins s σ H _ I h) fun u s1 ⟨x, H1, I1, rx, a, dx, fs, ex, ea, l, q⟩ => ?_) ht
  subst ex
  obtain rfl : u = Value.ref a := rx
  refine getmeth_ok I1 ea c hm l ?_
  refine PySem.W.callWith_K (first := [.ref a]) (h₀ := X.base) I.ok.mod.kin hm.kp (thn (ha.run pos pins s1 σ H1 _ I1 q) fun us s2 ⟨vs, H2, I2, r, q2⟩ => ⟨I2.kIn, ?_⟩) hst hpl
  exact run_fnS (us := .ref a :: us) (vs := .ref a :: vs) F hr hb (hx σ) I2 (.cons rfl r) q2
variable {σ : L2.St} {H : Hp} {Q : VK}
theorem methX {E : L2.St → XK} (h : ta σ H fun x H1 => ∃ a dx fs, x = .ref a ∧ H1 a = some (.ins C dx fs) ∧ fs.lookup m = none ∧ t σ H1 fun vs H2 => sp (x :: vs) H2 Q (E σ)) : tMethX C m sp E ta t σ H Q := h
end
end Z
local macro_rules | `(tactic| walk_at "z1") => `(tactic| (with_reducible refine Z.methX ?_))

/-! ### data that stands: what is known (F) within a heap (H); both grow -/
namespace Z
open PySem L2
section
variable {K : PySem.W.Frag} {F F' G H H' H0 F0 F1 H1 F2 H2 : Hp} {p : Addr} {o o' : HO} {L L1 : List (Addr × HO)}
theorem seqT {a : Addr} {xs : List V} (e : Same H H') (h : SqT K H a xs) : SqT K H' a xs := by
  rcases h with h | h
  · rcases h with h | ⟨o, h⟩
    · exact .inl (.inl (e _ _ h))
    · exact .inl (.inr ⟨o, e _ _ h⟩)
  · exact .inr h
theorem dp_same {v : V} {d : PyData} (e : Same H H') (h : Dp K H v d) : Dp K H' v d :=
  Dp.rec (motive_1 := fun v d _ => Dp K H' v d) (motive_2 := fun vs ds _ => DpAll K H' vs ds) .non .bl .int .str (fun h _ k => .lst (e.seq h) k) (fun h _ k => .tup (seqT e h) k) .nil (fun _ _ a b => .cons a b) h
theorem dpa_same {vs : List V} {ds : List PyData} (e : Same H H') (h : DpAll K H vs ds) : DpAll K H' vs ds :=
  DpAll.rec (motive_1 := fun v d _ => Dp K H' v d) (motive_2 := fun vs ds _ => DpAll K H' vs ds) .non .bl .int .str (fun h _ k => .lst (e.seq h) k) (fun h _ k => .tup (seqT e h) k) .nil (fun _ _ a b => .cons a b) h
theorem dp_int {v : V} {i : Int} (h : Dp K H v (.int i)) : v = .int i := by cases h; rfl
theorem dp_str {v : V} {z : Str} (h : Dp K H v (.str z)) : v = .str z := by cases h; rfl
theorem dp_bool {v : V} {b : Bool} (h : Dp K H v (.bool b)) : v = .bl b := by cases h; rfl
theorem dp_none {v : V} (h : Dp K H v .none) : v = .non := by cases h; rfl
theorem dp_tup {v : V} {ds : List PyData} (h : Dp K H v (.tuple ds)) : ∃ a vs, v = .ref a ∧ SqT K H a vs ∧ DpAll K H vs ds := by
  cases h with
  | tup h1 h2 => exact ⟨_, _, rfl, h1, h2⟩
theorem dp_lst {v : V} {ds : List PyData} (h : Dp K H v (.list ds)) : ∃ a vs, v = .ref a ∧ SqL K H a vs ∧ DpAll K H vs ds := by
  cases h with
  | lst h1 h2 => exact ⟨_, _, rfl, h1, h2⟩
theorem dpa_len : ∀ {vs : List V} {ds : List PyData}, DpAll K H vs ds → vs.length = ds.length
  | _, _, .nil => rfl
  | _, _, .cons _ r => by rw [List.length_cons, List.length_cons, dpa_len r]
theorem dpa_get : ∀ {vs : List V} {ds : List PyData} {i : Nat} {d : PyData}, DpAll K H vs ds → ds[i]? = some d → ∃ v, vs[i]? = some v ∧ Dp K H v d
  | _, _, i, _, .nil, e => by simp at e
  | _, _, 0, _, .cons h _, e => by cases e; exact ⟨_, rfl, h⟩
  | _, _, i + 1, _, .cons _ r, e => by
    obtain ⟨v, e1, e2⟩ := dpa_get (i := i) r (by simpa using e)
    exact ⟨v, by simpa using e1, e2⟩
theorem dpa_ix : ∀ {vs : List V} {ds : List PyData} {i : Nat} {v : V}, DpAll K H vs ds → vs[i]? = some v → ∃ d, ds[i]? = some d ∧ Dp K H v d
  | _, _, i, _, .nil, e => by simp at e
  | _, _, 0, _, .cons h _, e => by cases e; exact ⟨_, rfl, h⟩
  | _, _, i + 1, _, .cons _ r, e => by
    obtain ⟨v, e1, e2⟩ := dpa_ix (i := i) r (by simpa using e)
    exact ⟨v, by simpa using e1, e2⟩
theorem dpa_app : ∀ {vs ws : List V} {ds es : List PyData}, DpAll K H vs ds → DpAll K H ws es → DpAll K H (vs ++ ws) (ds ++ es)
  | _, _, _, _, .nil, k => k
  | _, _, _, _, .cons h r, k => .cons h (dpa_app r k)
theorem dpa_snoc {vs : List V} {ds : List PyData} {v : V} {d : PyData} (h : DpAll K H vs ds) (k : Dp K H v d) : DpAll K H (vs ++ [v]) (ds ++ [d]) := dpa_app h (.cons k .nil)
theorem dpa_drop : ∀ {vs : List V} {ds : List PyData} (n : Nat), DpAll K H vs ds → DpAll K H (vs.drop n) (ds.drop n)
  | _, _, 0, h => h
  | _, _, _ + 1, .nil => .nil
  | _, _, n + 1, .cons _ r => dpa_drop n r
theorem dpa_take : ∀ {vs : List V} {ds : List PyData} (n : Nat), DpAll K H vs ds → DpAll K H (vs.take n) (ds.take n)
  | _, _, 0, _ => .nil
  | _, _, _ + 1, .nil => .nil
  | _, _, n + 1, .cons h r => .cons h (dpa_take n r)
theorem dpa_eraseIdx : ∀ {vs : List V} {ds : List PyData} (n : Nat), DpAll K H vs ds → DpAll K H (vs.eraseIdx n) (ds.eraseIdx n)
  | _, _, 0, .nil => .nil
  | _, _, _ + 1, .nil => .nil
  | _, _, 0, .cons _ r => r
  | _, _, n + 1, .cons h r => .cons h (dpa_eraseIdx n r)
theorem dpa_strs : ∀ {vs : List V} {zs : List Str}, DpAll K H vs (zs.map PyData.str) → vs = zs.map V.str
  | _, [], .nil => rfl
  | _, z :: r, .cons h k => by rw [dp_str h, dpa_strs k]; rfl
theorem dpa_ints : ∀ {vs : List V} {zs : List Int}, DpAll K H vs (zs.map PyData.int) → vs = zs.map V.int
  | _, [], .nil => rfl
  | _, z :: r, .cons h k => by rw [dp_int h, dpa_ints k]; rfl
theorem dpa_of_strs : ∀ (zs : List Str), DpAll K H (zs.map V.str) (zs.map PyData.str)
  | [] => .nil
  | z :: r => .cons (.str z) (dpa_of_strs r)
theorem dpa_of_ints : ∀ (zs : List Int), DpAll K H (zs.map V.int) (zs.map PyData.int)
  | [] => .nil
  | z :: r => .cons (.int z) (dpa_of_ints r)
def cutD (xs : List PyData) (lo hi : Option Int) : List PyData := (xs.drop (HT.sIx xs.length 0 lo)).take (HT.sIx xs.length xs.length hi - HT.sIx xs.length 0 lo)
theorem dpa_cut {vs : List V} {ds : List PyData} {lo hi : Option Int} (h : DpAll K H vs ds) : DpAll K H (cutV vs lo hi) (cutD ds lo hi) := by
  unfold cutV cutD
  rw [dpa_len h]
  exact dpa_take _ (dpa_drop _ h)
/-- from (F0, H0) to (F, H): what is known grows within what stands; new knowledge is of new places -/
structure Gr (F0 H0 F H : Hp) : Prop where
  f : Same F0 F
  h : Same H0 H
  fh : Same F H
  nw : ∀ b o, F b = some o → F0 b = some o ∨ H0 b = none
theorem Gr.refl (e : Same F H) : Gr F H F H := ⟨Same.refl _, Same.refl _, e, fun _ _ h => .inl h⟩
theorem Gr.trans (a : Gr F0 H0 F1 H1) (b : Gr F1 H1 F2 H2) : Gr F0 H0 F2 H2 := ⟨a.f.trans b.f, a.h.trans b.h, b.fh, fun c o e => (b.nw c o e).elim (a.nw c o) fun n => .inr (a.h.free n)⟩
/-- the state of a def that changes nothing of its caller's: own cells L, all new -/
structure Ws (L : List (Addr × HO)) (F0 H0 F H : Hp) : Prop where
  g : Gr F0 H0 F H
  nd : (L.map (·.1)).Nodup
  own : ∀ p o, (p, o) ∈ L → H p = some o ∧ F p = none ∧ H0 p = none
theorem Ws.init (e : Same F H) : Ws [] F H F H := ⟨Gr.refl e, List.nodup_nil, fun _ _ m => nomatch m⟩
theorem Ws.fh (W : Ws L F0 H0 F H) : Same F H := W.g.fh
theorem Ws.f0 (W : Ws L F0 H0 F H) : Same F0 F := W.g.f
theorem Ws.sees (W : Ws L F0 H0 F H) : Sees L H := fun p o m => (W.own p o m).1
theorem Ws.at (W : Ws L F0 H0 F H) (i : Nat) (h : L[i]? = some (p, o)) : H p = some o := W.sees.at i h
theorem Ws.same (W : Ws L F0 H0 F H) : Same H0 H := W.g.h
theorem Ws.freeF (W : Ws L F0 H0 F H) (hp : H p = none) : F p = none := W.fh.free hp
theorem Ws.fresh (W : Ws L F0 H0 F H) (hp : H p = none) : p ∉ L.map (·.1) := fun m => by
  obtain ⟨⟨q, u⟩, m, e⟩ := List.mem_map.mp m
  have h := (W.own q u m).1
  have e' : q = p := e
  rw [e', hp] at h
  cases h
/-- an own cell made -/
theorem Ws.new (W : Ws L F0 H0 F H) (hp : H p = none) : Ws ((p, o) :: L) F0 H0 F (upd H p o) := by
  refine ⟨⟨W.g.f, W.g.h.trans (same_new hp), W.g.fh.trans (same_new hp), W.g.nw⟩, List.nodup_cons.mpr ⟨W.fresh hp, W.nd⟩, fun q u m => ?_⟩
  rcases List.mem_cons.mp m with m | m
  · cases m
    exact ⟨upd_same, W.freeF hp, W.g.h.free hp⟩
  · obtain ⟨a, b, c⟩ := W.own q u m
    exact ⟨same_new hp q u a, b, c⟩
/-- a piece of data made -/
theorem Ws.dat (W : Ws L F0 H0 F H) (hp : H p = none) : Ws L F0 H0 (upd F p o) (upd H p o) := by
  have fp := W.freeF hp
  refine ⟨⟨W.g.f.trans (same_new fp), W.g.h.trans (same_new hp), fun b u e => ?_, fun b u e => ?_⟩, W.nd, fun q u m => ?_⟩
  · by_cases h : b = p
    · subst h; rw [upd_same] at e ⊢; exact e
    · rw [upd_ne h] at e ⊢; exact W.g.fh b u e
  · by_cases h : b = p
    · subst h; exact .inr (W.g.h.free hp)
    · rw [upd_ne h] at e; exact W.g.nw b u e
  · obtain ⟨a, b, c⟩ := W.own q u m
    have hne : q ≠ p := ne_of_none a hp
    exact ⟨by rw [upd_ne hne]; exact a, by rw [upd_ne hne]; exact b, c⟩
theorem Ws.perm (W : Ws L F0 H0 F H) (e : L.Perm L1) : Ws L1 F0 H0 F H := ⟨W.g, (e.map _).nodup_iff.mp W.nd, fun p o m => W.own p o (e.mem_iff.mpr m)⟩
theorem Ws.head (W : Ws ((p, o) :: L) F0 H0 F H) (o' : HO) : Ws ((p, o') :: L) F0 H0 F (upd H p o') := by
  obtain ⟨a, b, c⟩ := W.own p o List.mem_cons_self
  have nd := W.nd
  rw [List.map_cons, List.nodup_cons] at nd
  refine ⟨⟨W.g.f, fun q u e => ?_, fun q u e => ?_, W.g.nw⟩, by rw [List.map_cons, List.nodup_cons]; exact nd, fun q u m => ?_⟩
  · have hne : q ≠ p := fun h => by rw [h, c] at e; cases e
    rw [upd_ne hne]; exact W.g.h q u e
  · have hne : q ≠ p := fun h => by rw [h, b] at e; cases e
    rw [upd_ne hne]; exact W.g.fh q u e
  · rcases List.mem_cons.mp m with m | m
    · cases m
      exact ⟨upd_same, b, c⟩
    · have hne : q ≠ p := fun e => nd.1 (List.mem_map.mpr ⟨(q, u), m, e⟩)
      obtain ⟨x, y, z⟩ := W.own q u (List.mem_cons_of_mem _ m)
      exact ⟨by rw [upd_ne hne]; exact x, y, z⟩
theorem Ws.set (W : Ws L F0 H0 F H) (i : Nat) (h : L[i]? = some (p, o)) (o' : HO) : Ws (L.set i (p, o')) F0 H0 F (upd H p o') :=
  ((W.perm (self_perm h)).head o').perm (set_perm h (p, o')).symm
theorem Ws.sub (W : Ws L F0 H0 F H) (e : L1.Sublist L) : Ws L1 F0 H0 F H := ⟨W.g, (e.map _).nodup W.nd, fun p o m => W.own p o (e.subset m)⟩
/-- an own cell becomes data -/
theorem Ws.frz1 (W : Ws ((p, o) :: L) F0 H0 F H) : Ws L F0 H0 (upd F p o) H := by
  obtain ⟨a, b, c⟩ := W.own p o List.mem_cons_self
  have nd := W.nd
  rw [List.map_cons, List.nodup_cons] at nd
  refine ⟨⟨W.g.f.trans (same_new b), W.g.h, fun q u e => ?_, fun q u e => ?_⟩, nd.2, fun q u m => ?_⟩
  · by_cases h : q = p
    · subst h; rw [upd_same] at e; cases e; exact a
    · rw [upd_ne h] at e; exact W.g.fh q u e
  · by_cases h : q = p
    · subst h; exact .inr c
    · rw [upd_ne h] at e; exact W.g.nw q u e
  · have hne : q ≠ p := fun e => nd.1 (List.mem_map.mpr ⟨(q, u), m, e⟩)
    obtain ⟨x, y, z⟩ := W.own q u (List.mem_cons_of_mem _ m)
    exact ⟨x, by rw [upd_ne hne]; exact y, z⟩
theorem Ws.frz (W : Ws L F0 H0 F H) (i : Nat) (h : L[i]? = some (p, o)) : ∃ F', Ws (L.eraseIdx i) F0 H0 F' H ∧ Same F F' ∧ F' p = some o := by
  have W1 := W.perm (self_perm h)
  exact ⟨_, W1.frz1, same_new (W1.own p o List.mem_cons_self).2.1, upd_same⟩
/-- behind a def that changed nothing -/
theorem Ws.ext (W : Ws L F0 H0 F H) (g : Gr F H F' H') : Ws L F0 H0 F' H' := by
  refine ⟨W.g.trans g, W.nd, fun p o m => ?_⟩
  obtain ⟨a, b, c⟩ := W.own p o m
  refine ⟨g.h p o a, ?_, c⟩
  cases e : F' p with
  | none => rfl
  | some u =>
    rcases g.nw p u e with h | h
    · rw [b] at h; cases h
    · rw [a] at h; cases h
theorem Ws.exts (W : Ws L F0 H0 F H) (g : Same H H') : Ws L F0 H0 F H' := ⟨⟨W.g.f, W.g.h.trans g, W.g.fh.trans g, W.g.nw⟩, W.nd, fun p o m => let ⟨a, b, c⟩ := W.own p o m; ⟨g p o a, b, c⟩⟩
end
section
variable {K : PySem.W.Frag} {F H F0 H0 : Hp} {L : List (Addr × HO)} {Q : VK} {vs xs : List V} {ds es : List PyData} {d : PyData} {v : V} {a p : Addr}
theorem lstW (W : Ws L F0 H0 F H) (k : ∀ p H', Ws ((p, .lst vs) :: L) F0 H0 F H' → Q (.ref p) H') (hz : vs.length ≤ 100000 := by first | decide | (simp only [List.length_cons, List.length_nil]; decide)) : rLst vs H Q :=
  ⟨Nat.le_trans hz (by decide), fun p hp => k p _ (W.new hp)⟩
/-- a list that nobody changes any more -/
theorem lstD (W : Ws L F0 H0 F H) (hd : DpAll K F vs ds) (k : ∀ v F' H', Ws L F0 H0 F' H' → Same F F' → Dp K F' v (.list ds) → Q v H') (hz : vs.length ≤ 100000 := by first | decide | (simp only [List.length_cons, List.length_nil]; decide)) : rLst vs H Q :=
  ⟨Nat.le_trans hz (by decide), fun p hp => k _ _ _ (W.dat hp) (same_new (W.freeF hp)) (.lst (SqL.of upd_same) (dpa_same (same_new (W.freeF hp)) hd))⟩
theorem tupD (W : Ws L F0 H0 F H) (hd : DpAll K F vs ds) (k : ∀ v F' H', Ws L F0 H0 F' H' → Same F F' → Dp K F' v (.tuple ds) → Q v H') (hz : vs.length ≤ 100000 := by first | decide | (simp only [List.length_cons, List.length_nil]; decide)) : rTup vs H Q :=
  ⟨Nat.le_trans hz (by decide), fun p hp => k _ _ _ (W.dat hp) (same_new (W.freeF hp)) (.tup (SqT.of upd_same) (dpa_same (same_new (W.freeF hp)) hd))⟩
/-- xs.append(e) of an own list -/
theorem appW (W : Ws L F0 H0 F H) (i : Nat) (h : L[i]? = some (p, .lst xs)) (k : ∀ H', Ws (L.set i (p, .lst (xs ++ [v]))) F0 H0 F H' → Q .non H') (hz : xs.length < 100000) : rAppend (.ref p) [v] H Q :=
  ⟨p, xs, v, rfl, rfl, W.at i h, Nat.lt_of_lt_of_le hz (by decide), k _ (W.set i h _)⟩
end
end Z
/-! ### readings over data -/
namespace Z
open PySem PySem.Spec L2 PyProof.Rows
theorem Ws.hs {L : List (Addr × HO)} {F0 H0 F H : Hp} (W : Ws L F0 H0 F H) : Hs L F H := ⟨W.nd, fun p o m => ⟨(W.own p o m).1, (W.own p o m).2.1⟩, W.fh⟩
theorem Ws.hs0 {L : List (Addr × HO)} {F0 H0 F H : Hp} (W : Ws L F0 H0 F H) : Hs L H0 H := ⟨W.nd, fun p o m => ⟨(W.own p o m).1, (W.own p o m).2.2⟩, W.same⟩
theorem Ws.pick {L L' : List (Addr × HO)} {F0 H0 F H : Hp} (W : Ws L F0 H0 F H) (is : List Nat) (hn : is.Nodup) (h : is.map (fun i => L[i]?) = L'.map some) : Ws L' F0 H0 F H :=
  ⟨W.g, (W.hs.pick is hn h).nd, fun p o m => ⟨((W.hs.pick is hn h).own p o m).1, ((W.hs.pick is hn h).own p o m).2, ((W.hs0.pick is hn h).own p o m).2⟩⟩
theorem Ws.join {L N : List (Addr × HO)} {F0 H0 F H F' H' : Hp} (W : Ws L F0 H0 F H) (M : Ws N F H F' H') : Ws (N ++ L) F0 H0 F' H' := by
  have W1 := W.ext M.g
  refine ⟨W1.g, ?_, fun p o m => ?_⟩
  · rw [List.map_append, List.nodup_append]
    refine ⟨M.nd, W1.nd, fun a ha b hb e => ?_⟩
    subst e
    obtain ⟨⟨q, u⟩, m, rfl⟩ := List.mem_map.mp ha
    obtain ⟨⟨q', u'⟩, m', e⟩ := List.mem_map.mp hb
    have e' : q' = q := e
    subst e'
    have h1 := (M.own _ u m).2.2
    rw [(W.own _ u' m').1] at h1
    cases h1
  · rcases List.mem_append.mp m with m | m
    · obtain ⟨h1, h2, h3⟩ := M.own p o m
      exact ⟨h1, h2, W.g.h.free h3⟩
    · exact W1.own p o m
theorem Ws.many {L : List (Addr × HO)} {F0 H0 F H H' : Hp} (W : Ws L F0 H0 F H) (s : Same H H') {ts : List Addr} (hts : ∀ t ∈ ts, H t = none) : ∃ F', Ws L F0 H0 F' H' ∧ Same F F' ∧ ∀ t ∈ ts, F' t = H' t := by
  have fno : ∀ b o, F b = some o → b ∉ ts := fun b o e m => by
    have := W.fh b o e
    rw [hts b m] at this
    cases this
  refine ⟨fun b => if b ∈ ts then H' b else F b, ⟨⟨fun b o e => ?_, W.g.h.trans s, fun b o e => ?_, fun b o e => ?_⟩, W.nd, fun p o m => ?_⟩, fun b o e => ?_, fun t ht => if_pos ht⟩
  · have := W.g.f b o e
    exact (if_neg (fno b o this)).trans this
  · by_cases h : b ∈ ts
    · have e' : H' b = some o := (if_pos h).symm.trans e
      exact e'
    · have e' : F b = some o := (if_neg h).symm.trans e
      exact s b o (W.g.fh b o e')
  · by_cases h : b ∈ ts
    · exact .inr (W.g.h.free (hts b h))
    · exact W.g.nw b o ((if_neg h).symm.trans e)
  · obtain ⟨a, b, c⟩ := W.own p o m
    have hn : p ∉ ts := fun h => by rw [hts p h] at a; cases a
    exact ⟨s p o a, (if_neg hn).trans b, c⟩
  · exact (if_neg (fno b o e)).trans e
theorem Ws.add {L : List (Addr × HO)} {F0 H0 F H H' : Hp} {p : Addr} {o : HO} (W : Ws L F0 H0 F H) (e : Same H H') (hp : H p = none) (h : H' p = some o) : Ws ((p, o) :: L) F0 H0 F H' := by
  have W1 := W.exts e
  refine ⟨W1.g, List.nodup_cons.mpr ⟨W.fresh hp, W1.nd⟩, fun q u m => ?_⟩
  rcases List.mem_cons.mp m with m | m
  · cases m
    exact ⟨h, W.freeF hp, W.g.h.free hp⟩
  · exact W1.own q u m
section
variable {K : PySem.W.Frag} {F F' H H' F0 H0 : Hp} {L : List (Addr × HO)} {Q : VK} {vs xs : List V} {ds es : List PyData} {d e : PyData} {v w x : V} {a p : Addr} {σ : L2.St} {i : Nat}
/-- the word of a comprehension that makes data -/
def LcP (K : PySem.W.Frag) (D : Addr) (L : List (Addr × HO)) (F0 H0 F : Hp) (ds : List PyData) (i : Nat) (H : Hp) : Prop := ∃ F' vs, Ws ((D, .lst vs) :: L) F0 H0 F' H ∧ Same F F' ∧ DpAll K F' vs (ds.take i)
theorem lc0 {D : Addr} (W : Ws L F0 H0 F H) (hD : H D = none) : LcP K D L F0 H0 F ds 0 (upd H D (.lst [])) := ⟨F, [], W.new hD, Same.refl _, by rw [List.take_zero]; exact .nil⟩
theorem lcS {D : Addr} {F1 : Hp} (W : Ws ((D, .lst vs) :: L) F0 H0 F1 H) (s : Same F F1) (ha : DpAll K F1 vs (ds.take i)) (hi : ds[i]? = some d) (hv : Dp K F1 v d) (hz : ds.length ≤ 100000) :
    ∃ acc, H D = some (.lst acc) ∧ acc.length < sizeLine ∧ LcP K D L F0 H0 F ds (i + 1) (upd H D (.lst (acc ++ [v]))) := by
  have hlt := (List.getElem?_eq_some_iff.mp hi).1
  refine ⟨vs, W.at 0 rfl, ?_, F1, vs ++ [v], W.set 0 rfl _, s, ?_⟩
  · rw [dpa_len ha, List.length_take]
    exact Nat.lt_of_lt_of_le (show min i ds.length < 100001 by omega) (by decide)
  · rw [List.take_add_one, hi]
    exact dpa_snoc ha hv
theorem ixT (h : Dp K F v (.tuple ds)) (s : Same F H) (i : Nat) (e : ds[i]? = some d) (k : ∀ w, Dp K F w d → Q w H) : rIxT K v (.int (i : Int)) H Q := by
  obtain ⟨a, vs, rfl, h1, h2⟩ := dp_tup h
  obtain ⟨w, e1, e2⟩ := dpa_get h2 e
  exact ⟨a, vs, i, w, rfl, rfl, seqT s h1, atI_nat e1, k w e2⟩
theorem ixD (h : Dp K F v (.list ds)) (s : Same F H) (i : Nat) (e : ds[i]? = some d) (k : ∀ w, Dp K F w d → Q w H) : rIxL K v (.int (i : Int)) H Q := by
  obtain ⟨a, vs, rfl, h1, h2⟩ := dp_lst h
  obtain ⟨w, e1, e2⟩ := dpa_get h2 e
  exact ⟨a, vs, i, w, rfl, rfl, s.seq h1, atI_nat e1, k w e2⟩
theorem gtupD {n : Nat} {t : TGs} {R : L2.St → Hp → Prop} (h : Dp K F v (.tuple ds)) (s : Same F H) (k : ∀ vs, DpAll K F vs ds → t vs σ H R) (hn : ds.length = n := by rfl) : gTup K n t v σ H R := by
  obtain ⟨a, vs, rfl, h1, h2⟩ := dp_tup h
  exact ⟨a, vs, rfl, seqT s h1, (dpa_len h2).trans hn, k vs h2⟩
theorem dpa2 {d1 d2 : PyData} (h : DpAll K F vs [d1, d2]) : ∃ v1 v2, vs = [v1, v2] ∧ Dp K F v1 d1 ∧ Dp K F v2 d2 := by
  cases h with
  | cons h1 h2 =>
    cases h2 with
    | cons h2 h3 =>
      cases h3
      exact ⟨_, _, rfl, h1, h2⟩
theorem dpa1 {d1 : PyData} (h : DpAll K F vs [d1]) : ∃ v1, vs = [v1] ∧ Dp K F v1 d1 := by
  cases h with
  | cons h1 h2 =>
    cases h2
    exact ⟨_, rfl, h1⟩
theorem eqD (h1 : Dp K F v d) (h2 : Dp K F w e) (s : Same F H) (o1 : SeqAt.shaped d = true) (o2 : SeqAt.shaped e = true) (k : Q (.bl (PyData.eqv d e)) H) : rEqD K v w H Q := ⟨d, e, dp_same s h1, dp_same s h2, o1, o2, k⟩
theorem neD (h1 : Dp K F v d) (h2 : Dp K F w e) (s : Same F H) (o1 : SeqAt.shaped d = true) (o2 : SeqAt.shaped e = true) (k : Q (.bl (!PyData.eqv d e)) H) : rNeD K v w H Q := ⟨d, e, dp_same s h1, dp_same s h2, o1, o2, k⟩
/-- t + u -/
theorem catD (W : Ws L F0 H0 F H) (h1 : Dp K F v (.tuple ds)) (h2 : Dp K F w (.tuple es)) (hz : ds.length + es.length ≤ 100000) (k : ∀ r F' H', Ws L F0 H0 F' H' → Same F F' → Dp K F' r (.tuple (ds ++ es)) → Q r H') : rCatA K v w H Q := by
  obtain ⟨a, vs, rfl, a1, a2⟩ := dp_tup h1
  obtain ⟨b, ws, rfl, b1, b2⟩ := dp_tup h2
  refine ⟨a, b, vs, ws, rfl, rfl, seqT W.fh a1, seqT W.fh b1, by rw [dpa_len a2, dpa_len b2]; exact Nat.le_trans hz (by decide), fun e => ?_, fun e1 e2 => ?_, fun e1 e2 p hp => ?_⟩
  · subst e
    have := dpa_len a2
    have e : ds = [] := List.length_eq_zero_iff.mp this.symm
    subst e
    exact k _ _ _ W (Same.refl _) h2
  · subst e2
    have := dpa_len b2
    have e : es = [] := List.length_eq_zero_iff.mp this.symm
    subst e
    rw [List.append_nil] at k
    exact k _ _ _ W (Same.refl _) h1
  · have s := same_new (o := .tup (vs ++ ws)) (W.freeF hp)
    exact k _ _ _ (W.dat hp) s (.tup (SqT.of upd_same) (dpa_app (dpa_same s a2) (dpa_same s b2)))
/-- t[lo:hi] -/
theorem slT {lo hi : Option Int} (W : Ws L F0 H0 F H) (h1 : Dp K F v (.tuple ds)) (k : ∀ r F' H', Ws L F0 H0 F' H' → Same F F' → Dp K F' r (.tuple (cutD ds lo hi)) → Q r H') : rSlA K v lo hi H Q := by
  obtain ⟨a, vs, rfl, a1, a2⟩ := dp_tup h1
  refine ⟨a, vs, rfl, seqT W.fh a1, fun e => ?_, fun e p hp => ?_⟩
  · have hw : cutD ds lo hi = ds := by
      unfold cutD
      rw [dpa_len a2] at e
      rw [e.1, e.2]
      simp
    rw [hw] at k
    exact k _ _ _ W (Same.refl _) h1
  · have s := same_new (o := .tup (cutV vs lo hi)) (W.freeF hp)
    exact k _ _ _ (W.dat hp) s (.tup (SqT.of upd_same) (dpa_same s (dpa_cut a2)))
theorem slD {lo hi : Option Int} (W : Ws L F0 H0 F H) (h1 : Dp K F v (.list ds)) (k : ∀ r F' H', Ws L F0 H0 F' H' → Same F F' → Dp K F' r (.list (cutD ds lo hi)) → Q r H') : rSlL K v lo hi H Q := by
  obtain ⟨a, vs, rfl, a1, a2⟩ := dp_lst h1
  refine ⟨a, vs, rfl, W.fh.seq a1, fun p hp => ?_⟩
  have s := same_new (o := .lst (cutV vs lo hi)) (W.freeF hp)
  exact k _ _ _ (W.dat hp) s (.lst (SqL.of upd_same) (dpa_same s (dpa_cut a2)))
/-! isinstance over data -/
def tyN : PyData → String
  | .none => "NoneType"
  | .bool _ => "bool"
  | .int _ => "int"
  | .str _ => "str"
  | .list _ => "list"
  | .tuple _ => "tuple"
  | .dict _ => "dict"
theorem ty_dp (h : Dp K H v d) : TyX K H v (.type (tyN d)) := by
  cases h with
  | non => exact .base .non
  | bl b => exact .base (.bl b)
  | int i => exact .base (.int i)
  | str z => exact .base (.str z)
  | lst h _ =>
    rcases h with (h | ⟨o, h⟩) | ⟨o, its, n, h, hc, _⟩
    · exact .base (.lst h)
    · exact .base (.frz h)
    · exact .kList h hc
  | tup h _ =>
    rcases h with (h | ⟨o, h⟩) | ⟨o, its, n, h, hc, _⟩
    · exact .base (.tup h)
    · exact .fTuple h
    · exact .kTuple h hc
end
end Z

/-! ### isinstance, in, for over data; tuple(d.items()) -/
namespace Z
open PySem PySem.Spec L2 PyProof.Rows
section
variable {K : PySem.W.Frag} {F F' H H' F0 H0 : Hp} {L : List (Addr × HO)} {Q : VK} {vs xs : List V} {ds es : List PyData} {d e : PyData} {v w x : V} {a p : Addr} {σ : L2.St} {i : Nat}
def isTy (T : String) (d : PyData) : Bool := tyN d == T || (T == "int" && tyN d == "bool")
theorem kitN : ∀ n ∈ ["NoneType", "bool", "int", "str", "list", "tuple", "dict"], ∀ T ∈ ["str", "int", "bool", "list", "tuple"], kitB n T = some (n == T || (T == "int" && n == "bool")) := by decide +kernel
theorem tyN_in (d : PyData) : tyN d ∈ ["NoneType", "bool", "int", "str", "list", "tuple", "dict"] := by cases d <;> simp [tyN]
theorem kitD {T : String} (hT : T ∈ ["str", "int", "bool", "list", "tuple"]) : PySem.W.kitOne K (.type (tyN d)) (.type T) = some (isTy T d) := kit_ty (kitN _ (tyN_in d) T hT)
theorem isiD {T : String} (h : Dp K F v d) (s : Same F H) (hT : T ∈ ["str", "int", "bool", "list", "tuple"]) (k : Q (.bl (isTy T d)) H) : rIsi K [v, .ty T] H Q := ⟨v, .ty T, _, .type T, _, rfl, .ty T, ty_dp (dp_same s h), kitD hT, k⟩
theorem kitSeq : PySem.W.kitAny K (.type (tyN d)) [.type "list", .type "tuple"] = some (isTy "list" d || isTy "tuple" d) :=
  kitAny_cons (kitD (by simp)) (fun e => kitAny_cons (kitD (by simp)) (fun e2 => by rw [e, e2]; exact kitAny_nil) (fun e2 => by rw [e2]; simp)) (fun e => by rw [e]; rfl)
theorem isiSeq (h : Dp K F v d) (s : Same F H) (hp : H p = some (.tup [.ty "list", .ty "tuple"])) (k : Q (.bl (isTy "list" d || isTy "tuple" d)) H) : rIsiT K [v, .ref p] H Q :=
  ⟨v, p, _, _, _, _, rfl, hp, .cons (.ty "list") (.cons (.ty "tuple") .nil), ty_dp (dp_same s h), kitSeq, k⟩
def rInDT (K : PySem.W.Frag) : R2 := fun x y H Q => ∃ d ds, Dp K H x d ∧ Dp K H y (.tuple ds) ∧ SeqAt.shaped d = true ∧ SeqAt.shaped (.tuple ds) = true ∧ Q (.bl (ds.any fun z => PyData.eqv z d)) H
theorem op_inDT {X : Cx} (hu : X.A.units + 65 < cLine) : OpR X (compareOp .In) (rInDT X.K) := by
  intro pins s σ H x y v u Q I rx ry h
  obtain ⟨d, ds, hd, he, sd, se, q⟩ := h
  obtain ⟨as, r1⟩ := Dp.reads I d x v hd rx
  obtain ⟨bs, r2⟩ := Dp.reads I (.tuple ds) y u he ry
  exact SeqAt.in_tuple_reads r2 r1 (SeqAt.canLay_of_shaped se) (SeqAt.canLay_of_shaped sd) (room_in_shaped sd hu) ⟨.bl _, H, I, rfl, q⟩
theorem hu65 {k : Nat} {A : Around} (r : Room k A) : A.units + 65 < cLine := by have := r.un; omega
theorem din {ty td : TE} (h : ty σ H fun y H1 => td σ H1 fun x H2 => ∃ a o, x = .ref a ∧ DGet H2 a y o ∧ Q (.bl o.isSome) H2) : tDIn ty td σ H Q := h
theorem dnotin {ty td : TE} (h : ty σ H fun y H1 => td σ H1 fun x H2 => ∃ a o, x = .ref a ∧ DGet H2 a y o ∧ Q (.bl (!o.isSome)) H2) : tDNotIn ty td σ H Q := h
theorem lcE {wi : TI} {g : TG} {tt : TT} {te : TE} {ws : List Nat} (h : wi σ H fun J H1 => ∀ D, H1 D = none → ∃ W : Nat → Nat → Hp → Prop, (∃ m, W 0 m (upd H1 D (.lst []))) ∧ ∀ i m H, W i m H →
  (J.stop i H ∧ Q (.ref D) H) ∨ (J.go i H ∧ ∃ Nx : Hp → Prop, (∀ H', Nx H' → ∃ m', m' < m ∧ W (i + 1) m' H') ∧ ∀ x H', J.yld i H x H' → g x (wipe σ ws) H' fun σ2 H2 => wipe σ2 ws = wipe σ ws ∧ tt σ2 H2 fun b H3 =>
    if b = true then te σ2 H3 fun y H4 => ∃ acc, H4 D = some (.lst acc) ∧ acc.length < sizeLine ∧ Nx (upd H4 D (.lst (acc ++ [y]))) else Nx H3)) : tLc wi g tt te ws σ H Q := h
theorem iTupE {te : TE} {R : It → Hp → Prop} (h : te σ H fun x H1 => ∃ a, x = .ref a ∧ (∃ xs, SqT K H1 a xs) ∧ R (Itt K a) H1) : iTup K te σ H R := h
theorem iListE {te : TE} {R : It → Hp → Prop} (h : te σ H fun x H1 => ∃ a, x = .ref a ∧ (∃ xs, SqL K H1 a xs) ∧ R (Itl K a) H1) : iList K te σ H R := h
theorem iEnumE {ta : TA} {R : It → Hp → Prop} (h : ta σ H fun vs H1 => ∃ a xs, vs = [.ref a] ∧ SqL K H1 a xs ∧ R (Ite K a) H1) : iEnum K ta σ H R := h
theorem iZipAE {ta : TA} {R : It → Hp → Prop} (h : ta σ H fun vs H1 => ∃ a b xs ys, vs = [.ref a, .ref b] ∧ ((SqL K H1 a xs ∧ SqL K H1 b ys ∧ R (Itz K a b) H1) ∨ (SqT K H1 a xs ∧ SqT K H1 b ys ∧ R (RZ.ItzT K a b) H1))) : RZ.iZipA K ta σ H R := h
theorem forE {wi : TI} {g : TG} {ts : TS} {D : Ends} (h : wi σ H fun J H1 => ∃ W : Nat → Nat → L2.St → Hp → Prop, (∃ m, W 0 m σ H1) ∧ ∀ i m σ H, W i m σ H →
      (J.stop i H ∧ D.nx σ H) ∨ (J.go i H ∧ ∃ N : L2.St → Hp → Prop, (∀ σ' H', N σ' H' → ∃ m', m' < m ∧ W (i + 1) m' σ' H') ∧ ∀ x H', J.yld i H x H' → g x σ H' fun σ2 H2 => ts { D with nx := N, ct := N, bk := D.nx } σ2 H2)) : tFor wi g ts D σ H := h
/-- for over a list or a tuple -/
def iSeq (K : PySem.W.Frag) (tl : TE) : TI := fun σ H R => tl σ H fun x H1 => ∃ a, x = .ref a ∧ (((∃ xs, SqL K H1 a xs) ∧ R (Itl K a) H1) ∨ ((∃ xs, SqT K H1 a xs) ∧ R (Itt K a) H1))
theorem pi_seq {X : Cx} {tg l : Expr} {tl : TE} (hl : PE X l tl) : PI X tg l (iSeq X.K tl) := by
  refine ⟨fun pins s σ H R I h => ?_⟩
  refine thn (hl.run pins s σ H _ I h) fun v s1 ⟨x, H1, I1, r1, q1⟩ => ?_
  obtain ⟨a, e, q⟩ := q1
  subst e
  cases r1
  rcases q with ⟨⟨xs, hq⟩, q⟩ | ⟨⟨xs, hq⟩, q⟩
  · obtain ⟨its, rv, p, hz⟩ := I1.list hq
    refine wpAny_pyIter_list p.isList ?_
    refine ⟨s1.heap.objs.size, [s1.heap.objs.size], _, _, H1, rfl, I1.kept (t' := s1.toks) fun b o e => Heap.get?_push_of_some _ e, turn_list a _, ⟨_, Heap.get?_push_size _ rfl, rfl, rfl⟩, fun b hb => ?_, q⟩
    have e : b = s1.heap.objs.size := by simpa using hb
    subst e
    exact I1.fpOk (Nat.le_refl _) (I1.hok.fresh (Nat.le_refl _))
  · obtain ⟨its, rv, p, hz⟩ := I1.tuple hq
    refine wpAny_pyIter_tuple (show s1.heap.IsTuple a its.toArray from p) ?_
    refine ⟨s1.heap.objs.size, [s1.heap.objs.size], _, _, H1, rfl, I1.kept (t' := s1.toks) fun b o e => Heap.get?_push_of_some _ e, turn_tuple a _, ⟨_, Heap.get?_push_size _ rfl, rfl, rfl⟩, fun b hb => ?_, q⟩
    have e : b = s1.heap.objs.size := by simpa using hb
    subst e
    exact I1.fpOk (Nat.le_refl _) (I1.hok.fresh (Nat.le_refl _))
theorem forSq {te : TE} {g : TG} {ts : TS} {D : Ends} {σ : L2.St} {H : Hp} (h : te σ H fun x H1 => ∃ a, x = .ref a ∧ (((∃ xs, SqL K H1 a xs) ∧ ∃ W : Nat → Nat → L2.St → Hp → Prop, (∃ m, W 0 m σ H1) ∧ ∀ i m σ H, W i m σ H →
      ((Itl K a).stop i H ∧ D.nx σ H) ∨ ((Itl K a).go i H ∧ ∃ N : L2.St → Hp → Prop, (∀ σ' H', N σ' H' → ∃ m', m' < m ∧ W (i + 1) m' σ' H') ∧ ∀ x H', (Itl K a).yld i H x H' → g x σ H' fun σ2 H2 => ts { D with nx := N, ct := N, bk := D.nx } σ2 H2)) ∨
      ((∃ xs, SqT K H1 a xs) ∧ ∃ W : Nat → Nat → L2.St → Hp → Prop, (∃ m, W 0 m σ H1) ∧ ∀ i m σ H, W i m σ H →
      ((Itt K a).stop i H ∧ D.nx σ H) ∨ ((Itt K a).go i H ∧ ∃ N : L2.St → Hp → Prop, (∀ σ' H', N σ' H' → ∃ m', m' < m ∧ W (i + 1) m' σ' H') ∧ ∀ x H', (Itt K a).yld i H x H' → g x σ H' fun σ2 H2 => ts { D with nx := N, ct := N, bk := D.nx } σ2 H2)))) : tFor (iSeq K te) g ts D σ H := h
/-- a for over a list or a tuple of which each turn keeps what stands -/
theorem forSqD {g : TG} {ts : TS} {D : Ends} {σ : L2.St} {Hb H1 : Hp} (hq : SqL K H1 a xs ∨ SqT K H1 a xs) (Pv : Nat → L2.St → Hp → Prop) (h0 : Pv 0 σ H1) (hb : SqL K Hb a xs ∨ SqT K Hb a xs) (hk : ∀ i σ H, Pv i σ H → Same Hb H)
    (hs : ∀ i x σ H, xs[i]? = some x → Pv i σ H → g x σ H fun σ2 H2 => ts { D with nx := Pv (i + 1), ct := Pv (i + 1), bk := D.nx } σ2 H2) (hd : ∀ σ H, Pv xs.length σ H → D.nx σ H) :
    ∃ b, V.ref a = .ref b ∧ (((∃ xs, SqL K H1 b xs) ∧ ∃ W : Nat → Nat → L2.St → Hp → Prop, (∃ m, W 0 m σ H1) ∧ ∀ i m σ H, W i m σ H →
      ((Itl K b).stop i H ∧ D.nx σ H) ∨ ((Itl K b).go i H ∧ ∃ N : L2.St → Hp → Prop, (∀ σ' H', N σ' H' → ∃ m', m' < m ∧ W (i + 1) m' σ' H') ∧ ∀ x H', (Itl K b).yld i H x H' → g x σ H' fun σ2 H2 => ts { D with nx := N, ct := N, bk := D.nx } σ2 H2)) ∨
      ((∃ xs, SqT K H1 b xs) ∧ ∃ W : Nat → Nat → L2.St → Hp → Prop, (∃ m, W 0 m σ H1) ∧ ∀ i m σ H, W i m σ H →
      ((Itt K b).stop i H ∧ D.nx σ H) ∨ ((Itt K b).go i H ∧ ∃ N : L2.St → Hp → Prop, (∀ σ' H', N σ' H' → ∃ m', m' < m ∧ W (i + 1) m' σ' H') ∧ ∀ x H', (Itt K b).yld i H x H' → g x σ H' fun σ2 H2 => ts { D with nx := N, ct := N, bk := D.nx } σ2 H2))) := by
  refine ⟨a, rfl, ?_⟩
  rcases hb with hb | hb
  · exact .inl ⟨⟨xs, (hk _ _ _ h0).seq hb⟩, for_list Pv h0 (fun i σ H hi p => (hk i σ H p).seq hb) hs hd⟩
  · exact .inr ⟨⟨xs, seqT (hk _ _ _ h0) hb⟩, for_tup Pv h0 (fun i σ H hi p => seqT (hk i σ H p) hb) hs hd⟩
end
end Z
/-! tuple(d.items()) -/
namespace ZT
open PySem PySem.Spec L2 PyProof.Rows
section
variable {prog : Program} {w : World} {Kk : Type} [DecidableEq Kk] {knd : KeyKind prog w Kk} {A : Around} {E : Value → Shared → Prop} {s : Shared} {r d : Addr} {kvs : List (Kk × Value)} {ep : Nat}
theorem call_tuple_items {Q : Value → Shared → Prop} (hh : A.handled = none) (hv : s.heap.IsItemsView r d) (hm : s.heap.DictAt knd d kvs ep) (hn : kvs.length ≤ sizeLine)
    (hQ : ∀ (h' : Heap) (tk : Nat) (as : List Addr), (∀ b o, s.heap.get? b = some o → h'.get? b = some o) → as.length = kvs.length → PySem.W.KdxG knd kvs s.heap.objs.size h' as →
      Q (.ref h'.objs.size) { s with heap := h'.push { cls := .type "tuple", data := .seq (as.map Value.ref).toArray }, toks := tk }) :
    wpAny (model prog w) A (call (.type "tuple") [.ref r]) Q E s := by
  have key : codeAny (model prog w) A.in1 (.call (.builtin "tuple.__new__") ⟨[.type "tuple", .ref r], []⟩) (wants (fun obj s₁ => s₁.TypeIs obj "tuple" ∧ Q obj s₁) E) s := by
    refine codeAny_of_tree ?_
    show wpAny _ A.in1.in1 (do checkBuiltinCall "tuple.__new__" ⟨[.type "tuple", .ref r], []⟩; again (.builtin "tuple.__new__" ⟨[.type "tuple", .ref r], []⟩)) _ _ s
    refine wpAny_bind (wpAny_of_eq (F.newCall_tuple_1 _) (wpAny_pure ⟨plainId_quiet F.plain_tuple_new _, codeAny_builtin F.entry_tuple_new ?_⟩))
    rw [Around.under_plainId F.plain_tuple_new _]
    have hsub := sub_tuple_self
    have hinit := init_tuple_lookup
    have hmh := madeHere_tuple
    obtain ⟨o, ho, hc, hdt⟩ := id hv
    have hTI : s.TypeIs (.ref r) "dict_items" := ⟨o, ho, hc⟩
    have hh1 : A.in1.in1.handled = none := hh
    wp_walk using wpAny_typeOf hTI, PySem.W.kdx_collect (A := A.in1.in1) (knd := knd) (kvs := kvs) (ep := ep) hh1 hv hm hn
    intro h' tk as hk hl hG
    show wpAny _ _ (Builtin.Tuple.tupleExact (as.map Value.ref).toArray >>= fun v => ret v) _ _ _
    unfold Builtin.Tuple.tupleExact
    refine wpAny_bind (wpAny_newObj_type ?_ (by show (as.map Value.ref).toArray.size ≤ sizeLine; simp; omega))
    refine wpAny_pure ?_
    exact ⟨⟨_, Heap.get?_push_size _ rfl, rfl⟩, hQ h' tk as hk hl hG⟩
  refine callType_codes (Q₁ := fun obj s₁ => s₁.TypeIs obj "tuple" ∧ Q obj s₁) F.called_tuple (F.typeCall_tuple_1 _) F.entry_object_init key fun obj s₁ h₁ => ?_
  exact ⟨h₁.1, F.args_object_init_2 obj _, object_init_meets F.called_tuple.init.lookup F.called_tuple.made (by decide) prog w A.in1 _ s₁ ⟨h₁.1, rfl, h₁.2⟩⟩
end
theorem items_laid2 {X : Cx} {pins : List (Addr × Obj)} {σ : L2.St} {H : Hp} {s : Shared} {h' : Heap} {tk : Nat} {kvs : List (Key × V)} {vs : List (Key × Value)} {as : List Addr} (I : Inv X pins σ H s) (hz : kvs.length ≤ sizeLine) (kv : KV kvs vs)
    (hk : ∀ b o, s.heap.get? b = some o → h'.get? b = some o) (hl : as.length = vs.length) (hG : PySem.W.KdxG (mixKind X.prog X.w) vs s.heap.objs.size h' as) :
    ∃ H' : Hp, (∀ b o, H b = some o → H' b = some o) ∧ (∀ t ∈ as, H t = none) ∧ (∀ b, b ∉ as → H' b = H b) ∧ Paired (fun (t : Addr) (q : Key × V) => H' t = some (.tup [kV q.1, q.2])) as kvs ∧ Inv X pins σ H' { s with heap := h', toks := tk } := by
  have lk : kvs.length = vs.length := Paired.length kv
  have nd : as.Nodup := List.Pairwise.imp (fun {a b} (h : a < b) => Nat.ne_of_lt h) hG.rise
  have new : ∀ t ∈ as, H t = none := fun t ht => I.hok.fresh (Nat.le_of_lt (hG.above t ht))
  have atP := LiI.putT_at as kvs H (by omega) nd
  have off : ∀ b, b ∉ as → LiI.putT H as kvs b = H b := fun b h1 => LiI.putT_off as kvs _ h1
  have low : ∀ b o, s.heap.get? b = some o → b ∉ as := fun b o e z => absurd (Heap.lt_size e) (Nat.not_lt.mpr (Nat.le_of_lt (hG.above b z)))
  have kp : ∀ b u, H b = some u → (LiI.putT H as kvs) b = some u := fun b u e => by
    rw [off b (fun z => by rw [new b z] at e; cases e)]
    exact e
  refine ⟨LiI.putT H as kvs, kp, new, off, atP, ?_⟩
  refine I.call' (ch := []) rfl ⟨fun b o q _ _ _ => hk b o q, fun b o q _ _ _ => ⟨o.slots, hk b o q⟩, fun b o q n _ => ?_, fun b o q _ => ⟨o, hk b o q⟩, fun b xs q => kp b _ q, fun b o u q => kp b _ q, fun b ps q => ⟨#[], by rw [kp b _ q]; simp⟩⟩ (fun b u q => ?_) I.bare fun b z => by simp at z
  · rw [off b (low b o q)]
    exact n
  · by_cases hb : b ∈ as
    · obtain ⟨j, pk, e1, e2, e3⟩ := LiI.paired_ix atP hb
      rw [e3] at q
      cases q
      obtain ⟨key, k, x, f1, f2, f3⟩ := hG.pairs j b e1
      obtain ⟨qv, g1, g2, g3⟩ := LiI.paired_get kv e2
      rw [f1] at g1
      cases g1
      have rk : RelV (kV pk.1) key := by
        rw [g2]
        exact relV_key (show keyIs k key = true from f2)
      exact ⟨by show 2 ≤ sizeLine; decide, [key, x], .cons rk (.cons g3 .nil), ⟨_, f3, rfl, _, rfl⟩⟩
    · rw [off b hb] at q
      exact (I.hok b u q).stay (fun d v _ y => hk d v y) (fun d y => kp d _ y) fun d xs y => kp d _ y
/-- tuple(e.items()): a new tuple of new pairs -/
def rItemsT2 : V → Hp → VK → Prop := fun x H Q => ∃ (d : Addr) (kvs : List (Key × V)), x = .ref d ∧ H d = some (.dK kvs) ∧
  ∀ (H' : Hp) (p : Addr) (ts : List Addr), Same H H' → H p = none → (∀ t ∈ ts, H t = none) → (∀ b, b ∉ ts → H' b = H b) → H' p = none → Paired (fun (t : Addr) (q : Key × V) => H' t = some (.tup [kV q.1, q.2])) ts kvs → Q (.ref p) (upd H' p (.tup (ts.map V.ref)))
def tTupItems (te : TE) : TE := fun σ H Q => te σ H fun x H1 => rItemsT2 x H1 Q
theorem pe_tupItems {X : Cx} {e : Expr} {te : TE} {p apos cpos pos : Pos} (hc : X.calm = true) (he : PE X e te) (hg : Gl X "tuple") (hm : X.mg "tuple" = none) (hbase : attributeBase e "items" X.env (eval e X.env) = eval e X.env := by rfl) (hline : (apos.endLine == cpos.line) = true := by rfl)
    (hs : starEach [.Call (.Attribute e "items" apos) [] [] cpos] X.env = (false, eval (.Call (.Attribute e "items" apos) [] [] cpos) X.env) :: starEach [] X.env := by rfl) :
    PE X (.Call (.Name "tuple" p) [.Call (.Attribute e "items" apos) [] [] cpos] [] pos) (tTupItems te) := by
  refine ⟨fun pins s σ H Q I hq => ?_⟩
  refine wpAny_Call_Name_kw (ld_blt I hg hm boot_tuple ?_)
  refine PyProof.Rows.callWith_type1 ?_ hs rfl
  rw [hs]
  show wpAny _ _ (spliced ((false, eval (.Call (.Attribute e "items" apos) [] [] cpos) X.env) :: backTo pos (starEach [] X.env))) _ _ s
  refine Calls.spliced_cons ?_
  refine wpAny_Call_method (T := "dict") (id := "dict.items") hbase rfl hline F.plainAttrs_dict F.slot_dict_items F.type_dict_items (thn (he.run pins s σ H _ I hq) fun u s1 ⟨x, H1, I1, rx, d, kvs, ex, hd, q⟩ => ?_)
  subst ex
  obtain rfl : u = Value.ref d := rx
  obtain ⟨hz, hs0, vs, kv, hdo⟩ := I1.hok d _ hd
  obtain ⟨ep, hat⟩ := hdo.dictAt
  have lk : kvs.length = vs.length := Paired.length kv
  have I2 : Inv X pins σ H1 { s1 with heap := s1.heap.push { cls := .type "dict_items", data := .fields #[.ref d] } } := I1.kept (t' := s1.toks) fun b ob q => Heap.get?_push_of_some _ q
  refine ⟨hdo.typeIs, hdo.mapOf.noDict, ?_⟩
  show wpAny _ _ (callWith cpos (.builtin "dict.items") [.ref d] [] []) _ X.xe s1
  refine method_meetsIn F.slot_dict_items F.entry_dict_items rfl (PySem.evalArgs_none ⟨rfl, hdo.typeIs, F.args_dict_items_1 _, _, meets_dict_items (mixKind X.prog X.w) d hs0, ⟨vs, hdo⟩, ?_⟩)
  refine Calls.spliced_nil ?_
  refine call_tuple_items (knd := mixKind X.prog X.w) (kvs := vs) (ep := ep) (I1.ok.hd hc) ⟨_, Heap.get?_push_size _ rfl, rfl, rfl⟩ (hat.push _) (by omega) fun h' tk as hk hl hG => ?_
  obtain ⟨H', k1, k3, k4, k5, J⟩ := items_laid2 (tk := tk) I2 hz kv hk hl hG
  have hp : H1 h'.objs.size = none := by
    refine I1.hok.fresh ?_
    exact Nat.le_of_lt (Heap.lt_size (hk _ _ (Heap.get?_push_size s1.heap (o := { cls := .type "dict_items", data := .fields #[.ref d] }) rfl)))
  have hp' : H' h'.objs.size = none := J.hok.fresh (Nat.le_refl _)
  refine ⟨.ref h'.objs.size, upd H' h'.objs.size (.tup (as.map V.ref)), J.laid (t' := tk) (fun c o e => Heap.get?_push_of_some _ e) (Nat.le_refl _) (show ObjOk X.prog X.w _ _ _ (.tup (as.map V.ref)) from ⟨?_, as.map Value.ref, LiI.vals_refs as, IsTup.new _ _⟩), rfl, q H' _ as k1 hp k3 k4 hp' k5⟩
  rw [List.length_map]
  omega
end ZT

/-! ### defs with a default -/
namespace FD
open PySem PySem.Spec L2 PyProof.Rows
def Dfn (K : PySem.W.Frag) (x q : Str) (st : Stmt) (ps : List Str) (dvs : List V) (f : Addr) : Prop := ∃ fd, FunD K x q (defArgs st) (defBody st) (defScope st) dvs [] f fd ∧ Binds K fd ps [] ∧ ∃ ds, Vals dvs ds ∧ Binds K fd ps ds
theorem Dfn.kp {K : PySem.W.Frag} {x q : Str} {st : Stmt} {ps : List Str} {dvs : List V} {f : Addr} (d : Dfn K x q st ps dvs f) : PySem.W.keepIn K (.ref f) = true := let ⟨_, F, _⟩ := d; F.kp
section
variable {P : Program} {w : World} {K : PySem.W.Frag} {mg : Str → Option Value} {base : Heap} {x qual : Str} {params : Arguments} {body : List Stmt} {scope : Scope} {dvs : List V} {kws : List (Str × V)} {f : Addr} {fd : FuncData}
theorem ok0 {N ps : List Str} {k : Nat} {sp : Sp} (F : FunD K x qual params body scope dvs kws f fd) (S : FnScope N ps scope) (len : ∀ vs H Q E, sp vs H Q E → vs.length = ps.length)
    (hbody : ∀ (cdv : Value) (A : Around) (outer : List Env) (s : Shared) (H : Hp) (vs : List V) (Q : VK) (E : XK), Room k (A.deeper (envOfC qual scope s.heap.objs.size f cdv)) → sp vs H Q E →
      ∃ t, PSs (cxOf CX0 P w K mg base N qual scope f cdv A outer s H E).nox body t ∧ t { nx := fun _ H' => Q .non H', rt := Q } (start N vs) H) : FnOk P w K mg base CX0 (k + 1) f fd ps sp :=
  F.ok S len fun cdv A outer s H vs Q E hr hsp => let ⟨t, h, q⟩ := hbody cdv A outer s H vs Q E hr hsp; ⟨t, h.nox, q⟩
theorem okX {CX : CXT} {N ps : List Str} {k : Nat} {sp : Sp} (F : FunD K x qual params body scope dvs kws f fd) (S : FnScope N ps scope) (len : ∀ vs H Q E, sp vs H Q E → vs.length = ps.length)
    (hbody : ∀ (cdv : Value) (A : Around) (outer : List Env) (s : Shared) (H : Hp) (vs : List V) (Q : VK) (E : XK), Room k (A.deeper (envOfC qual scope s.heap.objs.size f cdv)) → sp vs H Q E →
      ∃ t, PSs (cxOf CX P w K mg base N qual scope f cdv A outer s H E) body t ∧ t { nx := fun _ H' => Q .non H', rt := Q } (start N vs) H) : FnOk P w K mg base CX (k + 1) f fd ps sp := F.ok S len hbody
theorem mk {st : Stmt} {q : Str} {T : Addr} {oc oc2 : Value} {od od2 an : Option Addr} {osl osl2 : Array (Option Value)} {kV doc pm cdv ct : Value} {m : Nat} {ps : List Str} (l : K.lookup f = some ⟨oc, od, .func (PySem.W.fnOf x q (defArgs st) (defBody st) (defScope st) (.ref T) kV doc pm an cdv ct), osl⟩)
    (c : PySem.W.codeIn K cdv q = true) (k : PySem.W.keepIn K (.ref f) = true) (lD : K.lookup T = some ⟨oc2, od2, .seq #[.none] m, osl2⟩)
    (h1 : ∀ (T : Addr) (kV doc pm : Value) (an : Option Addr) (cdv ct : Value) (us its : List Value), us.length = ps.length → its.length = 1 →
      ∃ k, bindArgs (PySem.W.fnOf x q (defArgs st) (defBody st) (defScope st) (.ref T) kV doc pm an cdv ct) ⟨us, []⟩ = seqItems? (.ref T) >>= k ∧ k (some its.toArray) = pure (ps.zip (us ++ its.drop 1)))
    (h2 : ∀ (T : Addr) (kV doc pm : Value) (an : Option Addr) (cdv ct : Value) (us its : List Value), us.length = ps.length - 1 → its.length = 1 →
      ∃ k, bindArgs (PySem.W.fnOf x q (defArgs st) (defBody st) (defScope st) (.ref T) kV doc pm an cdv ct) ⟨us, []⟩ = seqItems? (.ref T) >>= k ∧ k (some its.toArray) = pure (ps.zip (us ++ its.drop 0)))
    (hp : 0 < ps.length := by decide) : Dfn K x q st ps [.non] f := by
  have F : FunD K x q (defArgs st) (defBody st) (defScope st) [.non] [] f _ := ⟨⟨oc, od, .ref T, kV, doc, pm, an, cdv, ct, osl, rfl, l, c, .inr ⟨by simp, T, _, [.none], m, rfl, lD, rfl, .cons rfl .nil⟩, .inl rfl⟩, k⟩
  obtain ⟨ds, v, b⟩ := F.binds1 (ps := ps) ps.length 1 (by simp) (by simp) h1
  cases v
  exact ⟨_, F, b, F.binds1 (ps := ps) (ps.length - 1) 0 (by simp) (by simp; omega) h2⟩
end
end FD

/-! ### data, dicts among it -/
namespace Z
open PySem PySem.Spec L2 PyProof.Rows
mutual
inductive DX (K : PySem.W.Frag) (H : Hp) : V → PyData → Prop
  | non : DX K H .non .none
  | bl (b : Bool) : DX K H (.bl b) (.bool b)
  | int (i : Int) : DX K H (.int i) (.int i)
  | str (x : Str) : DX K H (.str x) (.str x)
  | lst {a : Addr} {xs : List V} {ds : List PyData} : SqL K H a xs → DXs K H xs ds → DX K H (.ref a) (.list ds)
  | tup {a : Addr} {xs : List V} {ds : List PyData} : SqT K H a xs → DXs K H xs ds → DX K H (.ref a) (.tuple ds)
  | dic {a : Addr} {kv : List (Key × V)} : H a = some (.dK kv) → DX K H (.ref a) (.dict [])
inductive DXs (K : PySem.W.Frag) (H : Hp) : List V → List PyData → Prop
  | nil : DXs K H [] []
  | cons {v : V} {vs : List V} {d : PyData} {ds : List PyData} : DX K H v d → DXs K H vs ds → DXs K H (v :: vs) (d :: ds)
end
section
variable {K : PySem.W.Frag} {F H H' H0 F0 : Hp} {v w : V} {d : PyData} {vs ws : List V} {ds es : List PyData} {L : List (Addr × HO)} {Q : VK} {σ : L2.St}
theorem dx_same (e : Same H H') (h : DX K H v d) : DX K H' v d :=
  DX.rec (motive_1 := fun v d _ => DX K H' v d) (motive_2 := fun vs ds _ => DXs K H' vs ds) .non .bl .int .str (fun h _ k => .lst (e.seq h) k) (fun h _ k => .tup (seqT e h) k) (fun h => .dic (e _ _ h)) .nil (fun _ _ a b => .cons a b) h
theorem dxs_same (e : Same H H') (h : DXs K H vs ds) : DXs K H' vs ds :=
  DXs.rec (motive_1 := fun v d _ => DX K H' v d) (motive_2 := fun vs ds _ => DXs K H' vs ds) .non .bl .int .str (fun h _ k => .lst (e.seq h) k) (fun h _ k => .tup (seqT e h) k) (fun h => .dic (e _ _ h)) .nil (fun _ _ a b => .cons a b) h
theorem dx_of (h : Dp K H v d) : DX K H v d :=
  Dp.rec (motive_1 := fun v d _ => DX K H v d) (motive_2 := fun vs ds _ => DXs K H vs ds) .non .bl .int .str (fun h _ k => .lst h k) (fun h _ k => .tup h k) .nil (fun _ _ a b => .cons a b) h
theorem dxs_of (h : DpAll K H vs ds) : DXs K H vs ds :=
  DpAll.rec (motive_1 := fun v d _ => DX K H v d) (motive_2 := fun vs ds _ => DXs K H vs ds) .non .bl .int .str (fun h _ k => .lst h k) (fun h _ k => .tup h k) .nil (fun _ _ a b => .cons a b) h
theorem dx_int {i : Int} (h : DX K H v (.int i)) : v = .int i := by cases h; rfl
theorem dx_str {z : Str} (h : DX K H v (.str z)) : v = .str z := by cases h; rfl
theorem dx_bool {b : Bool} (h : DX K H v (.bool b)) : v = .bl b := by cases h; rfl
theorem dx_none (h : DX K H v .none) : v = .non := by cases h; rfl
theorem dx_tup (h : DX K H v (.tuple ds)) : ∃ a vs, v = .ref a ∧ SqT K H a vs ∧ DXs K H vs ds := by
  cases h with
  | tup h1 h2 => exact ⟨_, _, rfl, h1, h2⟩
theorem dx_lst (h : DX K H v (.list ds)) : ∃ a vs, v = .ref a ∧ SqL K H a vs ∧ DXs K H vs ds := by
  cases h with
  | lst h1 h2 => exact ⟨_, _, rfl, h1, h2⟩
theorem dxs_len : ∀ {vs : List V} {ds : List PyData}, DXs K H vs ds → vs.length = ds.length
  | _, _, .nil => rfl
  | _, _, .cons _ r => by rw [List.length_cons, List.length_cons, dxs_len r]
theorem dxs_get : ∀ {vs : List V} {ds : List PyData} {i : Nat} {d : PyData}, DXs K H vs ds → ds[i]? = some d → ∃ v, vs[i]? = some v ∧ DX K H v d
  | _, _, i, _, .nil, e => by simp at e
  | _, _, 0, _, .cons h _, e => by cases e; exact ⟨_, rfl, h⟩
  | _, _, i + 1, _, .cons _ r, e => by
    obtain ⟨v, e1, e2⟩ := dxs_get (i := i) r (by simpa using e)
    exact ⟨v, by simpa using e1, e2⟩
theorem dxs_ix : ∀ {vs : List V} {ds : List PyData} {i : Nat} {v : V}, DXs K H vs ds → vs[i]? = some v → ∃ d, ds[i]? = some d ∧ DX K H v d
  | _, _, i, _, .nil, e => by simp at e
  | _, _, 0, _, .cons h _, e => by cases e; exact ⟨_, rfl, h⟩
  | _, _, i + 1, _, .cons _ r, e => by
    obtain ⟨v, e1, e2⟩ := dxs_ix (i := i) r (by simpa using e)
    exact ⟨v, by simpa using e1, e2⟩
theorem dxs_app : ∀ {vs ws : List V} {ds es : List PyData}, DXs K H vs ds → DXs K H ws es → DXs K H (vs ++ ws) (ds ++ es)
  | _, _, _, _, .nil, k => k
  | _, _, _, _, .cons h r, k => .cons h (dxs_app r k)
theorem dxs_drop : ∀ {vs : List V} {ds : List PyData} (n : Nat), DXs K H vs ds → DXs K H (vs.drop n) (ds.drop n)
  | _, _, 0, h => h
  | _, _, _ + 1, .nil => .nil
  | _, _, n + 1, .cons _ r => dxs_drop n r
theorem dxs_take : ∀ {vs : List V} {ds : List PyData} (n : Nat), DXs K H vs ds → DXs K H (vs.take n) (ds.take n)
  | _, _, 0, _ => .nil
  | _, _, _ + 1, .nil => .nil
  | _, _, n + 1, .cons h r => .cons h (dxs_take n r)
theorem dxs_cut {lo hi : Option Int} (h : DXs K H vs ds) : DXs K H (cutV vs lo hi) (cutD ds lo hi) := by
  unfold cutV cutD
  rw [dxs_len h]
  exact dxs_take _ (dxs_drop _ h)
/-- no dict within -/
def plain : PyData → Bool
  | .dict _ => false
  | _ => true
theorem ty_dx (h : DX K H v d) : TyX K H v (.type (tyN d)) := by
  cases h with
  | non => exact .base .non
  | bl b => exact .base (.bl b)
  | int i => exact .base (.int i)
  | str z => exact .base (.str z)
  | lst h _ =>
    rcases h with (h | ⟨o, h⟩) | ⟨o, its, n, h, hc, _⟩
    · exact .base (.lst h)
    · exact .base (.frz h)
    · exact .kList h hc
  | tup h _ =>
    rcases h with (h | ⟨o, h⟩) | ⟨o, its, n, h, hc, _⟩
    · exact .base (.tup h)
    · exact .fTuple h
    · exact .kTuple h hc
  | dic h => exact .base (.dK h)
theorem isiX {T : String} (h : DX K F v d) (s : Same F H) (hT : T ∈ ["str", "int", "bool", "list", "tuple"]) (k : Q (.bl (isTy T d)) H) : rIsi K [v, .ty T] H Q := ⟨v, .ty T, _, .type T, _, rfl, .ty T, ty_dx (dx_same s h), kitD hT, k⟩
theorem isiSeqX {p : Addr} (h : DX K F v d) (s : Same F H) (hp : H p = some (.tup [.ty "list", .ty "tuple"])) (k : Q (.bl (isTy "list" d || isTy "tuple" d)) H) : rIsiT K [v, .ref p] H Q :=
  ⟨v, p, _, _, _, _, rfl, hp, .cons (.ty "list") (.cons (.ty "tuple") .nil), ty_dx (dx_same s h), kitSeq, k⟩
theorem ixTX (h : DX K F v (.tuple ds)) (s : Same F H) (i : Nat) (e : ds[i]? = some d) (k : ∀ w, DX K F w d → Q w H) : rIxT K v (.int (i : Int)) H Q := by
  obtain ⟨a, vs, rfl, h1, h2⟩ := dx_tup h
  obtain ⟨w, e1, e2⟩ := dxs_get h2 e
  exact ⟨a, vs, i, w, rfl, rfl, seqT s h1, atI_nat e1, k w e2⟩
theorem dxs2 {d1 d2 : PyData} (h : DXs K F vs [d1, d2]) : ∃ v1 v2, vs = [v1, v2] ∧ DX K F v1 d1 ∧ DX K F v2 d2 := by
  cases h with
  | cons h1 h2 =>
    cases h2 with
    | cons h2 h3 =>
      cases h3
      exact ⟨_, _, rfl, h1, h2⟩
theorem gtupX {n : Nat} {t : TGs} {R : L2.St → Hp → Prop} (h : DX K F v (.tuple ds)) (s : Same F H) (k : ∀ vs, DXs K F vs ds → t vs σ H R) (hn : ds.length = n := by rfl) : gTup K n t v σ H R := by
  obtain ⟨a, vs, rfl, h1, h2⟩ := dx_tup h
  exact ⟨a, vs, rfl, seqT s h1, (dxs_len h2).trans hn, k vs h2⟩
/-- a piece of data made, dicts among it -/
theorem lstX (W : Ws L F0 H0 F H) (hd : DXs K F vs ds) (k : ∀ v F' H', Ws L F0 H0 F' H' → Same F F' → DX K F' v (.list ds) → Q v H') (hz : vs.length ≤ 100000 := by first | decide | (simp only [List.length_cons, List.length_nil]; decide)) : rLst vs H Q :=
  ⟨Nat.le_trans hz (by decide), fun p hp => k _ _ _ (W.dat hp) (same_new (W.freeF hp)) (.lst (SqL.of upd_same) (dxs_same (same_new (W.freeF hp)) hd))⟩
theorem tupX (W : Ws L F0 H0 F H) (hd : DXs K F vs ds) (k : ∀ v F' H', Ws L F0 H0 F' H' → Same F F' → DX K F' v (.tuple ds) → Q v H') (hz : vs.length ≤ 100000 := by first | decide | (simp only [List.length_cons, List.length_nil]; decide)) : rTup vs H Q :=
  ⟨Nat.le_trans hz (by decide), fun p hp => k _ _ _ (W.dat hp) (same_new (W.freeF hp)) (.tup (SqT.of upd_same) (dxs_same (same_new (W.freeF hp)) hd))⟩
theorem dicX (W : Ws L F0 H0 F H) (k : ∀ v F' H', Ws L F0 H0 F' H' → Same F F' → DX K F' v (.dict []) → Q v H') : ∀ p, H p = none → Q (.ref p) (upd H p (.dK [])) :=
  fun p hp => k _ _ _ (W.dat hp) (same_new (W.freeF hp)) (.dic upd_same)
/-- a slice, a sum of lists: own cells -/
theorem slW {lo hi : Option Int} {a : Addr} {xs : List V} (W : Ws L F0 H0 F H) (h : SqL K H a xs) (k : ∀ p H', Ws ((p, .lst (cutV xs lo hi)) :: L) F0 H0 F H' → Q (.ref p) H') : rSlL K (.ref a) lo hi H Q := ⟨a, xs, rfl, h, fun p hp => k p _ (W.new hp)⟩
theorem catW {a b : Addr} {xs ys : List V} (W : Ws L F0 H0 F H) (h1 : H a = some (.lst xs)) (h2 : H b = some (.lst ys)) (hz : xs.length + ys.length ≤ 100000) (k : ∀ p H', Ws ((p, .lst (xs ++ ys)) :: L) F0 H0 F H' → Q (.ref p) H') : rCat (.ref a) (.ref b) H Q :=
  ⟨a, b, xs, ys, rfl, rfl, h1, h2, Nat.le_trans hz (by decide), fun p hp => k p _ (W.new hp)⟩
end
end Z
/-! ### C(..) that may raise, within a try -/
namespace ZX
open PySem PySem.Spec L2 PyProof.Rows
section
variable {X : Cx} {CX : CXT} {k : Nat} {f C : Addr} {fd : FuncData} {ps : List Str} {sp : Sp} {dvs : List V} {ds : List Value} {E : L2.St → XK} {x : Str} {p pos : Pos} {e : Expr} {es : List Expr} {t : TA}
def tMakeX (C : Addr) (sp : Sp) (dvs : List V) (E : L2.St → XK) (t : TA) : TE := fun σ H Q => t σ H fun vs H1 => ∀ x dx, H1 x = none → H1 dx = none → dx ≠ x →
  sp (.ref x :: (vs ++ dvs)) (upd (upd H1 dx (.own x)) x (.ins C dx [])) (fun v H2 => v = .non ∧ Q (.ref x) H2) (E σ)
theorem pe_makeX (M : Mk X.K C f) (F : FnOk X.prog X.w X.K X.mg X.base CX k f fd ps sp) (hr : Room (k + 1) X.A) (hg : Gl X x) (hm : X.mg x = some (.ref C)) (hb : Binds X.K fd ps ds) (hd : Vals dvs ds) (hx : ∀ σ, PassesAt CX X σ (E σ)) (ha : PA X (e :: es) t)
    (hdb : (x == ("__debug__" : Str)) = false := by decide) (he : starEach (e :: es) X.env = (false, eval e X.env) :: starEach es X.env := by rfl) (hpl : (backTo pos (starEach es X.env)).any (·.1) = false := by rfl) :
    PE X (.Call (.Name x p) (e :: es) [] pos) (tMakeX C sp dvs E t) := by
  refine ⟨fun pins s σ H Q I h => wpAny_Call_Name_kw (ld_glob I hg hm ?_ hdb)⟩
  refine PySem.W.callWith_K (h₀ := X.base) I.ok.mod.kin M.kp (thn (ha.run pos pins s σ H _ I h) fun us s1 ⟨vs, H1, J, rv, q⟩ => ⟨J.kIn, ?_⟩) he hpl
  have hx1 := J.hok.fresh (Nat.le_succ s1.heap.objs.size)
  have hx0 := J.hok.fresh (Nat.le_refl s1.heap.objs.size)
  have want := q _ _ hx1 hx0 (Nat.ne_of_lt (Nat.lt_succ_self _))
  have J2 := Inv.made (C := C) J
  have args : Vals (V.ref (s1.heap.objs.size + 1) :: (vs ++ dvs)) (Value.ref (s1.heap.objs.size + 1) :: (us ++ ds)) := .cons rfl (rv.append hd)
  have many : (Value.ref (s1.heap.objs.size + 1) :: us ++ ds).length = ps.length := (args.length.symm).trans (F.len _ _ _ _ want)
  have bound := hb _ (Value.ref (s1.heap.objs.size + 1) :: us) J2.kIn many
  have ran := F.run _ X.stack _ _ _ _ _ _ (E σ) (hr.make C us []) (J2.env0.make C us []) bound args want
  refine wpAny_call (make_map (f := f) J.kIn M.makes M.init (beq_iff_eq.mp M.fn) (codeAny_mono ran fun r s' got => ?_))
  match r, got with
  | .error er, got => exact hx σ pins _ _ er s' J2 got
  | .ok (.ret u), got =>
    obtain ⟨v, H', J3, r3, rfl, q3⟩ := J2.after got
    exact ⟨r3, ⟨V.ref (s1.heap.objs.size + 1), H', J3, rfl, q3⟩⟩
variable {σ : L2.St} {H : Hp} {Q : VK}
theorem makeX (h : t σ H fun vs H1 => ∀ x dx, H1 x = none → H1 dx = none → dx ≠ x → sp (.ref x :: (vs ++ dvs)) (upd (upd H1 dx (.own x)) x (.ins C dx [])) (fun v H2 => v = .non ∧ Q (.ref x) H2) (E σ)) : tMakeX C sp dvs E t σ H Q := h
end
end ZX

/-! ### own exceptions with an own __init__ -/
namespace Z
open PySem PySem.Spec L2 PyProof.Rows
/-- the record of an own exception class over ValueError -/
def oexB (K : PySem.W.Frag) (C : Addr) : Bool := match K.lookup C with
  | some ⟨.type "type", _, .cls cd, sl⟩ => (match cd.mro, sl.toList with
    | .ref C' :: bm, [_, _, _, _, some (.builtin n), _] => C' == C && n == "ValueError.__new__" && !cd.hasDel && cd.hasDict && PySem.HandSPX.refsVE bm
    | _, _ => false)
  | _ => false
theorem oexC_of {K : PySem.W.Frag} {C : Addr} (q : oexB K C = true) (sa : PySem.W.findIn K (.ref C) "__setattr__" = some (some (.builtin "object.__setattr__"))) (exC : PySem.W.subIn K (.ref C) (.type "BaseException") = some true)
    (tyC : PySem.W.typeIn K (.ref C) = some (.type "type")) (kC : PySem.W.keepIn K (.ref C) = true) : OexC K C := by
  refine ⟨?_, sa, exC, tyC, kC⟩
  unfold oexB at q
  split at q
  · rename_i dd cd sl ho
    split at q
    · rename_i C' bm k0 k1 k2 k3 n k5 hm hs
      simp only [Bool.and_eq_true, beq_iff_eq, Bool.not_eq_true'] at q
      obtain ⟨⟨⟨⟨rfl, rfl⟩, hdel⟩, hdd⟩, hr⟩ := q
      obtain ⟨nm, bs, mro, ns, qn, hd, sn, sub, ab, col, del⟩ := cd
      dsimp only at hm hdel hdd
      subst hm hdel hdd
      have hsl : sl = #[k0, k1, k2, k3, some (.builtin "ValueError.__new__"), k5] := by
        obtain ⟨l⟩ := sl
        simp only at hs
        rw [hs]
      subst hsl
      exact ⟨nm, qn, ns, bs, bm, sn, sub, ab, col, dd, k0, k1, k2, k3, k5, ho, hr⟩
    · cases q
  · cases q
section
variable {X : Cx} {o e : Expr} {es : List Expr} {to te : TE} {ta : TA} {f : Str} {p p' p1 p2 pos : Pos}
/-- B.__init__(self, ..), B an own class over ValueError without own __init__ -/
theorem pe_oeinit {B : Addr} {x : Str} {pl : Sem Bool} (hg : Gl X x) (hm : X.mg x = some (.ref B)) (rd : PySem.W.readsIn X.K B (.type "type") = true) (ga : PySem.W.specialIn X.K (.ref B) "__getattribute__" = some (some (.builtin "type.__getattribute__")))
    (vV : PySem.W.findCls X.K (.ref B) (.type "type") "__init__" = some (.val (.builtin "ValueError.__init__"))) (ha : PA X (e :: es) ta)
    (hc : eval (.Call (.Attribute (.Name x p1) "__init__" p2) (e :: es) [] pos) X.env = (do
      let ov ← eval (.Name x p1) X.env
      standAt p2.atName
      let (f, first) ← holding [ov] (getMethod ov "__init__" pl)
      callWith pos f first (backTo pos (starEach (e :: es) X.env)) (backToKw pos (keywordEach [] X.env))) := by rfl)
    (he : starEach (e :: es) X.env = (false, eval e X.env) :: starEach es X.env := by rfl) (hpl : (backTo pos (starEach es X.env)).any (·.1) = false := by rfl) (hdb : (x == ("__debug__" : Str)) = false := by decide) :
    PE X (.Call (.Attribute (.Name x p1) "__init__" p2) (e :: es) [] pos) (tVeI X.K ta) := by
  refine ⟨fun pins s σ H Q I h => ?_⟩
  refine PySem.W.methodCall_KW (ld_glob I hg hm ?_ hdb) hc
  refine PySem.W.method_cls I.kIn ga (PySem.W.cls_value I.kIn rd vV (by decide +kernel) ?_)
  show wpAny _ _ (callWith pos (Value.builtin "ValueError.__init__") [] (backTo pos (starEach (e :: es) X.env)) []) _ _ _
  refine PyProof.Rows.callWith_method1 (thn (ha.run pos pins _ σ H _ (I.tok _) h) fun us s1 ⟨vs, H1, I1, r1, a, C, ws, ev, hl, T, ea, q⟩ => ?_) he hpl
  subst ev
  cases r1 with
  | @cons _ u0 _ ur ra rw' =>
    obtain rfl : u0 = Value.ref a := ra
    have hlen : ur.length ≤ sizeLine := by
      rw [← Paired.length rw', sizeLine_eq]
      omega
    exact oinit_ok T I1 ea hlen fun s' J => ⟨.non, H1, J, rfl, q⟩
end
/-- the promise of an exception's own __init__: the fields fs, in the order of the arguments -/
def spX (K : PySem.W.Frag) (C : Addr) (fs : List Str) : Sp := fun vs H Q _ => ∃ (a : Addr) (ws : List V), vs = .ref a :: ws ∧ ws.length = fs.length ∧ H a = some (exo a C none) ∧
  ∀ d H', H d = none → d ≠ a → H' a = some (exo a C (some d)) → H' d = some (exd d (fs.zip ws).reverse) → (∀ b, b ≠ a → b ≠ d → H' b = H b) → Q .non H'
section
variable {σ : L2.St} {H : Hp} {C : Addr} {ta : TA} {te to : TE} {f : Str} {K : PySem.W.Frag} {Q : XK} {R : VK}
theorem veI (h : ta σ H fun vs H1 => ∃ (a C : Addr) (ws : List V), vs = .ref a :: ws ∧ ws.length ≤ 1000 ∧ OexC K C ∧ H1 a = some (exo a C none) ∧ R .non H1) : tVeI K ta σ H R := h
theorem ost {D : Ends} (h : te σ H fun y H1 => to σ H1 fun x H2 => ∃ a C : Addr, x = .ref a ∧ OexC K C ∧ PySem.W.findIn K (.ref C) f = some none ∧
  ((H2 a = some (exo a C none) ∧ ∀ dx, H2 dx = none → dx ≠ a → D.nx σ (upd (upd H2 dx (exd dx [(f, y)])) a (exo a C (some dx)))) ∨
    ∃ (dx : Addr) (fs : List (Str × V)), H2 a = some (exo a C (some dx)) ∧ H2 dx = some (exd dx fs) ∧ fs.length ≤ 900 ∧ D.nx σ (upd H2 dx (exd dx ((f, y) :: fs))))) : tOst K f to te D σ H := h
theorem tmkO {sp : Sp} {dvs : List V} (h : ta σ H fun vs H1 => vs.length ≤ 1000 ∧ ∀ a, H1 a = none → sp (.ref a :: (vs ++ dvs)) (upd H1 a (exo a C none))
  (fun v H2 => v = .non ∧ ∃ (d : Addr) (fs : List (Str × V)), H2 a = some (exo a C (some d)) ∧ H2 d = some (exd d fs) ∧ H1 d = none ∧ Q (.ref C) (some d) (upd (del H2 a) d (.xd fs))) (fun _ _ _ => False)) : tMkO C sp dvs ta σ H Q := h
/-- C(ws) raised -/
theorem raiseX {fs : List Str} {ws : List V} {E : XK} (hl : ws.length = fs.length := by rfl) (hz : fs.length ≤ 100 := by decide) (h : ∀ d, H d = none → Q (.ref C) (some d) (upd H d (.xd (fs.zip ws).reverse))) :
    ws.length ≤ 1000 ∧ ∀ a, H a = none → spX K C fs (.ref a :: (ws ++ [])) (upd H a (exo a C none))
      (fun v H2 => v = .non ∧ ∃ (d : Addr) (fs : List (Str × V)), H2 a = some (exo a C (some d)) ∧ H2 d = some (exd d fs) ∧ H d = none ∧ Q (.ref C) (some d) (upd (del H2 a) d (.xd fs))) E := by
  refine ⟨by omega, fun a ha => ⟨a, ws, by rw [List.append_nil], hl, upd_same, fun d H' hd hne h1 h2 h3 => ⟨rfl, d, _, h1, h2, ?_, ?_⟩⟩⟩
  · rwa [upd_ne hne] at hd
  · rw [upd_ne hne] at hd
    have e : upd (del H' a) d (.xd (fs.zip ws).reverse) = upd H d (.xd (fs.zip ws).reverse) := by
      funext b
      by_cases hb : b = d
      · rw [hb, upd_same, upd_same]
      · rw [upd_ne hb, upd_ne hb]
        by_cases hba : b = a
        · rw [hba, del_same, ha]
        · rw [del_ne hba, h3 b hba hb, upd_ne hba]
    rw [e]
    exact h d hd
end
/-! ### isinstance of a caught exception, with or without a dict; its fields -/
/-- the dict of a caught exception stands -/
def Dx (H : Hp) : Option Addr → Prop
  | none => True
  | some dd => ∃ fs, H dd = some (.xd fs)
theorem dx_inst {P : Program} {w : World} {H : Hp} {h : Heap} {a D : Addr} {d : Option Addr} {oe : Obj} (hok : HOk P w H h) (hget : h.get? a = some oe) (hz : Zc (.ref D) d oe) (hf : ∃ vs, oe.data = .fields vs) (hd : Dx H d) : ∃ od, PySem.W.InstAt h a oe D od := by
  obtain ⟨vs, hv⟩ := hf
  cases d with
  | none =>
    refine ⟨none, hget, hz.1, by unfold PySem.W.notCls; rw [hv] <;> rfl, ?_⟩
    rw [hz.2]
    exact True.intro
  | some dd =>
    obtain ⟨fs, hfs⟩ := hd
    have hx : ObjOk P w H h dd (.xd fs) := hok dd _ hfs
    obtain ⟨mA, ⟨od, _, _, ho, _⟩, _⟩ := hx
    exact ⟨some od, hget, hz.1, by unfold PySem.W.notCls; rw [hv] <;> rfl, by rw [hz.2]; exact ho⟩
def rIsH (K : PySem.W.Frag) (cls : Value) (d : Option Addr) (a : Addr) : List V → Hp → VK → Prop := fun xs H Q => ∃ (D : Addr) (c : V) (cv : Value) (b : Bool), cls = .ref D ∧ Dx H d ∧ ExcC K D ∧ xs = [.ref a, c] ∧ ClsV c cv ∧ PySem.W.kitOne K (.ref D) cv = some b ∧ Q (.bl b) H
theorem isCls_some {K : PySem.W.Frag} {C : Addr} (h : PySem.W.hasDictIn K C = true) : (PySem.W.clsIn K C).isSome = true := by
  obtain ⟨cd, hc, _⟩ := PySem.W.any_some h
  rw [hc]
  rfl
theorem call_isH {X : Cx} {a : Addr} {cls : Value} {d : Option Addr} {oe : Obj} {pn : List (Addr × Obj)} (hz : Zc cls d oe) (hf : ∃ vs, oe.data = .fields vs) : CallR (X.suite a ((a, oe) :: pn)) (.builtin "isinstance") (rIsH X.K cls d a) := by
  intro pins s σ H xs us Q I r h
  obtain ⟨D, c, cv, b, rfl, hd, C, rfl, hc, e, q⟩ := h
  cases r with
  | cons rx rr =>
    cases rr with
    | cons rt rr =>
      cases rr
      cases rx
      have ec := hc.eq rt
      subst ec
      obtain ⟨hget, _⟩ := I.pin (a, oe) (List.mem_append.mpr (.inl List.mem_cons_self))
      obtain ⟨od, J⟩ := dx_inst I.hok hget hz hf hd
      exact PySem.W.kia_one (PySem.W.kitx_exc (isCls_some C.hd) C.hg C.hk C.hs C.ha C.hn C.ht C.hm) I.kIn J e (fun z => nomatch z) fun tk => ⟨.bl b, H, I.kept (t' := tk) fun _ _ z => z, rfl, q⟩
def rIsHT (K : PySem.W.Frag) (cls : Value) (d : Option Addr) (a : Addr) : List V → Hp → VK → Prop := fun xs H Q => ∃ (D tp : Addr) (cs : List V) (ws : List Value) (b : Bool), cls = .ref D ∧ Dx H d ∧ ExcC K D ∧ xs = [.ref a, .ref tp] ∧ H tp = some (.tup cs) ∧ Paired ClsV cs ws ∧
  PySem.W.kitAny K (.ref D) ws = some b ∧ Q (.bl b) H
theorem call_isHT {X : Cx} {a : Addr} {cls : Value} {d : Option Addr} {oe : Obj} {pn : List (Addr × Obj)} (hz : Zc cls d oe) (hf : ∃ vs, oe.data = .fields vs) : CallR (X.suite a ((a, oe) :: pn)) (.builtin "isinstance") (rIsHT X.K cls d a) := by
  intro pins s σ H xs us Q I r h
  obtain ⟨D, tp, cs, ws, b, rfl, hd, C, rfl, hT, k, e, q⟩ := h
  obtain ⟨u1, u2, rfl, r1, r2⟩ := vals2 r
  cases (show u1 = Value.ref a from r1)
  cases (show u2 = Value.ref tp from r2)
  obtain ⟨hget, _⟩ := I.pin (a, oe) (List.mem_append.mpr (.inl List.mem_cons_self))
  obtain ⟨od', J⟩ := dx_inst I.hok hget hz hf hd
  obtain ⟨_, its, rv, o, h1, h2, n, h3⟩ := (show ObjOk _ _ H s.heap tp (.tup cs) from I.hok tp _ hT)
  have e3 := ClsV.all k rv
  subst e3
  obtain ⟨oc, od, dt, sl⟩ := o
  simp only at h2 h3
  subst h2 h3
  exact PySem.W.kia_tup (PySem.W.kitx_exc (isCls_some C.hd) C.hg C.hk C.hs C.ha C.hn C.ht C.hm) I.kIn J h1 e (fun z => nomatch z) fun tk => ⟨.bl b, H, I.kept (t' := tk) fun _ _ z => z, rfl, q⟩
section
variable {σ : L2.St} {H : Hp} {a C : Addr} {cls : Value} {d : Option Addr} {f : Str} {te : TE} {Q : VK}
theorem xf (h : te σ H fun x H1 => x = .ref a ∧ cls = .ref C ∧ ∃ (dd : Addr) (fs : List (Str × V)) (v : V), d = some dd ∧ H1 dd = some (.xd fs) ∧ fs.lookup f = some v ∧ Q v H1) : tXf a cls d C f te σ H Q := h
end
end Z
local macro_rules | `(tactic| walk_at "z1") => `(tactic| first | (with_reducible refine Z.veI ?_) | (with_reducible refine Z.ost ?_) | (with_reducible refine Z.tmkO ?_) | (with_reducible refine Z.xf ?_))

/-! ### several except clauses, with names -/
namespace Z
open PySem PySem.Spec L2 PyProof.Rows
def endsAs (D : Ends) : Option Nat → Ends
  | none => D
  | some i => { nx := fun σ' H' => D.nx (σ'.set i none) H', rt := D.rt, bk := fun σ' H' => D.bk (σ'.set i none) H', ct := fun σ' H' => D.ct (σ'.set i none) H' }
def slotAs (σ : L2.St) (a : Addr) : Option Nat → L2.St
  | none => σ
  | some i => σ.set i (some (.ref a))
/-- what the clauses wish of an exception of the body, one after the other -/
def wMA (K : PySem.W.Frag) (Wout : WX) (D : Ends) : List (Value × Option Nat × (Addr → Value → Option Addr → TS)) → WX
  | [] => Wout
  | (c, i, ts) :: r => fun cls d σ H => ∃ b, PySem.W.exmOne K cls c = some b ∧ (b = true → ∀ a, H a = none → ts a cls d (endsAs D i) (slotAs σ a i) H) ∧ (b = false → wMA K Wout D r cls d σ H)
inductive HdsA (X : Cx) : List ExceptHandler → List (Value × Option Nat × (Addr → Value → Option Addr → TS)) → Prop
  | nil : HdsA X [] []
  | cons {x : Str} {c : Value} {ts : Addr → Value → Option Addr → TS} {b₀ : Stmt} {suite : List Stmt} {np pos' : Pos} {hds : List ExceptHandler} {l : List (Value × Option Nat × (Addr → Value → Option Addr → TS))} (hc : Names X x c)
      (hsu : ∀ (a : Addr) (oe : Obj) (cls : Value) (d : Option Addr) (pn : List (Addr × Obj)), Zc cls d oe → (∃ vs, oe.data = .fields vs) → PSs (X.suite a ((a, oe) :: pn)) (b₀ :: suite) (ts a cls d)) (r : HdsA X hds l) :
      HdsA X (.ExceptHandler (some (.Name x np)) none (b₀ :: suite) pos' :: hds) ((c, none, ts) :: l)
  | as {x n : Str} {i : Nat} {c : Value} {ts : Addr → Value → Option Addr → TS} {b₀ : Stmt} {suite : List Stmt} {np pos' : Pos} {hds : List ExceptHandler} {l : List (Value × Option Nat × (Addr → Value → Option Addr → TS))} (hi : X.N[i]? = some n) (hln : X.env.kindOf n = some .local) (hc : Names X x c)
      (hsu : ∀ (a : Addr) (oe : Obj) (cls : Value) (d : Option Addr) (pn : List (Addr × Obj)), Zc cls d oe → (∃ vs, oe.data = .fields vs) → PSs (X.suite a ((a, oe) :: pn)) (b₀ :: suite) (ts a cls d)) (r : HdsA X hds l) :
      HdsA X (.ExceptHandler (some (.Name x np)) (some n) (b₀ :: suite) pos' :: hds) ((c, some i, ts) :: l)
section
variable {X : Cx} {body : List Stmt} {h₀ : ExceptHandler} {hds : List ExceptHandler} {l : List (Value × Option Nat × (Addr → Value → Option Addr → TS))} {pos : Pos} {tb : WX → TS} {Wout : WX}
theorem ps_try_ma (hs : X.stack = X.env :: X.outer) (hf : X.env.frame = some X.env.locals) (hN : X.N.Nodup) (tk : Takes X Wout)
    (hb : ∀ (W : WX) (pn : List (Addr × Obj)) (xe : Value → Shared → Prop), Takes (X.tr pn xe) W → PassesOwn (model X.prog X.w) X.A X.env xe → PSs (X.tr pn xe) body (tb W))
    (hh : HdsA X (h₀ :: hds) l) : PS X (.Try body (h₀ :: hds) [] [] pos) (fun D σ H => tb (wMA X.K Wout D l) D σ H) := by
  refine ⟨fun pins s σ H D I h => ?_⟩
  have ok := I.ok
  have hfr : X.A.frames = some (X.env :: X.outer) := by rw [ok.frames, hs]
  refine wpAny_Try_except ?_
  refine wpAny_mono ((hb (wMA X.K Wout D l) (X.pn ++ pins) (fun e s₁ => wpAny (model X.prog X.w) X.A (noteFrame e X.env) (fun _ s₂ => wpAny (model X.prog X.w) X.A (setFlight e none) (fun _ s₃ =>
    wpAny (model X.prog X.w) X.A (handleBy e X.env (h₀ :: hds)) (SP X pins D) X.xe s₃) X.xe s₂) X.xe s₁) (fun u s' xx => ?_) PassesOwn.looking).run [] s σ H D (I.toTry _) h) (fun f s1 hsp => ?_) (fun e s1 he => he)
  · obtain ⟨a, B, sI, pins', σ', H', cls, d, rfl, J', nb, up, sky, na, os, ag, w⟩ := xx
    have J : Inv X pins σ' H' sI := J'.ofTry ok
    have sky' : Sky B (X.env :: X.outer) a (Zc cls d) X.env.locals s'.heap := by rw [← hs]; exact sky
    show wpAny (model X.prog X.w) X.A (noteFrame (.ref a) X.env) _ _ _
    refine Sky.land Zc.steady hfr hf sky' fun h3 fl3 up3 => ?_
    have J3 : Inv X pins σ' H' { s' with heap := h3 } := J.landed nb fl3.1 (up.trans up3) os ag
    obtain ⟨oe3, vs3, he3, hz3, hd3⟩ := fl3.there
    have notFr : ∀ {h : Heap} {o : Obj} {vs : Array Value}, h.FunFrames B (X.env :: X.outer) → h.get? a = some o → o.data = .fields vs → a ∉ frs (X.env :: X.outer) := fun {h o vs} ff e dd hm => by
      obtain ⟨_, o', e', hnf⟩ := ff.mem hm
      rw [e] at e'; cases e'
      exact hnf _ dd
    have nfr := notFr fl3.2.2.1 he3 hd3
    have nL : a ≠ X.env.locals := fun z => nfr (List.mem_filterMap.mpr ⟨X.env, List.mem_cons_self, by rw [hf, z]⟩)
    have nF : a ∉ X.fs := fun hm => by
      obtain ⟨e, he, q⟩ := List.mem_filterMap.mp hm
      exact nfr (List.mem_filterMap.mpr ⟨e, List.mem_cons_of_mem _ he, q⟩)
    have S3 := J3.suite he3 hd3 na nL nF
    have LT : PySem.W.Looks (model X.prog X.w) h3 (typeOf (.ref a)) cls := fun A Q E s k q => wpAny_typeOf_ref (k _ _ he3) (by rw [hz3.1]; exact q)
    have test : ∀ {x : Str} {c : Value} {np : Pos} {Q : Value → Shared → Prop} {E : Value → Shared → Prop}, Names X x c → Q c { s' with heap := h3 } → wpAny (model X.prog X.w) (X.A.mark (some (.ref a))) (eval (.Name x np) X.env) Q E { s' with heap := h3 } := fun {x c np Q E} hc q => by
      obtain ⟨hg, hdbg, hm | ⟨hm, hv, hnn⟩⟩ := hc
      · exact ld_glob (X := X.suite a ((a, oe3) :: (X.pn ++ pins))) S3 hg hm q hdbg
      · exact ld_blt (X := X.suite a ((a, oe3) :: (X.pn ++ pins))) S3 hg hm hv q hnn hdbg
    have go : ∀ {hds' : List ExceptHandler} {l' : List (Value × Option Nat × (Addr → Value → Option Addr → TS))}, HdsA X hds' l' → wMA X.K Wout D l' cls d σ' H' →
        wpAny (model X.prog X.w) X.A (handleBy (.ref a) X.env hds') (SP X pins D) X.xe { s' with heap := h3 } := by
      intro hds' l' hk
      induction hk with
      | nil =>
        intro w
        refine wpAny_handleBy_nil ?_
        obtain ⟨k1, k2, k3, oe, vs, T, oT, ts', he, hz, hd, h1, hr⟩ := id fl3
        unfold PySem.passOn
        refine wpAny_bind (wpAny_field he hd h1 ?_)
        rw [if_neg (show ¬ ((Value.ref T == Value.none) = true) from by simp)]
        have fin : wpAny (model X.prog X.w) X.A (setFlight (.ref a) X.env.frame) (fun _ s4 => wpAny (model X.prog X.w) X.A (throw (.ref a) : Sem Flow) (SP X pins D) X.xe s4) X.xe { s' with heap := h3 } := by
          rw [hf]
          refine HandSPX.setFlight_upZ fl3 fun h4 hh4 up4 => wpAny_throw (tk _ _ ?_)
          exact ⟨a, B, sI, pins, σ', H', cls, d, rfl, J, nb, (up.trans up3).trans up4, .inr (.inr (by rw [hs]; exact hh4)), na, os, ag, w⟩
        first
          | exact wpAny_bind (wpAny_pure (wpAny_bind fin))
          | exact wpAny_bind fin
      | @cons x c ts b₀ suite np pos' hds2 l2 hc hsu r ih =>
        intro w
        obtain ⟨b, hb1, hyes, hno⟩ := w
        refine wpAny_handleBy_cons (codeAny_handlers_test ?_) (by intro q; cases q)
        have LM := PySem.W.exm_one (M := model X.prog X.w) (J3.kIn) LT hb1
        refine test hc (LM.here ?_)
        cases b with
        | true =>
          refine codeAny_handlers_suite ?_
          refine HandSPX.lands_againZ fl3 fun h4 fl4 up4 => ?_
          have J4 : Inv X pins σ' H' { s' with heap := h4 } := J.landed nb fl4.1 ((up.trans up3).trans up4) os ag
          obtain ⟨oe4, vs4, he4, hz4, hd4⟩ := fl4.there
          have S4 := J4.suite he4 hd4 na nL nF
          refine wpAny_mono ((hsu a oe4 cls d (X.pn ++ pins) hz4 ⟨_, hd4⟩).run [] _ _ H' _ S4 (hyes rfl a na)) (fun f s6 hsp => ?_) (fun _ _ z => False.elim z)
          cases f with
          | next =>
            obtain ⟨σ6, H6, S6, q6⟩ := hsp
            exact ⟨_, _, S6.unsuite ok, q6⟩
          | brk =>
            obtain ⟨σ6, H6, S6, q6⟩ := hsp
            exact ⟨_, _, S6.unsuite ok, q6⟩
          | cont =>
            obtain ⟨σ6, H6, S6, q6⟩ := hsp
            exact ⟨_, _, S6.unsuite ok, q6⟩
          | ret u =>
            obtain ⟨v6, σ6, H6, S6, r6, q6⟩ := hsp
            exact ⟨_, _, _, S6.unsuite ok, r6, q6⟩
        | false =>
          show wpAny _ X.A (handleBy (.ref a) X.env hds2) _ _ _
          exact ih (hno rfl)
      | @as x n i c ts b₀ suite np pos' hds2 l2 hi hln hc hsu r ih =>
        intro w
        obtain ⟨b, hb1, hyes, hno⟩ := w
        have hloc : Loc X.env.scope n := .inl hln
        refine wpAny_handleBy_cons (codeAny_handlers_test ?_) (by intro q; cases q)
        have LM := PySem.W.exm_one (M := model X.prog X.w) (J3.kIn) LT hb1
        refine test hc (LM.here ?_)
        cases b with
        | true =>
          refine codeAny_handlers_suite_as ?_
          refine HandSPX.lands_againZ fl3 fun h4 fl4 up4 => ?_
          have J4 : Inv X pins σ' H' { s' with heap := h4 } := J.landed nb fl4.1 ((up.trans up3).trans up4) os ag
          obtain ⟨oe4, vs4, he4, hz4, hd4⟩ := fl4.there
          have S4 := J4.suite he4 hd4 na nL nF
          refine store_ok (X := X.suite a ((a, oe4) :: (X.pn ++ pins))) (v := .ref a) S4 hN hi hloc rfl (fun s5 S5 => ?_) (.inr hln)
          refine wpAny_mono ((hsu a oe4 cls d (X.pn ++ pins) hz4 ⟨_, hd4⟩).run [] s5 _ H' _ S5 (hyes rfl a na)) (fun f s6 hsp => ?_) (fun _ _ z => False.elim z)
          have end_ : ∀ {σ6 : L2.St} {H6 : Hp} {Q : Shared → Prop}, Inv (X.suite a ((a, oe4) :: (X.pn ++ pins))) [] σ6 H6 s6 → (∀ s7, Inv X pins (σ6.set i none) H6 s7 → Q s7) →
              wpAny (model X.prog X.w) X.A (do bindName X.env n .none; unbindBehindTheSuite X.env n pos') (fun _ s7 => Q s7) X.xe s6 := fun {σ6 H6 Q} S6 hq => gone_ok (S6.unsuite ok) hN hi hln hq
          cases f with
          | next =>
            obtain ⟨σ6, H6, S6, q6⟩ := hsp
            exact end_ S6 fun s7 J7 => ⟨_, _, J7, q6⟩
          | brk =>
            obtain ⟨σ6, H6, S6, q6⟩ := hsp
            exact end_ S6 fun s7 J7 => ⟨_, _, J7, q6⟩
          | cont =>
            obtain ⟨σ6, H6, S6, q6⟩ := hsp
            exact end_ S6 fun s7 J7 => ⟨_, _, J7, q6⟩
          | ret u =>
            obtain ⟨v6, σ6, H6, S6, r6, q6⟩ := hsp
            exact end_ S6 fun s7 J7 => ⟨_, _, _, J7, r6, q6⟩
        | false =>
          show wpAny _ X.A (handleBy (.ref a) X.env hds2) _ _ _
          exact ih (hno rfl)
    exact go hh w
  · cases f with
    | next =>
      obtain ⟨σ', H', J', q⟩ := hsp
      exact wpAny_execs_nil ⟨σ', H', J'.ofTry ok, q⟩
    | brk =>
      obtain ⟨σ', H', J', q⟩ := hsp
      exact ⟨σ', H', J'.ofTry ok, q⟩
    | cont =>
      obtain ⟨σ', H', J', q⟩ := hsp
      exact ⟨σ', H', J'.ofTry ok, q⟩
    | ret u =>
      obtain ⟨v, σ', H', J', r, q⟩ := hsp
      exact ⟨v, σ', H', J'.ofTry ok, r, q⟩
end
end Z

/-! ### own exceptions as values -/
namespace Z
open PySem PySem.Spec L2 PyProof.Rows
/-- an exception that is held: its class, the names and values in its dict, if it has one -/
def Exv (H : Hp) (a C : Addr) : Option (List (Str × V)) → Prop
  | none => H a = some (exo a C none)
  | some fs => ∃ d, H a = some (exo a C (some d)) ∧ H d = some (exd d fs)
theorem Exv.same {H H' : Hp} {a C : Addr} : ∀ {fs : Option (List (Str × V))}, Exv H a C fs → Same H H' → Exv H' a C fs
  | none, h, s => s _ _ h
  | some _, ⟨d, h1, h2⟩, s => ⟨d, s _ _ h1, s _ _ h2⟩
section
variable {X : Cx} {CX : CXT} {C : Addr} {x : Str} {p pos : Pos} {e o : Expr} {es : List Expr} {ta : TA} {te : TE}
/-- C() as a value -/
theorem pe_exv0 {bmB : List Value} {B newId initId : String} (F : ExcBaseFacts B newId initId bmB) (q : PySem.W.excIn X.K C bmB newId = true) (gC : X.mg x = some (.ref C)) (kC : PySem.W.keepIn X.K (.ref C) = true) (hg : Gl X x := by rfl)
    (hdb : (x == ("__debug__" : Str)) = false := by decide) : PE X (.Call (.Name x p) [] [] pos) (fun σ H Q => ∀ a, H a = none → Q (.ref a) (upd H a (exo a C none))) := by
  refine ⟨fun pins s σ H Q I h => ?_⟩
  refine wpAny_Call_Name_kw (ld_glob I hg gC ?_ hdb)
  refine PySem.W.callWith_K0 I.kIn kC ?_
  show wpAny _ _ (PySem.call (Value.ref C) []) _ _ _
  obtain ⟨bm, N, nm, qn, bs, hdct, sn, sub, ab, col, dd, k0, k1, k2, k3, k5, mN, hC, hN, hni, T⟩ := exc_obj I.kIn q
  refine wpAny_call_exc_subT F T hC hN hni (fun h' a hm => ?_) (Nat.zero_le _)
  have hn : H a = none := I.hok.gone hm.new
  obtain ⟨t, ht, _, _⟩ := hm.there
  exact ⟨.ref a, upd H a (exo a C none), I.laidN hm.keeps hm.new hn (exo_ok ht), rfl, h a hn⟩
/-- C(e, ..) as a value, C's own __init__ keeping sp -/
def tMkV (C : Addr) (sp : Sp) (ta : TA) : TE := fun σ H Q => ta σ H fun vs H1 => vs.length ≤ 1000 ∧ ∀ a, H1 a = none → sp (.ref a :: vs) (upd H1 a (exo a C none)) (fun v H2 => v = .non ∧ Q (.ref a) H2) (fun _ _ _ => False)
theorem pe_exv {fI : Addr} {k : Nat} {fd : FuncData} {ps : List Str} {sp : Sp} (T : OexC X.K C) (iC : PySem.W.findIn X.K (.ref C) "__init__" = some (some (.ref fI))) (tI : PySem.W.typeIn X.K (.ref fI) = some (.type "function"))
    (F1 : FnOk X.prog X.w X.K X.mg X.base CX k fI fd ps sp) (hr : Room (k + 1) X.A) (hb : Binds X.K fd ps []) (hx : Passes CX X (fun _ _ _ => False)) (hg : Gl X x) (hm : X.mg x = some (.ref C)) (ha : PA X (e :: es) ta)
    (hdb : (x == ("__debug__" : Str)) = false := by decide) (he : starEach (e :: es) X.env = (false, eval e X.env) :: starEach es X.env := by rfl) (hpl : (backTo pos (starEach es X.env)).any (·.1) = false := by rfl) :
    PE X (.Call (.Name x p) (e :: es) [] pos) (tMkV C sp ta) := by
  refine ⟨fun pins s σ H Q I h => ?_⟩
  obtain ⟨nm, q, N, bs, bm, sn, sub, ab, col, dd, k0, k1, k2, k3, k5, hC, hbm⟩ := T.cls
  refine wpAny_Call_Name_kw (ld_glob I hg hm ?_ hdb)
  refine PySem.W.callWith_K (h₀ := X.base) I.ok.mod.kin T.kC (thn (ha.run pos pins s σ H _ I h) fun us s1 ⟨vs, H1, I1, r1, hz, q1⟩ => ⟨I1.kIn, ?_⟩) he hpl
  show wpAny _ _ (PySem.call (Value.ref C) us) _ _ _
  obtain ⟨hp, g, dr, tk, os⟩ := s1
  have hsz : hp.objs.size ≤ hp.objs.size + 1 := Nat.le_succ _
  have hn : H1 (hp.objs.size + 1) = none := I1.hok.fresh hsz
  have hq := q1 (hp.objs.size + 1) hn
  have kk : ∀ b o, hp.get? b = some o → ((hp.push (PySem.W.kdv_tup us)).push (PySem.HandSPX.excO C hp.objs.size)).get? b = some o := fun b o e => Heap.get?_push_of_some _ (Heap.get?_push_of_some _ e)
  have hget : ((hp.push (PySem.W.kdv_tup us)).push (PySem.HandSPX.excO C hp.objs.size)).get? (hp.objs.size + 1) = some (PySem.HandSPX.excO C hp.objs.size) := by heap_get
  have I2 : Inv X pins σ (upd H1 (hp.objs.size + 1) (exo (hp.objs.size + 1) C none)) ⟨(hp.push (PySem.W.kdv_tup us)).push (PySem.HandSPX.excO C hp.objs.size), g, dr, tk, os⟩ :=
    I1.laid (t' := tk) (a := hp.objs.size + 1) (o := exo (hp.objs.size + 1) C none) (h' := (hp.push (PySem.W.kdv_tup us)).push (PySem.HandSPX.excO C hp.objs.size)) kk hsz (exo_ok hget)
  have r2 : Vals (V.ref (hp.objs.size + 1) :: vs) (Value.ref (hp.objs.size + 1) :: us) := .cons rfl r1
  have hl : (Value.ref (hp.objs.size + 1) :: us ++ []).length = ps.length := by
    have e := r2.length
    rw [F1.len _ _ _ _ hq] at e
    rw [List.append_nil]
    exact e.symm
  have hus : us.length ≤ sizeLine := by
    rw [← Paired.length r1, sizeLine_eq]
    omega
  have hbb := hb _ (Value.ref (hp.objs.size + 1) :: us) I2.kIn hl
  rw [List.append_nil] at hbb
  refine wpAny_call (PySem.HandSPX.call_own F.excBase_ValueError (fun Y => PySem.HandSPX.refsVE_contains Y bm hbm) (I1.kIn _ _ hC) (PySem.W.looks_findIn I1.kIn iC) (fun self => PySem.W.bind_fn I1.kIn self tI) hus
    (codeAny_mono (F1.run _ X.stack _ _ ⟨Value.ref (hp.objs.size + 1) :: us, []⟩ (Value.ref (hp.objs.size + 1) :: us) _ _ (fun _ _ _ => False) (hr.make C us []) (I2.env0.make C us []) hbb r2 hq) fun r s' hq' => ?_))
  match r, hq' with
  | .error er, hq' => exact hx pins σ _ _ er s' I2 hq'
  | .ok (.ret u), hq' =>
    obtain ⟨v, H2, J, rv, ev, q2⟩ := I2.after hq'
    subst ev
    exact ⟨rv, ⟨V.ref (hp.objs.size + 1), H2, J, rfl, q2⟩⟩
/-- isinstance(e, c) of an exception that is held -/
def rIsV (K : PySem.W.Frag) : List V → Hp → VK → Prop := fun xs H Q => ∃ (a D : Addr) (fs : Option (List (Str × V))) (c : V) (cv : Value) (b : Bool), xs = [.ref a, c] ∧ Exv H a D fs ∧ ExcC K D ∧ ClsV c cv ∧ PySem.W.kitOne K (.ref D) cv = some b ∧ Q (.bl b) H
theorem exv_inst {P : Program} {w : World} {H : Hp} {h : Heap} {a D : Addr} {fs : Option (List (Str × V))} (hok : HOk P w H h) (e : Exv H a D fs) : ∃ oe od, PySem.W.InstAt h a oe D od := by
  cases fs with
  | none =>
    obtain ⟨t1, ho⟩ := exo_at hok e
    exact ⟨_, none, ho, rfl, rfl, True.intro⟩
  | some fs =>
    obtain ⟨d, e1, e2⟩ := e
    obtain ⟨t1, ho⟩ := exo_at hok e1
    obtain ⟨mA, ⟨od, _, _, hd, _⟩, _⟩ := exd_at hok e2
    exact ⟨_, some od, ho, rfl, rfl, hd⟩
theorem call_isV : CallR X (.builtin "isinstance") (rIsV X.K) := by
  intro pins s σ H xs us Q I r h
  obtain ⟨a, D, fs, c, cv, b, rfl, he, C, hc, e, q⟩ := h
  cases r with
  | cons rx rr =>
    cases rr with
    | cons rt rr =>
      cases rr
      cases rx
      have ec := hc.eq rt
      subst ec
      obtain ⟨oe, od, J⟩ := exv_inst I.hok he
      exact PySem.W.kia_one (PySem.W.kitx_exc (isCls_some C.hd) C.hg C.hk C.hs C.ha C.hn C.ht C.hm) I.kIn J e (fun z => nomatch z) fun tk => ⟨.bl b, H, I.kept (t' := tk) fun _ _ z => z, rfl, q⟩
/-- e.f of an exception that is held -/
def tXv (K : PySem.W.Frag) (f : Str) (te : TE) : TE := fun σ H Q => te σ H fun x H1 => ∃ (a C : Addr) (fs : List (Str × V)) (v : V), x = .ref a ∧ XfC K C ∧ PySem.W.findIn K (.ref C) f = some none ∧ Exv H1 a C (some fs) ∧ fs.lookup f = some v ∧ Q v H1
theorem pe_xv {n : Str} (he : PE X e te) (hb : attributeBase e n X.env (eval e X.env) = eval e X.env := by rfl) : PE X (.Attribute e n pos) (tXv X.K n te) := by
  refine ⟨fun pins s σ H Q I h => ?_⟩
  refine attr_of hb (thn (he.run pins s σ H _ I h) fun u s1 hh => ?_)
  obtain ⟨x, H1, I1, rx, a, C, fs, v, ex, T, hno, ⟨d, e1, e2⟩, l, q⟩ := hh
  subst ex
  obtain rfl : u = Value.ref a := rx
  obtain ⟨t1, ho⟩ := exo_at I1.hok e1
  obtain ⟨mA, hns, hr⟩ := exd_at I1.hok e2
  obtain ⟨od, hod, hl⟩ := lookIn_ns hns
  obtain ⟨u, hu, ru⟩ := RelO.some_of (v := v) (o := mA n) (by rw [← l]; exact hr n)
  have J : PySem.W.InstAt s1.heap a _ C (some od) := ⟨ho, rfl, rfl, hod⟩
  exact HandSPX.exc_get I1.kIn J T.ga T.gg T.exC (PySem.W.findObj_own T.hdC hno rfl (by rw [hl, hu])) (handed_of ru) ⟨v, H1, I1.tok _, ru, q⟩
end
section
variable {K : PySem.W.Frag} {σ : L2.St} {H : Hp} {C : Addr} {ta : TA} {te : TE} {f : Str} {Q : VK} {sp : Sp}
theorem mkV (h : ta σ H fun vs H1 => vs.length ≤ 1000 ∧ ∀ a, H1 a = none → sp (.ref a :: vs) (upd H1 a (exo a C none)) (fun v H2 => v = .non ∧ Q (.ref a) H2) (fun _ _ _ => False)) : tMkV C sp ta σ H Q := h
theorem xv (h : te σ H fun x H1 => ∃ (a C : Addr) (fs : List (Str × V)) (v : V), x = .ref a ∧ XfC K C ∧ PySem.W.findIn K (.ref C) f = some none ∧ Exv H1 a C (some fs) ∧ fs.lookup f = some v ∧ Q v H1) : tXv K f te σ H Q := h
/-- C(ws) held: two new places -/
theorem heldX {fs : List Str} {ws : List V} {E : XK} (hl : ws.length = fs.length := by rfl) (hz : fs.length ≤ 100 := by decide) (h : ∀ a d, H a = none → H d = none → d ≠ a → Q (.ref a) (upd (upd H a (exo a C (some d))) d (exd d (fs.zip ws).reverse))) :
    ws.length ≤ 1000 ∧ ∀ a, H a = none → spX K C fs (.ref a :: ws) (upd H a (exo a C none)) (fun v H2 => v = .non ∧ Q (.ref a) H2) E := by
  refine ⟨by omega, fun a ha => ⟨a, ws, rfl, hl, upd_same, fun d H' hd hne h1 h2 h3 => ⟨rfl, ?_⟩⟩⟩
  rw [upd_ne hne] at hd
  have e : H' = upd (upd H a (exo a C (some d))) d (exd d (fs.zip ws).reverse) := by
    funext b
    by_cases hb : b = d
    · rw [hb, upd_same, h2]
    · rw [upd_ne hb]
      by_cases hba : b = a
      · rw [hba, upd_same, h1]
      · rw [upd_ne hba, h3 b hba hb, upd_ne hba]
  rw [e]
  exact h a d ha hd hne
end
end Z
local macro_rules | `(tactic| walk_at "z1") => `(tactic| first | (with_reducible refine Z.mkV ?_) | (with_reducible refine Z.xv ?_))
namespace Z
open PySem PySem.Spec L2 PyProof.Rows
/-- the own exception classes Cs: each is under S and under ValueError, none under another -/
def excTab (K : PySem.W.Frag) (S : Addr) (Cs : List Addr) : Bool := decide Cs.Nodup && Cs.all fun D => PySem.W.kitOne K (.ref D) (.ref S) == some true && PySem.W.kitOne K (.ref D) (.type "ValueError") == some true && Cs.all fun C => PySem.W.kitOne K (.ref D) (.ref C) == some (D == C)
theorem excTab_at {K : PySem.W.Frag} {S : Addr} {Cs : List Addr} (h : excTab K S Cs = true) : Cs.Nodup ∧ ∀ D ∈ Cs, PySem.W.kitOne K (.ref D) (.ref S) = some true ∧ PySem.W.kitOne K (.ref D) (.type "ValueError") = some true ∧ ∀ C ∈ Cs, PySem.W.kitOne K (.ref D) (.ref C) = some (D == C) := by
  unfold excTab at h
  rw [Bool.and_eq_true] at h
  refine ⟨of_decide_eq_true h.1, fun D hD => ?_⟩
  have h2 := List.all_eq_true.mp h.2 D hD
  simp only [Bool.and_eq_true, beq_iff_eq] at h2
  exact ⟨h2.1.1, h2.1.2, fun C hC => by have := List.all_eq_true.mp h2.2 C hC; simpa using this⟩
end Z

/-! ### tuples of the same things, alike by being the same -/
namespace Z
open PySem PySem.Spec L2 PyProof.Rows
def SameV (x : V) : Prop := flatV x = true ∨ ∃ a, x = .ref a
def rNeT (K : PySem.W.Frag) : R2 := fun x y H Q => ∃ p q xs, x = .ref p ∧ y = .ref q ∧ SqT K H p xs ∧ SqT K H q xs ∧ (∀ v ∈ xs, SameV v) ∧ Q (.bl false) H
theorem eqV_self {x : V} (h : flatV x = true) : eqV x x = true := by
  cases x <;> first | rfl | exact beq_self_eq_true _ | exact absurd h (by simp [flatV])
theorem same_eqAt {A : Around} {s : Shared} {x : V} {u v : Value} (ru : RelV x u) (rv : RelV x v) (h : SameV x) : SeqAt.EqAt A s u v true := by
  rcases h with h | ⟨a, rfl⟩
  · have := eqAt_V (A := A) (s := s) ru rv h h
    rwa [eqV_self h] at this
  · cases ru
    cases rv
    exact SeqAt.EqAt.same _
theorem op_neT {X : Cx} (hu : X.A.units + 64 < cLine) : OpR X (compareOp .NotEq) (rNeT X.K) := by
  intro pins s σ H x y v u Q I rx ry h
  obtain ⟨p, q, xs, rfl, rfl, h1, h2, hs, k⟩ := h
  cases rx
  cases ry
  obtain ⟨u1, r1, p1, z1⟩ := I.tuple h1
  obtain ⟨u2, r2, p2, z2⟩ := I.tuple h2
  have l1 := Paired.length r1
  have l2 := Paired.length r2
  have he : ∀ j (g1 : j < u1.toArray.size) (g2 : j < u2.toArray.size), SeqAt.EqAt X.A.in1 s u1.toArray[j] u2.toArray[j] ((fun _ => true) j) := fun j g1 g2 => by
    have g1' : j < u1.length := by simpa using g1
    have g2' : j < u2.length := by simpa using g2
    have e1 : u1[j]? = some u1[j] := List.getElem?_eq_getElem g1'
    have e2 : u2[j]? = some u2[j] := List.getElem?_eq_getElem g2'
    have ex : xs[j]? = some (xs[j]'(by omega)) := List.getElem?_eq_getElem _
    obtain ⟨w1, f1, f2⟩ := LiI.paired_get r1 ex
    obtain ⟨w2, f3, f4⟩ := LiI.paired_get r2 ex
    rw [e1] at f1
    rw [e2] at f3
    cases f1
    cases f3
    have := same_eqAt (A := X.A.in1) (s := s) f2 f4 (hs _ (List.getElem_mem _))
    simpa using this
  have main : SeqAt.RcNeAt X.A s (.ref p) (.ref q) (!((List.range (min u1.toArray.size u2.toArray.size)).all (fun _ => true) && u1.toArray.size == u2.toArray.size)) := SeqAt.RcNeAt.tuples p1 p2 (by omega) he
  refine main _ _ _ _ ?_
  have e : (!((List.range (min u1.toArray.size u2.toArray.size)).all (fun _ => true) && u1.toArray.size == u2.toArray.size)) = false := by
    rw [List.size_toArray, List.size_toArray, ← l1, ← l2]
    simp
  rw [e]
  exact ⟨.bl false, H, I, rfl, k⟩
end Z

namespace Toy
open PySem L2
section
variable {P : Program} {w : World} {K : PySem.W.Frag} {mg : Str → Option Value} {base : Heap}
def top (i : Nat) : Stmt := PySem.Challenge.pw_planstore_k05_refusals_apart.main.body.getD i (.Pass ⟨0, 0, 0, 0⟩)
abbrev s_is_whole : Stmt := top 23
theorem sc_is_whole : FnScope ["thing"] ["thing"] (defScope s_is_whole) := ⟨rfl, rfl, rfl, by decide +kernel, rfl, by decide +kernel, by decide +kernel⟩
abbrev s_is_name : Stmt := top 24
theorem sc_is_name : FnScope ["thing", "sign"] ["thing"] (defScope s_is_name) := ⟨rfl, rfl, rfl, by decide +kernel, rfl, by decide +kernel, by decide +kernel⟩
abbrev s_is_kind : Stmt := top 25
theorem sc_is_kind : FnScope ["thing"] ["thing"] (defScope s_is_kind) := ⟨rfl, rfl, rfl, by decide +kernel, rfl, by decide +kernel, by decide +kernel⟩
abbrev s_is_value : Stmt := top 26
theorem sc_is_value : FnScope ["kind", "thing"] ["kind", "thing"] (defScope s_is_value) := ⟨rfl, rfl, rfl, by decide +kernel, rfl, by decide +kernel, by decide +kernel⟩
abbrev s_is_row_of : Stmt := top 31
theorem sc_is_row_of : FnScope ["thing", "least", "most"] ["thing", "least", "most"] (defScope s_is_row_of) := ⟨rfl, rfl, rfl, by decide +kernel, rfl, by decide +kernel, by decide +kernel⟩
abbrev s_need_pair : Stmt := top 32
theorem sc_need_pair : FnScope ["thing"] ["thing"] (defScope s_need_pair) := ⟨rfl, rfl, rfl, by decide +kernel, rfl, by decide +kernel, by decide +kernel⟩
abbrev s_columns_in : Stmt := top 33
theorem sc_columns_in : FnScope ["thing", "names", "column", "name", "kind"] ["thing"] (defScope s_columns_in) := ⟨rfl, rfl, rfl, by decide +kernel, rfl, by decide +kernel, by decide +kernel⟩
abbrev s_tables_in : Stmt := top 34
theorem sc_tables_in : FnScope ["thing", "found", "table"] ["thing"] (defScope s_tables_in) := ⟨rfl, rfl, rfl, by decide +kernel, rfl, by decide +kernel, by decide +kernel⟩
abbrev s_orders_in : Stmt := top 35
theorem sc_orders_in : FnScope ["thing", "tables", "found", "order", "table", "column", "name", "kind"] ["thing", "tables"] (defScope s_orders_in) := ⟨rfl, rfl, rfl, by decide +kernel, rfl, by decide +kernel, by decide +kernel⟩
abbrev s_Schema___init__ : Stmt := inClass (top 36) 0
theorem sc_Schema___init__ : FnScope ["self", "tables", "orders"] ["self", "tables", "orders"] (defScope s_Schema___init__) := ⟨rfl, rfl, rfl, by decide +kernel, rfl, by decide +kernel, by decide +kernel⟩
abbrev s_Schema_need_table : Stmt := inClass (top 36) 1
theorem sc_Schema_need_table : FnScope ["self", "table"] ["self", "table"] (defScope s_Schema_need_table) := ⟨rfl, rfl, rfl, by decide +kernel, rfl, by decide +kernel, by decide +kernel⟩
abbrev s_Schema_table_names : Stmt := inClass (top 36) 2
theorem sc_Schema_table_names : FnScope ["self"] ["self"] (defScope s_Schema_table_names) := ⟨rfl, rfl, rfl, by decide +kernel, rfl, by decide +kernel, by decide +kernel⟩
abbrev s_Schema_columns_of : Stmt := inClass (top 36) 3
theorem sc_Schema_columns_of : FnScope ["self", "table"] ["self", "table"] (defScope s_Schema_columns_of) := ⟨rfl, rfl, rfl, by decide +kernel, rfl, by decide +kernel, by decide +kernel⟩
abbrev s_Schema_kind_of : Stmt := inClass (top 36) 4
theorem sc_Schema_kind_of : FnScope ["self", "table", "column", "name", "kind"] ["self", "table", "column"] (defScope s_Schema_kind_of) := ⟨rfl, rfl, rfl, by decide +kernel, rfl, by decide +kernel, by decide +kernel⟩
abbrev s_Schema_has_order : Stmt := inClass (top 36) 5
theorem sc_Schema_has_order : FnScope ["self", "table", "column"] ["self", "table", "column"] (defScope s_Schema_has_order) := ⟨rfl, rfl, rfl, by decide +kernel, rfl, by decide +kernel, by decide +kernel⟩
abbrev s_Schema_fits : Stmt := inClass (top 36) 6
theorem sc_Schema_fits : FnScope ["self", "table", "row", "column", "value"] ["self", "table", "row"] (defScope s_Schema_fits) := ⟨rfl, rfl, rfl, by decide +kernel, rfl, by decide +kernel, by decide +kernel⟩
abbrev s_NoTable___init__ : Stmt := inClass (top 5) 0
theorem sc_NoTable___init__ : FnScope ["self", "table"] ["self", "table"] (defScope s_NoTable___init__) := ⟨rfl, rfl, rfl, by decide +kernel, rfl, by decide +kernel, by decide +kernel⟩
abbrev s_NoOrder___init__ : Stmt := inClass (top 6) 0
theorem sc_NoOrder___init__ : FnScope ["self", "table", "column"] ["self", "table", "column"] (defScope s_NoOrder___init__) := ⟨rfl, rfl, rfl, by decide +kernel, rfl, by decide +kernel, by decide +kernel⟩
abbrev s_BadRow___init__ : Stmt := inClass (top 7) 0
theorem sc_BadRow___init__ : FnScope ["self", "table"] ["self", "table"] (defScope s_BadRow___init__) := ⟨rfl, rfl, rfl, by decide +kernel, rfl, by decide +kernel, by decide +kernel⟩
abbrev s_NoRow___init__ : Stmt := inClass (top 8) 0
theorem sc_NoRow___init__ : FnScope ["self", "table", "key"] ["self", "table", "key"] (defScope s_NoRow___init__) := ⟨rfl, rfl, rfl, by decide +kernel, rfl, by decide +kernel, by decide +kernel⟩
abbrev s_NoMake___init__ : Stmt := inClass (top 9) 0
theorem sc_NoMake___init__ : FnScope ["self", "number"] ["self", "number"] (defScope s_NoMake___init__) := ⟨rfl, rfl, rfl, by decide +kernel, rfl, by decide +kernel, by decide +kernel⟩
abbrev s_Over___init__ : Stmt := inClass (top 10) 0
theorem sc_Over___init__ : FnScope ["self", "number"] ["self", "number"] (defScope s_Over___init__) := ⟨rfl, rfl, rfl, by decide +kernel, rfl, by decide +kernel, by decide +kernel⟩
abbrev s_Beaten___init__ : Stmt := inClass (top 11) 0
theorem sc_Beaten___init__ : FnScope ["self", "table", "key", "by"] ["self", "table", "key", "by"] (defScope s_Beaten___init__) := ⟨rfl, rfl, rfl, by decide +kernel, rfl, by decide +kernel, by decide +kernel⟩
abbrev s_NoQuestion___init__ : Stmt := inClass (top 12) 0
theorem sc_NoQuestion___init__ : FnScope ["self", "place"] ["self", "place"] (defScope s_NoQuestion___init__) := ⟨rfl, rfl, rfl, by decide +kernel, rfl, by decide +kernel, by decide +kernel⟩
abbrev s_NoColumn___init__ : Stmt := inClass (top 13) 0
theorem sc_NoColumn___init__ : FnScope ["self", "name"] ["self", "name"] (defScope s_NoColumn___init__) := ⟨rfl, rfl, rfl, by decide +kernel, rfl, by decide +kernel, by decide +kernel⟩
abbrev s_Alike___init__ : Stmt := inClass (top 14) 0
theorem sc_Alike___init__ : FnScope ["self", "name"] ["self", "name"] (defScope s_Alike___init__) := ⟨rfl, rfl, rfl, by decide +kernel, rfl, by decide +kernel, by decide +kernel⟩
abbrev s_WrongKind___init__ : Stmt := inClass (top 15) 0
theorem sc_WrongKind___init__ : FnScope ["self", "name"] ["self", "name"] (defScope s_WrongKind___init__) := ⟨rfl, rfl, rfl, by decide +kernel, rfl, by decide +kernel, by decide +kernel⟩
abbrev s_NoStep___init__ : Stmt := inClass (top 16) 0
theorem sc_NoStep___init__ : FnScope ["self", "place"] ["self", "place"] (defScope s_NoStep___init__) := ⟨rfl, rfl, rfl, by decide +kernel, rfl, by decide +kernel, by decide +kernel⟩
abbrev s_law_cell : Stmt := top 38
theorem sc_law_cell : FnScope ["_law_script", "_law_k"] ["_law_script", "_law_k"] (defScope s_law_cell) := ⟨rfl, rfl, rfl, by decide +kernel, rfl, by decide +kernel, by decide +kernel⟩
abbrev s_law_draws : Stmt := top 39
theorem sc_law_draws : FnScope ["_law_cell_here", "_law_many", "_law_found", "_law_left", "_law_mixed", "_law_k"] ["_law_cell_here", "_law_many"] (defScope s_law_draws) := ⟨rfl, rfl, rfl, by decide +kernel, rfl, by decide +kernel, by decide +kernel⟩
abbrev s_law_names : Stmt := top 40
theorem sc_law_names : FnScope ["_law_cell_here", "_law_many", "_law_letters", "_law_draws_here", "_law_size", "_law_at", "_law_names_here", "_law_k", "_law_signs", "_law_j", "_law_sign"] ["_law_cell_here", "_law_many"] (defScope s_law_names) := ⟨rfl, rfl, rfl, by decide +kernel, rfl, by decide +kernel, by decide +kernel⟩
abbrev s_law_schema : Stmt := top 41
theorem sc_law_schema : FnScope ["_law_cell_here", "_law_draws_here", "_law_tables", "_law_some", "_law_k", "_law_name", "_law_columns", "_law_names_here", "_law_j", "_law_column", "_law_orders"] ["_law_cell_here"] (defScope s_law_schema) := ⟨rfl, rfl, rfl, by decide +kernel, rfl, by decide +kernel, by decide +kernel⟩
abbrev s_law_made : Stmt := top 42
theorem sc_law_made : FnScope ["_law_one", "_law_two", "_law_three", "_law_some"] ["_law_one", "_law_two", "_law_three"] (defScope s_law_made) := ⟨rfl, rfl, rfl, by decide +kernel, rfl, by decide +kernel, by decide +kernel⟩
abbrev s_law_kinds : Stmt := top 43
theorem sc_law_kinds : FnScope ["_law_e", "_law_found"] ["_law_e"] (defScope s_law_kinds) := ⟨rfl, rfl, rfl, by decide +kernel, rfl, by decide +kernel, by decide +kernel⟩
abbrev s_law_values : Stmt := top 44
theorem sc_law_values : FnScope ["_law_some", "_law_found"] ["_law_some"] (defScope s_law_values) := ⟨rfl, rfl, rfl, by decide +kernel, rfl, by decide +kernel, by decide +kernel⟩
abbrev s_law_due : Stmt := top 45
theorem sc_law_due : FnScope ["_law_one", "_law_two", "_law_three"] ["_law_one", "_law_two", "_law_three"] (defScope s_law_due) := ⟨rfl, rfl, rfl, by decide +kernel, rfl, by decide +kernel, by decide +kernel⟩
abbrev s_law_asked : Stmt := top 46
theorem sc_law_asked : FnScope ["_law_schema_here", "_law_way", "_law_table", "_law_thing"] ["_law_schema_here", "_law_way", "_law_table", "_law_thing"] (defScope s_law_asked) := ⟨rfl, rfl, rfl, by decide +kernel, rfl, by decide +kernel, by decide +kernel⟩
abbrev s_law_told : Stmt := top 47
theorem sc_law_told : FnScope ["_law_schema_here", "_law_way", "_law_table", "_law_thing", "_law_told_here", "_law_e"] ["_law_schema_here", "_law_way", "_law_table", "_law_thing"] (defScope s_law_told) := ⟨rfl, rfl, rfl, by decide +kernel, rfl, by decide +kernel, by decide +kernel⟩
abbrev s_law_strange : Stmt := top 48
theorem sc_law_strange : FnScope ["_law_draw", "_law_names_here", "_law_other", "_law_some", "_law_name"] ["_law_draw", "_law_names_here"] (defScope s_law_strange) := ⟨rfl, rfl, rfl, by decide +kernel, rfl, by decide +kernel, by decide +kernel⟩
abbrev s_law : Stmt := top 49
theorem sc_law : FnScope ["_law_script", "_law_draws_here", "_law_some", "_law_others", "_law_k", "_law_e", "_law_tables", "_law_orders", "_law_schema_here", "_law_cell_here", "_law_more", "_law_name", "_law_columns", "_law_bad", "_law_thing", "_law_way", "_law_told_here", "_law_table", "_law_rows", "_law_j", "_law_column", "_law_kind"] ["_law_script"] (defScope s_law) := ⟨rfl, rfl, rfl, by decide +kernel, rfl, by decide +kernel, by decide +kernel⟩
structure Adr where
  Schema : Addr
  StoreError : Addr
  NoSchema : Addr
  TooMany : Addr
  Fell : Addr
  NoTable : Addr
  NoOrder : Addr
  BadRow : Addr
  NoRow : Addr
  NoMake : Addr
  Over : Addr
  Beaten : Addr
  NoQuestion : Addr
  NoColumn : Addr
  Alike : Addr
  WrongKind : Addr
  NoStep : Addr
  NoPlan : Addr
  NoLine : Addr
  f_is_whole : Addr
  f_is_name : Addr
  f_is_kind : Addr
  f_is_value : Addr
  f_is_row_of : Addr
  f_need_pair : Addr
  f_columns_in : Addr
  f_tables_in : Addr
  f_orders_in : Addr
  f_Schema___init__ : Addr
  f_Schema_need_table : Addr
  f_Schema_table_names : Addr
  f_Schema_columns_of : Addr
  f_Schema_kind_of : Addr
  f_Schema_has_order : Addr
  f_Schema_fits : Addr
  f_NoTable___init__ : Addr
  f_NoOrder___init__ : Addr
  f_BadRow___init__ : Addr
  f_NoRow___init__ : Addr
  f_NoMake___init__ : Addr
  f_Over___init__ : Addr
  f_Beaten___init__ : Addr
  f_NoQuestion___init__ : Addr
  f_NoColumn___init__ : Addr
  f_Alike___init__ : Addr
  f_WrongKind___init__ : Addr
  f_NoStep___init__ : Addr
  f_law_cell : Addr
  f_law_draws : Addr
  f_law_names : Addr
  f_law_schema : Addr
  f_law_made : Addr
  f_law_kinds : Addr
  f_law_values : Addr
  f_law_due : Addr
  f_law_asked : Addr
  f_law_told : Addr
  f_law_strange : Addr
  f_law : Addr
/-- a def of the text as it stands, and how its arguments bind -/
def Dfn (K : PySem.W.Frag) (x q : Str) (st : Stmt) (ps : List Str) (f : Addr) : Prop := ∃ fd, Fun K x q st f fd ∧ Binds K fd ps []
theorem Dfn.kp {K : PySem.W.Frag} {x q : Str} {st : Stmt} {ps : List Str} {f : Addr} (d : Dfn K x q st ps f) : PySem.W.keepIn K (.ref f) = true := let ⟨_, F, _⟩ := d; F.kp
structure Txt (K : PySem.W.Frag) (mg : Str → Option Value) (A : Adr) : Prop where
  d_is_whole : Dfn K "is_whole" "is_whole" s_is_whole ["thing"] A.f_is_whole
  g_is_whole : mg "is_whole" = some (.ref A.f_is_whole)
  d_is_name : Dfn K "is_name" "is_name" s_is_name ["thing"] A.f_is_name
  g_is_name : mg "is_name" = some (.ref A.f_is_name)
  d_is_kind : Dfn K "is_kind" "is_kind" s_is_kind ["thing"] A.f_is_kind
  g_is_kind : mg "is_kind" = some (.ref A.f_is_kind)
  d_is_value : Dfn K "is_value" "is_value" s_is_value ["kind", "thing"] A.f_is_value
  g_is_value : mg "is_value" = some (.ref A.f_is_value)
  d_is_row_of : Dfn K "is_row_of" "is_row_of" s_is_row_of ["thing", "least", "most"] A.f_is_row_of
  g_is_row_of : mg "is_row_of" = some (.ref A.f_is_row_of)
  d_need_pair : Dfn K "need_pair" "need_pair" s_need_pair ["thing"] A.f_need_pair
  g_need_pair : mg "need_pair" = some (.ref A.f_need_pair)
  d_columns_in : Dfn K "columns_in" "columns_in" s_columns_in ["thing"] A.f_columns_in
  g_columns_in : mg "columns_in" = some (.ref A.f_columns_in)
  d_tables_in : Dfn K "tables_in" "tables_in" s_tables_in ["thing"] A.f_tables_in
  g_tables_in : mg "tables_in" = some (.ref A.f_tables_in)
  d_orders_in : Dfn K "orders_in" "orders_in" s_orders_in ["thing", "tables"] A.f_orders_in
  g_orders_in : mg "orders_in" = some (.ref A.f_orders_in)
  d_Schema___init__ : FD.Dfn K "__init__" "Schema.__init__" s_Schema___init__ ["self", "tables", "orders"] [.non] A.f_Schema___init__
  mk_Schema : Mk K A.Schema A.f_Schema___init__
  d_Schema_need_table : Dfn K "need_table" "Schema.need_table" s_Schema_need_table ["self", "table"] A.f_Schema_need_table
  m_Schema_need_table : Meth K A.Schema "need_table" A.f_Schema_need_table
  d_Schema_table_names : Dfn K "table_names" "Schema.table_names" s_Schema_table_names ["self"] A.f_Schema_table_names
  m_Schema_table_names : Meth K A.Schema "table_names" A.f_Schema_table_names
  d_Schema_columns_of : Dfn K "columns_of" "Schema.columns_of" s_Schema_columns_of ["self", "table"] A.f_Schema_columns_of
  m_Schema_columns_of : Meth K A.Schema "columns_of" A.f_Schema_columns_of
  d_Schema_kind_of : Dfn K "kind_of" "Schema.kind_of" s_Schema_kind_of ["self", "table", "column"] A.f_Schema_kind_of
  m_Schema_kind_of : Meth K A.Schema "kind_of" A.f_Schema_kind_of
  d_Schema_has_order : Dfn K "has_order" "Schema.has_order" s_Schema_has_order ["self", "table", "column"] A.f_Schema_has_order
  m_Schema_has_order : Meth K A.Schema "has_order" A.f_Schema_has_order
  d_Schema_fits : Dfn K "fits" "Schema.fits" s_Schema_fits ["self", "table", "row"] A.f_Schema_fits
  m_Schema_fits : Meth K A.Schema "fits" A.f_Schema_fits
  d_NoTable___init__ : Dfn K "__init__" "NoTable.__init__" s_NoTable___init__ ["self", "table"] A.f_NoTable___init__
  iC_NoTable : PySem.W.findIn K (.ref A.NoTable) "__init__" = some (some (.ref A.f_NoTable___init__))
  tI_NoTable : PySem.W.typeIn K (.ref A.f_NoTable___init__) = some (.type "function")
  d_NoOrder___init__ : Dfn K "__init__" "NoOrder.__init__" s_NoOrder___init__ ["self", "table", "column"] A.f_NoOrder___init__
  iC_NoOrder : PySem.W.findIn K (.ref A.NoOrder) "__init__" = some (some (.ref A.f_NoOrder___init__))
  tI_NoOrder : PySem.W.typeIn K (.ref A.f_NoOrder___init__) = some (.type "function")
  d_BadRow___init__ : Dfn K "__init__" "BadRow.__init__" s_BadRow___init__ ["self", "table"] A.f_BadRow___init__
  iC_BadRow : PySem.W.findIn K (.ref A.BadRow) "__init__" = some (some (.ref A.f_BadRow___init__))
  tI_BadRow : PySem.W.typeIn K (.ref A.f_BadRow___init__) = some (.type "function")
  d_NoRow___init__ : Dfn K "__init__" "NoRow.__init__" s_NoRow___init__ ["self", "table", "key"] A.f_NoRow___init__
  iC_NoRow : PySem.W.findIn K (.ref A.NoRow) "__init__" = some (some (.ref A.f_NoRow___init__))
  tI_NoRow : PySem.W.typeIn K (.ref A.f_NoRow___init__) = some (.type "function")
  d_NoMake___init__ : Dfn K "__init__" "NoMake.__init__" s_NoMake___init__ ["self", "number"] A.f_NoMake___init__
  iC_NoMake : PySem.W.findIn K (.ref A.NoMake) "__init__" = some (some (.ref A.f_NoMake___init__))
  tI_NoMake : PySem.W.typeIn K (.ref A.f_NoMake___init__) = some (.type "function")
  d_Over___init__ : Dfn K "__init__" "Over.__init__" s_Over___init__ ["self", "number"] A.f_Over___init__
  iC_Over : PySem.W.findIn K (.ref A.Over) "__init__" = some (some (.ref A.f_Over___init__))
  tI_Over : PySem.W.typeIn K (.ref A.f_Over___init__) = some (.type "function")
  d_Beaten___init__ : Dfn K "__init__" "Beaten.__init__" s_Beaten___init__ ["self", "table", "key", "by"] A.f_Beaten___init__
  iC_Beaten : PySem.W.findIn K (.ref A.Beaten) "__init__" = some (some (.ref A.f_Beaten___init__))
  tI_Beaten : PySem.W.typeIn K (.ref A.f_Beaten___init__) = some (.type "function")
  d_NoQuestion___init__ : Dfn K "__init__" "NoQuestion.__init__" s_NoQuestion___init__ ["self", "place"] A.f_NoQuestion___init__
  iC_NoQuestion : PySem.W.findIn K (.ref A.NoQuestion) "__init__" = some (some (.ref A.f_NoQuestion___init__))
  tI_NoQuestion : PySem.W.typeIn K (.ref A.f_NoQuestion___init__) = some (.type "function")
  d_NoColumn___init__ : Dfn K "__init__" "NoColumn.__init__" s_NoColumn___init__ ["self", "name"] A.f_NoColumn___init__
  iC_NoColumn : PySem.W.findIn K (.ref A.NoColumn) "__init__" = some (some (.ref A.f_NoColumn___init__))
  tI_NoColumn : PySem.W.typeIn K (.ref A.f_NoColumn___init__) = some (.type "function")
  d_Alike___init__ : Dfn K "__init__" "Alike.__init__" s_Alike___init__ ["self", "name"] A.f_Alike___init__
  iC_Alike : PySem.W.findIn K (.ref A.Alike) "__init__" = some (some (.ref A.f_Alike___init__))
  tI_Alike : PySem.W.typeIn K (.ref A.f_Alike___init__) = some (.type "function")
  d_WrongKind___init__ : Dfn K "__init__" "WrongKind.__init__" s_WrongKind___init__ ["self", "name"] A.f_WrongKind___init__
  iC_WrongKind : PySem.W.findIn K (.ref A.WrongKind) "__init__" = some (some (.ref A.f_WrongKind___init__))
  tI_WrongKind : PySem.W.typeIn K (.ref A.f_WrongKind___init__) = some (.type "function")
  d_NoStep___init__ : Dfn K "__init__" "NoStep.__init__" s_NoStep___init__ ["self", "place"] A.f_NoStep___init__
  iC_NoStep : PySem.W.findIn K (.ref A.NoStep) "__init__" = some (some (.ref A.f_NoStep___init__))
  tI_NoStep : PySem.W.typeIn K (.ref A.f_NoStep___init__) = some (.type "function")
  d_law_cell : Dfn K "_law_cell" "_law_cell" s_law_cell ["_law_script", "_law_k"] A.f_law_cell
  g_law_cell : mg "_law_cell" = some (.ref A.f_law_cell)
  d_law_draws : Dfn K "_law_draws" "_law_draws" s_law_draws ["_law_cell_here", "_law_many"] A.f_law_draws
  g_law_draws : mg "_law_draws" = some (.ref A.f_law_draws)
  d_law_names : Dfn K "_law_names" "_law_names" s_law_names ["_law_cell_here", "_law_many"] A.f_law_names
  g_law_names : mg "_law_names" = some (.ref A.f_law_names)
  d_law_schema : Dfn K "_law_schema" "_law_schema" s_law_schema ["_law_cell_here"] A.f_law_schema
  g_law_schema : mg "_law_schema" = some (.ref A.f_law_schema)
  d_law_made : Dfn K "_law_made" "_law_made" s_law_made ["_law_one", "_law_two", "_law_three"] A.f_law_made
  g_law_made : mg "_law_made" = some (.ref A.f_law_made)
  d_law_kinds : Dfn K "_law_kinds" "_law_kinds" s_law_kinds ["_law_e"] A.f_law_kinds
  g_law_kinds : mg "_law_kinds" = some (.ref A.f_law_kinds)
  d_law_values : Dfn K "_law_values" "_law_values" s_law_values ["_law_some"] A.f_law_values
  g_law_values : mg "_law_values" = some (.ref A.f_law_values)
  d_law_due : Dfn K "_law_due" "_law_due" s_law_due ["_law_one", "_law_two", "_law_three"] A.f_law_due
  g_law_due : mg "_law_due" = some (.ref A.f_law_due)
  d_law_asked : Dfn K "_law_asked" "_law_asked" s_law_asked ["_law_schema_here", "_law_way", "_law_table", "_law_thing"] A.f_law_asked
  g_law_asked : mg "_law_asked" = some (.ref A.f_law_asked)
  d_law_told : Dfn K "_law_told" "_law_told" s_law_told ["_law_schema_here", "_law_way", "_law_table", "_law_thing"] A.f_law_told
  g_law_told : mg "_law_told" = some (.ref A.f_law_told)
  d_law_strange : Dfn K "_law_strange" "_law_strange" s_law_strange ["_law_draw", "_law_names_here"] A.f_law_strange
  g_law_strange : mg "_law_strange" = some (.ref A.f_law_strange)
  d_law : Dfn K "law" "law" s_law ["_law_script"] A.f_law
  g_law : mg "law" = some (.ref A.f_law)
  c_Schema : Cls K A.Schema
  g_Schema : mg "Schema" = some (.ref A.Schema)
  n_Schema_columns : NoAttr K A.Schema "columns"
  n_Schema_kept_orders : NoAttr K A.Schema "kept_orders"
  g_StoreError : mg "StoreError" = some (.ref A.StoreError)
  g_NoSchema : mg "NoSchema" = some (.ref A.NoSchema)
  g_TooMany : mg "TooMany" = some (.ref A.TooMany)
  g_Fell : mg "Fell" = some (.ref A.Fell)
  g_NoTable : mg "NoTable" = some (.ref A.NoTable)
  g_NoOrder : mg "NoOrder" = some (.ref A.NoOrder)
  g_BadRow : mg "BadRow" = some (.ref A.BadRow)
  g_NoRow : mg "NoRow" = some (.ref A.NoRow)
  g_NoMake : mg "NoMake" = some (.ref A.NoMake)
  g_Over : mg "Over" = some (.ref A.Over)
  g_Beaten : mg "Beaten" = some (.ref A.Beaten)
  g_NoQuestion : mg "NoQuestion" = some (.ref A.NoQuestion)
  g_NoColumn : mg "NoColumn" = some (.ref A.NoColumn)
  g_Alike : mg "Alike" = some (.ref A.Alike)
  g_WrongKind : mg "WrongKind" = some (.ref A.WrongKind)
  g_NoStep : mg "NoStep" = some (.ref A.NoStep)
  g_NoPlan : mg "NoPlan" = some (.ref A.NoPlan)
  g_NoLine : mg "NoLine" = some (.ref A.NoLine)
  xF_NoSchema : PySem.W.excIn K A.NoSchema [.type "ValueError", .type "Exception", .type "BaseException", .type "object"] "ValueError.__new__" = true
  kc_NoSchema : PySem.W.keepIn K (.ref A.NoSchema) = true
  xg_NoSchema : PySem.W.findIn K (.ref A.NoSchema) "__getattribute__" = some (some (.builtin "BaseException.__getattribute__"))
  xk_NoSchema : PySem.W.findIn K (.ref A.NoSchema) "__getattr__" = some none
  xd_NoSchema : PySem.W.hasDictIn K A.NoSchema = true
  xa_NoSchema : PySem.W.findIn K (.ref A.NoSchema) "__class__" = some (some (.builtin "object.__class__"))
  xm_NoSchema : PySem.W.mroIn K A.NoSchema (.type "object") = some true
  xF_TooMany : PySem.W.excIn K A.TooMany [.type "ValueError", .type "Exception", .type "BaseException", .type "object"] "ValueError.__new__" = true
  kc_TooMany : PySem.W.keepIn K (.ref A.TooMany) = true
  xg_TooMany : PySem.W.findIn K (.ref A.TooMany) "__getattribute__" = some (some (.builtin "BaseException.__getattribute__"))
  xk_TooMany : PySem.W.findIn K (.ref A.TooMany) "__getattr__" = some none
  xd_TooMany : PySem.W.hasDictIn K A.TooMany = true
  xa_TooMany : PySem.W.findIn K (.ref A.TooMany) "__class__" = some (some (.builtin "object.__class__"))
  xm_TooMany : PySem.W.mroIn K A.TooMany (.type "object") = some true
  xF_Fell : PySem.W.excIn K A.Fell [.type "ValueError", .type "Exception", .type "BaseException", .type "object"] "ValueError.__new__" = true
  kc_Fell : PySem.W.keepIn K (.ref A.Fell) = true
  xg_Fell : PySem.W.findIn K (.ref A.Fell) "__getattribute__" = some (some (.builtin "BaseException.__getattribute__"))
  xk_Fell : PySem.W.findIn K (.ref A.Fell) "__getattr__" = some none
  xd_Fell : PySem.W.hasDictIn K A.Fell = true
  xa_Fell : PySem.W.findIn K (.ref A.Fell) "__class__" = some (some (.builtin "object.__class__"))
  xm_Fell : PySem.W.mroIn K A.Fell (.type "object") = some true
  xF_NoPlan : PySem.W.excIn K A.NoPlan [.type "ValueError", .type "Exception", .type "BaseException", .type "object"] "ValueError.__new__" = true
  kc_NoPlan : PySem.W.keepIn K (.ref A.NoPlan) = true
  xg_NoPlan : PySem.W.findIn K (.ref A.NoPlan) "__getattribute__" = some (some (.builtin "BaseException.__getattribute__"))
  xk_NoPlan : PySem.W.findIn K (.ref A.NoPlan) "__getattr__" = some none
  xd_NoPlan : PySem.W.hasDictIn K A.NoPlan = true
  xa_NoPlan : PySem.W.findIn K (.ref A.NoPlan) "__class__" = some (some (.builtin "object.__class__"))
  xm_NoPlan : PySem.W.mroIn K A.NoPlan (.type "object") = some true
  xF_NoLine : PySem.W.excIn K A.NoLine [.type "ValueError", .type "Exception", .type "BaseException", .type "object"] "ValueError.__new__" = true
  kc_NoLine : PySem.W.keepIn K (.ref A.NoLine) = true
  xg_NoLine : PySem.W.findIn K (.ref A.NoLine) "__getattribute__" = some (some (.builtin "BaseException.__getattribute__"))
  xk_NoLine : PySem.W.findIn K (.ref A.NoLine) "__getattr__" = some none
  xd_NoLine : PySem.W.hasDictIn K A.NoLine = true
  xa_NoLine : PySem.W.findIn K (.ref A.NoLine) "__class__" = some (some (.builtin "object.__class__"))
  xm_NoLine : PySem.W.mroIn K A.NoLine (.type "object") = some true
  oe_NoTable : Z.oexB K A.NoTable = true
  os_NoTable : PySem.W.findIn K (.ref A.NoTable) "__setattr__" = some (some (.builtin "object.__setattr__"))
  kc_NoTable : PySem.W.keepIn K (.ref A.NoTable) = true
  xg_NoTable : PySem.W.findIn K (.ref A.NoTable) "__getattribute__" = some (some (.builtin "BaseException.__getattribute__"))
  xk_NoTable : PySem.W.findIn K (.ref A.NoTable) "__getattr__" = some none
  xd_NoTable : PySem.W.hasDictIn K A.NoTable = true
  xa_NoTable : PySem.W.findIn K (.ref A.NoTable) "__class__" = some (some (.builtin "object.__class__"))
  xm_NoTable : PySem.W.mroIn K A.NoTable (.type "object") = some true
  xf_NoTable_table : PySem.W.findIn K (.ref A.NoTable) "table" = some none
  oe_NoOrder : Z.oexB K A.NoOrder = true
  os_NoOrder : PySem.W.findIn K (.ref A.NoOrder) "__setattr__" = some (some (.builtin "object.__setattr__"))
  kc_NoOrder : PySem.W.keepIn K (.ref A.NoOrder) = true
  xg_NoOrder : PySem.W.findIn K (.ref A.NoOrder) "__getattribute__" = some (some (.builtin "BaseException.__getattribute__"))
  xk_NoOrder : PySem.W.findIn K (.ref A.NoOrder) "__getattr__" = some none
  xd_NoOrder : PySem.W.hasDictIn K A.NoOrder = true
  xa_NoOrder : PySem.W.findIn K (.ref A.NoOrder) "__class__" = some (some (.builtin "object.__class__"))
  xm_NoOrder : PySem.W.mroIn K A.NoOrder (.type "object") = some true
  xf_NoOrder_table : PySem.W.findIn K (.ref A.NoOrder) "table" = some none
  xf_NoOrder_column : PySem.W.findIn K (.ref A.NoOrder) "column" = some none
  oe_BadRow : Z.oexB K A.BadRow = true
  os_BadRow : PySem.W.findIn K (.ref A.BadRow) "__setattr__" = some (some (.builtin "object.__setattr__"))
  kc_BadRow : PySem.W.keepIn K (.ref A.BadRow) = true
  xg_BadRow : PySem.W.findIn K (.ref A.BadRow) "__getattribute__" = some (some (.builtin "BaseException.__getattribute__"))
  xk_BadRow : PySem.W.findIn K (.ref A.BadRow) "__getattr__" = some none
  xd_BadRow : PySem.W.hasDictIn K A.BadRow = true
  xa_BadRow : PySem.W.findIn K (.ref A.BadRow) "__class__" = some (some (.builtin "object.__class__"))
  xm_BadRow : PySem.W.mroIn K A.BadRow (.type "object") = some true
  xf_BadRow_table : PySem.W.findIn K (.ref A.BadRow) "table" = some none
  oe_NoRow : Z.oexB K A.NoRow = true
  os_NoRow : PySem.W.findIn K (.ref A.NoRow) "__setattr__" = some (some (.builtin "object.__setattr__"))
  kc_NoRow : PySem.W.keepIn K (.ref A.NoRow) = true
  xg_NoRow : PySem.W.findIn K (.ref A.NoRow) "__getattribute__" = some (some (.builtin "BaseException.__getattribute__"))
  xk_NoRow : PySem.W.findIn K (.ref A.NoRow) "__getattr__" = some none
  xd_NoRow : PySem.W.hasDictIn K A.NoRow = true
  xa_NoRow : PySem.W.findIn K (.ref A.NoRow) "__class__" = some (some (.builtin "object.__class__"))
  xm_NoRow : PySem.W.mroIn K A.NoRow (.type "object") = some true
  xf_NoRow_table : PySem.W.findIn K (.ref A.NoRow) "table" = some none
  xf_NoRow_key : PySem.W.findIn K (.ref A.NoRow) "key" = some none
  oe_NoMake : Z.oexB K A.NoMake = true
  os_NoMake : PySem.W.findIn K (.ref A.NoMake) "__setattr__" = some (some (.builtin "object.__setattr__"))
  kc_NoMake : PySem.W.keepIn K (.ref A.NoMake) = true
  xg_NoMake : PySem.W.findIn K (.ref A.NoMake) "__getattribute__" = some (some (.builtin "BaseException.__getattribute__"))
  xk_NoMake : PySem.W.findIn K (.ref A.NoMake) "__getattr__" = some none
  xd_NoMake : PySem.W.hasDictIn K A.NoMake = true
  xa_NoMake : PySem.W.findIn K (.ref A.NoMake) "__class__" = some (some (.builtin "object.__class__"))
  xm_NoMake : PySem.W.mroIn K A.NoMake (.type "object") = some true
  xf_NoMake_number : PySem.W.findIn K (.ref A.NoMake) "number" = some none
  oe_Over : Z.oexB K A.Over = true
  os_Over : PySem.W.findIn K (.ref A.Over) "__setattr__" = some (some (.builtin "object.__setattr__"))
  kc_Over : PySem.W.keepIn K (.ref A.Over) = true
  xg_Over : PySem.W.findIn K (.ref A.Over) "__getattribute__" = some (some (.builtin "BaseException.__getattribute__"))
  xk_Over : PySem.W.findIn K (.ref A.Over) "__getattr__" = some none
  xd_Over : PySem.W.hasDictIn K A.Over = true
  xa_Over : PySem.W.findIn K (.ref A.Over) "__class__" = some (some (.builtin "object.__class__"))
  xm_Over : PySem.W.mroIn K A.Over (.type "object") = some true
  xf_Over_number : PySem.W.findIn K (.ref A.Over) "number" = some none
  oe_Beaten : Z.oexB K A.Beaten = true
  os_Beaten : PySem.W.findIn K (.ref A.Beaten) "__setattr__" = some (some (.builtin "object.__setattr__"))
  kc_Beaten : PySem.W.keepIn K (.ref A.Beaten) = true
  xg_Beaten : PySem.W.findIn K (.ref A.Beaten) "__getattribute__" = some (some (.builtin "BaseException.__getattribute__"))
  xk_Beaten : PySem.W.findIn K (.ref A.Beaten) "__getattr__" = some none
  xd_Beaten : PySem.W.hasDictIn K A.Beaten = true
  xa_Beaten : PySem.W.findIn K (.ref A.Beaten) "__class__" = some (some (.builtin "object.__class__"))
  xm_Beaten : PySem.W.mroIn K A.Beaten (.type "object") = some true
  xf_Beaten_table : PySem.W.findIn K (.ref A.Beaten) "table" = some none
  xf_Beaten_key : PySem.W.findIn K (.ref A.Beaten) "key" = some none
  xf_Beaten_by : PySem.W.findIn K (.ref A.Beaten) "by" = some none
  oe_NoQuestion : Z.oexB K A.NoQuestion = true
  os_NoQuestion : PySem.W.findIn K (.ref A.NoQuestion) "__setattr__" = some (some (.builtin "object.__setattr__"))
  kc_NoQuestion : PySem.W.keepIn K (.ref A.NoQuestion) = true
  xg_NoQuestion : PySem.W.findIn K (.ref A.NoQuestion) "__getattribute__" = some (some (.builtin "BaseException.__getattribute__"))
  xk_NoQuestion : PySem.W.findIn K (.ref A.NoQuestion) "__getattr__" = some none
  xd_NoQuestion : PySem.W.hasDictIn K A.NoQuestion = true
  xa_NoQuestion : PySem.W.findIn K (.ref A.NoQuestion) "__class__" = some (some (.builtin "object.__class__"))
  xm_NoQuestion : PySem.W.mroIn K A.NoQuestion (.type "object") = some true
  xf_NoQuestion_place : PySem.W.findIn K (.ref A.NoQuestion) "place" = some none
  oe_NoColumn : Z.oexB K A.NoColumn = true
  os_NoColumn : PySem.W.findIn K (.ref A.NoColumn) "__setattr__" = some (some (.builtin "object.__setattr__"))
  kc_NoColumn : PySem.W.keepIn K (.ref A.NoColumn) = true
  xg_NoColumn : PySem.W.findIn K (.ref A.NoColumn) "__getattribute__" = some (some (.builtin "BaseException.__getattribute__"))
  xk_NoColumn : PySem.W.findIn K (.ref A.NoColumn) "__getattr__" = some none
  xd_NoColumn : PySem.W.hasDictIn K A.NoColumn = true
  xa_NoColumn : PySem.W.findIn K (.ref A.NoColumn) "__class__" = some (some (.builtin "object.__class__"))
  xm_NoColumn : PySem.W.mroIn K A.NoColumn (.type "object") = some true
  xf_NoColumn_name : PySem.W.findIn K (.ref A.NoColumn) "name" = some none
  oe_Alike : Z.oexB K A.Alike = true
  os_Alike : PySem.W.findIn K (.ref A.Alike) "__setattr__" = some (some (.builtin "object.__setattr__"))
  kc_Alike : PySem.W.keepIn K (.ref A.Alike) = true
  xg_Alike : PySem.W.findIn K (.ref A.Alike) "__getattribute__" = some (some (.builtin "BaseException.__getattribute__"))
  xk_Alike : PySem.W.findIn K (.ref A.Alike) "__getattr__" = some none
  xd_Alike : PySem.W.hasDictIn K A.Alike = true
  xa_Alike : PySem.W.findIn K (.ref A.Alike) "__class__" = some (some (.builtin "object.__class__"))
  xm_Alike : PySem.W.mroIn K A.Alike (.type "object") = some true
  xf_Alike_name : PySem.W.findIn K (.ref A.Alike) "name" = some none
  oe_WrongKind : Z.oexB K A.WrongKind = true
  os_WrongKind : PySem.W.findIn K (.ref A.WrongKind) "__setattr__" = some (some (.builtin "object.__setattr__"))
  kc_WrongKind : PySem.W.keepIn K (.ref A.WrongKind) = true
  xg_WrongKind : PySem.W.findIn K (.ref A.WrongKind) "__getattribute__" = some (some (.builtin "BaseException.__getattribute__"))
  xk_WrongKind : PySem.W.findIn K (.ref A.WrongKind) "__getattr__" = some none
  xd_WrongKind : PySem.W.hasDictIn K A.WrongKind = true
  xa_WrongKind : PySem.W.findIn K (.ref A.WrongKind) "__class__" = some (some (.builtin "object.__class__"))
  xm_WrongKind : PySem.W.mroIn K A.WrongKind (.type "object") = some true
  xf_WrongKind_name : PySem.W.findIn K (.ref A.WrongKind) "name" = some none
  oe_NoStep : Z.oexB K A.NoStep = true
  os_NoStep : PySem.W.findIn K (.ref A.NoStep) "__setattr__" = some (some (.builtin "object.__setattr__"))
  kc_NoStep : PySem.W.keepIn K (.ref A.NoStep) = true
  xg_NoStep : PySem.W.findIn K (.ref A.NoStep) "__getattribute__" = some (some (.builtin "BaseException.__getattribute__"))
  xk_NoStep : PySem.W.findIn K (.ref A.NoStep) "__getattr__" = some none
  xd_NoStep : PySem.W.hasDictIn K A.NoStep = true
  xa_NoStep : PySem.W.findIn K (.ref A.NoStep) "__class__" = some (some (.builtin "object.__class__"))
  xm_NoStep : PySem.W.mroIn K A.NoStep (.type "object") = some true
  xf_NoStep_place : PySem.W.findIn K (.ref A.NoStep) "place" = some none
  xr_StoreError : PySem.W.readsIn K A.StoreError (.type "type") = true
  xs_StoreError : PySem.W.specialIn K (.ref A.StoreError) "__getattribute__" = some (some (.builtin "type.__getattribute__"))
  xi_StoreError : PySem.W.findCls K (.ref A.StoreError) (.type "type") "__init__" = some (.val (.builtin "ValueError.__init__"))
  sb_StoreError : PySem.W.subIn K (.ref A.StoreError) (.type "BaseException") = some true
  cb_StoreError : PySem.W.isClsIn K A.StoreError = true
  tb_StoreError : PySem.W.typeIn K (.ref A.StoreError) = some (.type "type")
  sb_NoSchema : PySem.W.subIn K (.ref A.NoSchema) (.type "BaseException") = some true
  cb_NoSchema : PySem.W.isClsIn K A.NoSchema = true
  tb_NoSchema : PySem.W.typeIn K (.ref A.NoSchema) = some (.type "type")
  sb_TooMany : PySem.W.subIn K (.ref A.TooMany) (.type "BaseException") = some true
  cb_TooMany : PySem.W.isClsIn K A.TooMany = true
  tb_TooMany : PySem.W.typeIn K (.ref A.TooMany) = some (.type "type")
  sb_Fell : PySem.W.subIn K (.ref A.Fell) (.type "BaseException") = some true
  cb_Fell : PySem.W.isClsIn K A.Fell = true
  tb_Fell : PySem.W.typeIn K (.ref A.Fell) = some (.type "type")
  sb_NoTable : PySem.W.subIn K (.ref A.NoTable) (.type "BaseException") = some true
  cb_NoTable : PySem.W.isClsIn K A.NoTable = true
  tb_NoTable : PySem.W.typeIn K (.ref A.NoTable) = some (.type "type")
  sb_NoOrder : PySem.W.subIn K (.ref A.NoOrder) (.type "BaseException") = some true
  cb_NoOrder : PySem.W.isClsIn K A.NoOrder = true
  tb_NoOrder : PySem.W.typeIn K (.ref A.NoOrder) = some (.type "type")
  sb_BadRow : PySem.W.subIn K (.ref A.BadRow) (.type "BaseException") = some true
  cb_BadRow : PySem.W.isClsIn K A.BadRow = true
  tb_BadRow : PySem.W.typeIn K (.ref A.BadRow) = some (.type "type")
  sb_NoRow : PySem.W.subIn K (.ref A.NoRow) (.type "BaseException") = some true
  cb_NoRow : PySem.W.isClsIn K A.NoRow = true
  tb_NoRow : PySem.W.typeIn K (.ref A.NoRow) = some (.type "type")
  sb_NoMake : PySem.W.subIn K (.ref A.NoMake) (.type "BaseException") = some true
  cb_NoMake : PySem.W.isClsIn K A.NoMake = true
  tb_NoMake : PySem.W.typeIn K (.ref A.NoMake) = some (.type "type")
  sb_Over : PySem.W.subIn K (.ref A.Over) (.type "BaseException") = some true
  cb_Over : PySem.W.isClsIn K A.Over = true
  tb_Over : PySem.W.typeIn K (.ref A.Over) = some (.type "type")
  sb_Beaten : PySem.W.subIn K (.ref A.Beaten) (.type "BaseException") = some true
  cb_Beaten : PySem.W.isClsIn K A.Beaten = true
  tb_Beaten : PySem.W.typeIn K (.ref A.Beaten) = some (.type "type")
  sb_NoQuestion : PySem.W.subIn K (.ref A.NoQuestion) (.type "BaseException") = some true
  cb_NoQuestion : PySem.W.isClsIn K A.NoQuestion = true
  tb_NoQuestion : PySem.W.typeIn K (.ref A.NoQuestion) = some (.type "type")
  sb_NoColumn : PySem.W.subIn K (.ref A.NoColumn) (.type "BaseException") = some true
  cb_NoColumn : PySem.W.isClsIn K A.NoColumn = true
  tb_NoColumn : PySem.W.typeIn K (.ref A.NoColumn) = some (.type "type")
  sb_Alike : PySem.W.subIn K (.ref A.Alike) (.type "BaseException") = some true
  cb_Alike : PySem.W.isClsIn K A.Alike = true
  tb_Alike : PySem.W.typeIn K (.ref A.Alike) = some (.type "type")
  sb_WrongKind : PySem.W.subIn K (.ref A.WrongKind) (.type "BaseException") = some true
  cb_WrongKind : PySem.W.isClsIn K A.WrongKind = true
  tb_WrongKind : PySem.W.typeIn K (.ref A.WrongKind) = some (.type "type")
  sb_NoStep : PySem.W.subIn K (.ref A.NoStep) (.type "BaseException") = some true
  cb_NoStep : PySem.W.isClsIn K A.NoStep = true
  tb_NoStep : PySem.W.typeIn K (.ref A.NoStep) = some (.type "type")
  sb_NoPlan : PySem.W.subIn K (.ref A.NoPlan) (.type "BaseException") = some true
  cb_NoPlan : PySem.W.isClsIn K A.NoPlan = true
  tb_NoPlan : PySem.W.typeIn K (.ref A.NoPlan) = some (.type "type")
  sb_NoLine : PySem.W.subIn K (.ref A.NoLine) (.type "BaseException") = some true
  cb_NoLine : PySem.W.isClsIn K A.NoLine = true
  tb_NoLine : PySem.W.typeIn K (.ref A.NoLine) = some (.type "type")
  xn : PySem.W.specialIn K (.builtin "object.__class__") "__get__" = some (some (.builtin "getset_descriptor.__get__"))
  xt : PySem.W.takesIn K (.builtin "object.__class__") = some true
  sub_NoTable_NoTable : PySem.W.subIn K (.ref A.NoTable) (.ref A.NoTable) = some true
  sub_NoColumn_NoColumn : PySem.W.subIn K (.ref A.NoColumn) (.ref A.NoColumn) = some true
  sub_NoColumn_NoTable : PySem.W.subIn K (.ref A.NoColumn) (.ref A.NoTable) = some false
  xtab : Z.excTab K A.StoreError [A.NoSchema, A.TooMany, A.Fell, A.NoTable, A.NoOrder, A.BadRow, A.NoRow, A.NoMake, A.Over, A.Beaten, A.NoQuestion, A.NoColumn, A.Alike, A.WrongKind, A.NoStep, A.NoPlan, A.NoLine] = true
  b_ValueError : mg "ValueError" = none
  b_abs : mg "abs" = none
  b_bool : mg "bool" = none
  b_enumerate : mg "enumerate" = none
  b_int : mg "int" = none
  b_isinstance : mg "isinstance" = none
  b_len : mg "len" = none
  b_list : mg "list" = none
  b_range : mg "range" = none
  b_str : mg "str" = none
  b_tuple : mg "tuple" = none
  b_zip : mg "zip" = none
  v_LETTERS : ∃ t, mg "LETTERS" = some (.str "abcdefghijklmnopqrstuvwxyz" t)
  v_MOST_COLUMNS : ∃ t, mg "MOST_COLUMNS" = some (.int (4) t)
  v_MOST_NUMBER : ∃ t, mg "MOST_NUMBER" = some (.int (1000000000) t)
  v_MOST_ORDERS : ∃ t, mg "MOST_ORDERS" = some (.int (4) t)
  v_MOST_SIGNS : ∃ t, mg "MOST_SIGNS" = some (.int (8) t)
  v_MOST_TABLES : ∃ t, mg "MOST_TABLES" = some (.int (4) t)
theorem Txt.oex_NoTable {K : PySem.W.Frag} {mg : Str → Option Value} {A : Adr} (T : Txt K mg A) : OexC K A.NoTable := Z.oexC_of T.oe_NoTable T.os_NoTable T.sb_NoTable T.tb_NoTable T.kc_NoTable
theorem Txt.xfc_NoTable {K : PySem.W.Frag} {mg : Str → Option Value} {A : Adr} (T : Txt K mg A) : XfC K A.NoTable := ⟨T.xg_NoTable, T.xk_NoTable, T.sb_NoTable, T.xd_NoTable⟩
theorem Txt.oex_NoOrder {K : PySem.W.Frag} {mg : Str → Option Value} {A : Adr} (T : Txt K mg A) : OexC K A.NoOrder := Z.oexC_of T.oe_NoOrder T.os_NoOrder T.sb_NoOrder T.tb_NoOrder T.kc_NoOrder
theorem Txt.xfc_NoOrder {K : PySem.W.Frag} {mg : Str → Option Value} {A : Adr} (T : Txt K mg A) : XfC K A.NoOrder := ⟨T.xg_NoOrder, T.xk_NoOrder, T.sb_NoOrder, T.xd_NoOrder⟩
theorem Txt.oex_BadRow {K : PySem.W.Frag} {mg : Str → Option Value} {A : Adr} (T : Txt K mg A) : OexC K A.BadRow := Z.oexC_of T.oe_BadRow T.os_BadRow T.sb_BadRow T.tb_BadRow T.kc_BadRow
theorem Txt.xfc_BadRow {K : PySem.W.Frag} {mg : Str → Option Value} {A : Adr} (T : Txt K mg A) : XfC K A.BadRow := ⟨T.xg_BadRow, T.xk_BadRow, T.sb_BadRow, T.xd_BadRow⟩
theorem Txt.oex_NoRow {K : PySem.W.Frag} {mg : Str → Option Value} {A : Adr} (T : Txt K mg A) : OexC K A.NoRow := Z.oexC_of T.oe_NoRow T.os_NoRow T.sb_NoRow T.tb_NoRow T.kc_NoRow
theorem Txt.xfc_NoRow {K : PySem.W.Frag} {mg : Str → Option Value} {A : Adr} (T : Txt K mg A) : XfC K A.NoRow := ⟨T.xg_NoRow, T.xk_NoRow, T.sb_NoRow, T.xd_NoRow⟩
theorem Txt.oex_NoMake {K : PySem.W.Frag} {mg : Str → Option Value} {A : Adr} (T : Txt K mg A) : OexC K A.NoMake := Z.oexC_of T.oe_NoMake T.os_NoMake T.sb_NoMake T.tb_NoMake T.kc_NoMake
theorem Txt.xfc_NoMake {K : PySem.W.Frag} {mg : Str → Option Value} {A : Adr} (T : Txt K mg A) : XfC K A.NoMake := ⟨T.xg_NoMake, T.xk_NoMake, T.sb_NoMake, T.xd_NoMake⟩
theorem Txt.oex_Over {K : PySem.W.Frag} {mg : Str → Option Value} {A : Adr} (T : Txt K mg A) : OexC K A.Over := Z.oexC_of T.oe_Over T.os_Over T.sb_Over T.tb_Over T.kc_Over
theorem Txt.xfc_Over {K : PySem.W.Frag} {mg : Str → Option Value} {A : Adr} (T : Txt K mg A) : XfC K A.Over := ⟨T.xg_Over, T.xk_Over, T.sb_Over, T.xd_Over⟩
theorem Txt.oex_Beaten {K : PySem.W.Frag} {mg : Str → Option Value} {A : Adr} (T : Txt K mg A) : OexC K A.Beaten := Z.oexC_of T.oe_Beaten T.os_Beaten T.sb_Beaten T.tb_Beaten T.kc_Beaten
theorem Txt.xfc_Beaten {K : PySem.W.Frag} {mg : Str → Option Value} {A : Adr} (T : Txt K mg A) : XfC K A.Beaten := ⟨T.xg_Beaten, T.xk_Beaten, T.sb_Beaten, T.xd_Beaten⟩
theorem Txt.oex_NoQuestion {K : PySem.W.Frag} {mg : Str → Option Value} {A : Adr} (T : Txt K mg A) : OexC K A.NoQuestion := Z.oexC_of T.oe_NoQuestion T.os_NoQuestion T.sb_NoQuestion T.tb_NoQuestion T.kc_NoQuestion
theorem Txt.xfc_NoQuestion {K : PySem.W.Frag} {mg : Str → Option Value} {A : Adr} (T : Txt K mg A) : XfC K A.NoQuestion := ⟨T.xg_NoQuestion, T.xk_NoQuestion, T.sb_NoQuestion, T.xd_NoQuestion⟩
theorem Txt.oex_NoColumn {K : PySem.W.Frag} {mg : Str → Option Value} {A : Adr} (T : Txt K mg A) : OexC K A.NoColumn := Z.oexC_of T.oe_NoColumn T.os_NoColumn T.sb_NoColumn T.tb_NoColumn T.kc_NoColumn
theorem Txt.xfc_NoColumn {K : PySem.W.Frag} {mg : Str → Option Value} {A : Adr} (T : Txt K mg A) : XfC K A.NoColumn := ⟨T.xg_NoColumn, T.xk_NoColumn, T.sb_NoColumn, T.xd_NoColumn⟩
theorem Txt.oex_Alike {K : PySem.W.Frag} {mg : Str → Option Value} {A : Adr} (T : Txt K mg A) : OexC K A.Alike := Z.oexC_of T.oe_Alike T.os_Alike T.sb_Alike T.tb_Alike T.kc_Alike
theorem Txt.xfc_Alike {K : PySem.W.Frag} {mg : Str → Option Value} {A : Adr} (T : Txt K mg A) : XfC K A.Alike := ⟨T.xg_Alike, T.xk_Alike, T.sb_Alike, T.xd_Alike⟩
theorem Txt.oex_WrongKind {K : PySem.W.Frag} {mg : Str → Option Value} {A : Adr} (T : Txt K mg A) : OexC K A.WrongKind := Z.oexC_of T.oe_WrongKind T.os_WrongKind T.sb_WrongKind T.tb_WrongKind T.kc_WrongKind
theorem Txt.xfc_WrongKind {K : PySem.W.Frag} {mg : Str → Option Value} {A : Adr} (T : Txt K mg A) : XfC K A.WrongKind := ⟨T.xg_WrongKind, T.xk_WrongKind, T.sb_WrongKind, T.xd_WrongKind⟩
theorem Txt.oex_NoStep {K : PySem.W.Frag} {mg : Str → Option Value} {A : Adr} (T : Txt K mg A) : OexC K A.NoStep := Z.oexC_of T.oe_NoStep T.os_NoStep T.sb_NoStep T.tb_NoStep T.kc_NoStep
theorem Txt.xfc_NoStep {K : PySem.W.Frag} {mg : Str → Option Value} {A : Adr} (T : Txt K mg A) : XfC K A.NoStep := ⟨T.xg_NoStep, T.xk_NoStep, T.sb_NoStep, T.xd_NoStep⟩
theorem Txt.exc_NoTable {K : PySem.W.Frag} {mg : Str → Option Value} {A : Adr} (T : Txt K mg A) : ExcC K A.NoTable := ⟨T.xg_NoTable, T.xk_NoTable, T.sb_NoTable, T.xd_NoTable, T.xa_NoTable, T.xn, T.xt, T.xm_NoTable⟩
theorem Txt.exc_NoOrder {K : PySem.W.Frag} {mg : Str → Option Value} {A : Adr} (T : Txt K mg A) : ExcC K A.NoOrder := ⟨T.xg_NoOrder, T.xk_NoOrder, T.sb_NoOrder, T.xd_NoOrder, T.xa_NoOrder, T.xn, T.xt, T.xm_NoOrder⟩
theorem Txt.exc_BadRow {K : PySem.W.Frag} {mg : Str → Option Value} {A : Adr} (T : Txt K mg A) : ExcC K A.BadRow := ⟨T.xg_BadRow, T.xk_BadRow, T.sb_BadRow, T.xd_BadRow, T.xa_BadRow, T.xn, T.xt, T.xm_BadRow⟩
theorem Txt.exc_NoRow {K : PySem.W.Frag} {mg : Str → Option Value} {A : Adr} (T : Txt K mg A) : ExcC K A.NoRow := ⟨T.xg_NoRow, T.xk_NoRow, T.sb_NoRow, T.xd_NoRow, T.xa_NoRow, T.xn, T.xt, T.xm_NoRow⟩
theorem Txt.exc_NoMake {K : PySem.W.Frag} {mg : Str → Option Value} {A : Adr} (T : Txt K mg A) : ExcC K A.NoMake := ⟨T.xg_NoMake, T.xk_NoMake, T.sb_NoMake, T.xd_NoMake, T.xa_NoMake, T.xn, T.xt, T.xm_NoMake⟩
theorem Txt.exc_Over {K : PySem.W.Frag} {mg : Str → Option Value} {A : Adr} (T : Txt K mg A) : ExcC K A.Over := ⟨T.xg_Over, T.xk_Over, T.sb_Over, T.xd_Over, T.xa_Over, T.xn, T.xt, T.xm_Over⟩
theorem Txt.exc_Beaten {K : PySem.W.Frag} {mg : Str → Option Value} {A : Adr} (T : Txt K mg A) : ExcC K A.Beaten := ⟨T.xg_Beaten, T.xk_Beaten, T.sb_Beaten, T.xd_Beaten, T.xa_Beaten, T.xn, T.xt, T.xm_Beaten⟩
theorem Txt.exc_NoQuestion {K : PySem.W.Frag} {mg : Str → Option Value} {A : Adr} (T : Txt K mg A) : ExcC K A.NoQuestion := ⟨T.xg_NoQuestion, T.xk_NoQuestion, T.sb_NoQuestion, T.xd_NoQuestion, T.xa_NoQuestion, T.xn, T.xt, T.xm_NoQuestion⟩
theorem Txt.exc_NoColumn {K : PySem.W.Frag} {mg : Str → Option Value} {A : Adr} (T : Txt K mg A) : ExcC K A.NoColumn := ⟨T.xg_NoColumn, T.xk_NoColumn, T.sb_NoColumn, T.xd_NoColumn, T.xa_NoColumn, T.xn, T.xt, T.xm_NoColumn⟩
theorem Txt.exc_Alike {K : PySem.W.Frag} {mg : Str → Option Value} {A : Adr} (T : Txt K mg A) : ExcC K A.Alike := ⟨T.xg_Alike, T.xk_Alike, T.sb_Alike, T.xd_Alike, T.xa_Alike, T.xn, T.xt, T.xm_Alike⟩
theorem Txt.exc_WrongKind {K : PySem.W.Frag} {mg : Str → Option Value} {A : Adr} (T : Txt K mg A) : ExcC K A.WrongKind := ⟨T.xg_WrongKind, T.xk_WrongKind, T.sb_WrongKind, T.xd_WrongKind, T.xa_WrongKind, T.xn, T.xt, T.xm_WrongKind⟩
theorem Txt.exc_NoStep {K : PySem.W.Frag} {mg : Str → Option Value} {A : Adr} (T : Txt K mg A) : ExcC K A.NoStep := ⟨T.xg_NoStep, T.xk_NoStep, T.sb_NoStep, T.xd_NoStep, T.xa_NoStep, T.xn, T.xt, T.xm_NoStep⟩
theorem Txt.exc_NoSchema {K : PySem.W.Frag} {mg : Str → Option Value} {A : Adr} (T : Txt K mg A) : ExcC K A.NoSchema := ⟨T.xg_NoSchema, T.xk_NoSchema, T.sb_NoSchema, T.xd_NoSchema, T.xa_NoSchema, T.xn, T.xt, T.xm_NoSchema⟩
theorem Txt.exc_TooMany {K : PySem.W.Frag} {mg : Str → Option Value} {A : Adr} (T : Txt K mg A) : ExcC K A.TooMany := ⟨T.xg_TooMany, T.xk_TooMany, T.sb_TooMany, T.xd_TooMany, T.xa_TooMany, T.xn, T.xt, T.xm_TooMany⟩
theorem Txt.exc_Fell {K : PySem.W.Frag} {mg : Str → Option Value} {A : Adr} (T : Txt K mg A) : ExcC K A.Fell := ⟨T.xg_Fell, T.xk_Fell, T.sb_Fell, T.xd_Fell, T.xa_Fell, T.xn, T.xt, T.xm_Fell⟩
theorem Txt.exc_NoPlan {K : PySem.W.Frag} {mg : Str → Option Value} {A : Adr} (T : Txt K mg A) : ExcC K A.NoPlan := ⟨T.xg_NoPlan, T.xk_NoPlan, T.sb_NoPlan, T.xd_NoPlan, T.xa_NoPlan, T.xn, T.xt, T.xm_NoPlan⟩
theorem Txt.exc_NoLine {K : PySem.W.Frag} {mg : Str → Option Value} {A : Adr} (T : Txt K mg A) : ExcC K A.NoLine := ⟨T.xg_NoLine, T.xk_NoLine, T.sb_NoLine, T.xd_NoLine, T.xa_NoLine, T.xn, T.xt, T.xm_NoLine⟩
local macro_rules | `(tactic| walk_at "z cls") => `(tactic| first | assumption | exact (‹Txt _ _ _›).c_Schema)
local macro_rules | `(tactic| walk_at "z attr") => `(tactic| first | (with_reducible exact (‹Txt _ _ _›).n_Schema_columns) | (with_reducible exact (‹Txt _ _ _›).n_Schema_kept_orders) | fail)
def schF (x0 : Addr) (x1 : V) : List (Str × V) := [("columns", .ref x0), ("kept_orders", x1)]
section
variable {x0 : Addr} {x1 : V} {y0 : Addr} {y1 : V}
theorem schF_g0 : (schF x0 x1).lookup ("columns" : Str) = some (.ref x0) := by unfold schF; exact Z.look_eq
theorem schF_p0 : putF ("columns" : Str) (.ref y0) (schF x0 x1) = schF y0 x1 := by unfold schF; first | exact Z.put_eq | rw [Z.put_eq]
theorem schF_g1 : (schF x0 x1).lookup ("kept_orders" : Str) = some (x1) := by unfold schF; rw [Z.look_ne (by decide +kernel)]; exact Z.look_eq
theorem schF_p1 : putF ("kept_orders" : Str) (y1) (schF x0 x1) = schF x0 y1 := by unfold schF; rw [Z.put_ne (by decide +kernel)]; first | exact Z.put_eq | rw [Z.put_eq]
theorem schF_no {m : Str} (h : (["columns", "kept_orders"] : List Str).all (fun f => !decide (m = f)) = true) : (schF x0 x1).lookup m = none := by
  simp only [List.all_cons, List.all_nil, Bool.and_true, Bool.and_eq_true, Bool.not_eq_true'] at h
  obtain ⟨h0, h1⟩ := h
  unfold schF
  rw [Z.look_ne h0, Z.look_ne h1]
  rfl
theorem schF_len : (schF x0 x1).length < 1000 := by unfold schF; simp only [List.length_cons, List.length_nil]; decide
end
local macro_rules | `(tactic| walk_at "z look") => `(tactic| first | (with_reducible exact schF_g0) | (with_reducible exact schF_g1) | rfl)
local macro_rules | `(tactic| walk_at "z put") => `(tactic| first | rw [schF_p0] | rw [schF_p1] | (simp (disch := decide +kernel) only [Z.put_ne, Z.put_eq, Z.put_nil]))
local macro_rules | `(tactic| walk_at "z no") => `(tactic| first | (with_reducible refine schF_no (by decide +kernel)) | rfl)
local macro_rules | `(tactic| walk_at "z small") => `(tactic| first | (with_reducible exact schF_len) | decide | (simp only [List.length_cons, List.length_nil]; decide) | omega)
variable {A : Adr}
theorem ix_listK {X : Cx} {K : PySem.W.Frag} (h : X.K = K) : IxR X (rIxL K) := by subst h; exact ix_list
theorem pg_tupK {X : Cx} {K : PySem.W.Frag} {es : List Expr} {k : Nat} {t : TGs} {n : Nat} {pos : Pos} (hK : X.K = K) (hc : X.calm = true) (h : PGs X es t)
    (hn : (assignEach es X.env).length = n := by rfl) (hst : (assignEach es X.env).findIdx? (·.1) = none := by rfl) : PG X (.Tuple es k pos) (gTup K n t) := by subst hK; exact pg_tup hc h hn hst
theorem call_list_ofK {X : Cx} {K : PySem.W.Frag} (h : X.K = K) : CallR X (.type "list") (fun xs H Q => ∃ p ys, xs = [.ref p] ∧ (SqL K H p ys ∨ SqT K H p ys) ∧ ∀ l, H l = none → Q (.ref l) (upd H l (.lst ys))) := by subst h; exact call_list_of
theorem call_tuple_ofK {X : Cx} {K : PySem.W.Frag} (h : X.K = K) : CallR X (.type "tuple") (fun xs H Q => ∃ p ys, xs = [.ref p] ∧ ((SqL K H p ys ∧ ∀ l, H l = none → Q (.ref l) (upd H l (.tup ys))) ∨ (SqT K H p ys ∧ Q (.ref p) H))) := by subst h; exact call_tuple_of
theorem ix_tupK {X : Cx} {K : PySem.W.Frag} (h : X.K = K) : IxR X (rIxT K) := by subst h; exact ix_tup
theorem call_isiK {X : Cx} {K : PySem.W.Frag} (h : X.K = K) : CallR X (.builtin "isinstance") (rIsi K) := by subst h; exact call_isi
/-! ### texts, names, kinds, values -/
def LET : Str := "abcdefghijklmnopqrstuvwxyz"
def InS (S z : Str) : Prop := ∀ c ∈ z.cps.toList, c ∈ S.cps.toList
instance {S z : Str} : Decidable (InS S z) := inferInstanceAs (Decidable (∀ c ∈ z.cps.toList, c ∈ S.cps.toList))
def Name (z : Str) : Prop := 1 ≤ z.length ∧ z.length ≤ 8 ∧ InS LET z
instance {z : Str} : Decidable (Name z) := inferInstanceAs (Decidable (_ ∧ _ ∧ _))
def Kind (z : Str) : Prop := z = "number" ∨ z = "word"
instance {z : Str} : Decidable (Kind z) := inferInstanceAs (Decidable (_ ∨ _))
def whole : PyData → Bool
  | .int _ => true
  | _ => false
def named : PyData → Bool
  | .str z => decide (Name z)
  | _ => false
def kinded : PyData → Bool
  | .str z => decide (Kind z)
  | _ => false
def numb : PyData → Bool
  | .int i => decide (-(10 ^ 9) ≤ i ∧ i ≤ 10 ^ 9)
  | _ => false
def SmallS : PyData → Prop
  | .str z => z.length ≤ 10000
  | _ => True
def valOk (k : Str) (d : PyData) : Bool := if k = "word" then named d else numb d
theorem iteB {b : Bool} {A B : Prop} (h1 : b = true → A) (h2 : b = false → B) : if b = true then A else B := by
  cases b
  · rw [if_neg Bool.false_ne_true]; exact h2 rfl
  · rw [if_pos rfl]; exact h1 rfl
theorem chain {r r' : R2} {ta tb tc : TE} {σ : L2.St} {H : Hp} {Q : VK} (h : ta σ H fun x H1 => tb σ H1 fun y H2 => r x y H2 fun z H3 => ∃ k, z = .bl k ∧ (if k = true then tc σ H3 fun w' H4 => r' y w' H4 Q else Q (.bl false) H3)) : tChain r r' ta tb tc σ H Q := h
theorem forS {te : TE} {g : TG} {ts : TS} {D : Ends} {σ : L2.St} {H : Hp} (h : te σ H fun v H1 => ∃ x, v = .str x ∧ ∃ W : Nat → Nat → L2.St → Hp → Prop, (∃ m, W 0 m σ H1) ∧ ∀ i m σ H, W i m σ H →
      ((Its x).stop i H ∧ D.nx σ H) ∨ ((Its x).go i H ∧ ∃ N : L2.St → Hp → Prop, (∀ σ' H', N σ' H' → ∃ m', m' < m ∧ W (i + 1) m' σ' H') ∧ ∀ v H', (Its x).yld i H v H' → g v σ H' fun σ2 H2 => ts { D with nx := N, ct := N, bk := D.nx } σ2 H2)) : tFor (iStr te) g ts D σ H := h
theorem tupItems {te : TE} {σ : L2.St} {H : Hp} {Q : VK} (h : te σ H fun x H1 => ZT.rItemsT2 x H1 Q) : ZT.tTupItems te σ H Q := h
theorem isN2 {v : V} {H : Hp} {Q : VK} (k : Q (.bl (decide (v = .non))) H) : (V.non = .non) ∧ Q (.bl (decide (v = .non))) H := ⟨rfl, k⟩
local macro_rules | `(tactic| walk_at "z1") => `(tactic| first | (with_reducible refine forS ?_) | (with_reducible refine chain ?_) | (with_reducible refine Z.forSq ?_) | (with_reducible refine Z.lcE ?_) | (with_reducible refine Z.iTupE ?_) | (with_reducible refine Z.iListE ?_) | (with_reducible refine Z.iEnumE ?_) | (with_reducible refine Z.iZipAE ?_) | (with_reducible refine Z.din ?_) | (with_reducible refine Z.dnotin ?_))
theorem allIn_of {S z : Str} (h : ∀ j c, j < z.cps.size → z.cps[j]? = some c → c ∈ S.cps.toList) : InS S z := fun c hc => by
  obtain ⟨j, hj, e⟩ := List.mem_iff_getElem.mp hc
  exact h j c (by simpa using hj) (by rw [← Array.getElem?_toList, List.getElem?_eq_getElem hj, e])
theorem let_lt : ∀ c ∈ LET.cps.toList, c < 123 := by decide +kernel
theorem Name.ok {z : Str} (n : Name z) : PyData.strOk z = true := by
  unfold PyData.strOk
  rw [← Array.all_toList, List.all_eq_true]
  intro c hc
  have := let_lt c (n.2.2 c hc)
  exact decide_eq_true (by omega)
theorem whole_ty (d : PyData) : whole d = (Z.isTy "int" d && !Z.isTy "bool" d) := by cases d <;> rfl
theorem named_no {d : PyData} (h : Z.isTy "str" d = false) : named d = false := by cases d <;> first | rfl | exact absurd h (by simp [Z.isTy, Z.tyN])
theorem kinded_no {d : PyData} (h : Z.isTy "str" d = false) : kinded d = false := by cases d <;> first | rfl | exact absurd h (by simp [Z.isTy, Z.tyN])
theorem isStr {d : PyData} (h : Z.isTy "str" d = true) : ∃ z, d = .str z := by cases d <;> first | exact ⟨_, rfl⟩ | exact absurd h (by simp [Z.isTy, Z.tyN])
theorem in2 (z a b : Str) : decide (z = a ∨ z = b) = inV (.str z) [.str a, .str b] := by
  rw [Bool.eq_iff_iff]
  simp only [inV, List.any_cons, List.any_nil, Bool.or_false, eqV, Bool.or_eq_true, decide_eq_true_eq, beq_iff_eq]
  exact ⟨fun h => h.imp Eq.symm Eq.symm, fun h => h.imp Eq.symm Eq.symm⟩
def sp_is_whole (K : PySem.W.Frag) (A : Adr) : Sp := fun vs H Q _ => ∃ v d, vs = [v] ∧ Z.DX K H v d ∧ Q (.bl (whole d)) H
def sp_is_name (K : PySem.W.Frag) (A : Adr) : Sp := fun vs H Q _ => ∃ v d, vs = [v] ∧ Z.DX K H v d ∧ SmallS d ∧ Q (.bl (named d)) H
def sp_is_kind (K : PySem.W.Frag) (A : Adr) : Sp := fun vs H Q _ => ∃ v d, vs = [v] ∧ Z.DX K H v d ∧ ∀ H', Same H H' → Q (.bl (kinded d)) H'
def sp_is_value (K : PySem.W.Frag) (A : Adr) : Sp := fun vs H Q _ => ∃ k v d, vs = [.str k, v] ∧ Z.DX K H v d ∧ SmallS d ∧ Q (.bl (valOk k d)) H
theorem ok_is_whole (T : Txt K mg A) : ∃ fd, FnOk P w K mg base CX0 1 A.f_is_whole fd ["thing"] (sp_is_whole K A) ∧ Binds K fd ["thing"] [] := by
  have ⟨fd, F, b⟩ := T.d_is_whole
  refine ⟨fd, F.ok sc_is_whole (fun vs H Q E h => ?_) (fun cdv Ar outer s H vs Q E hr h => ?_), b⟩
  · obtain ⟨v, d, rfl, _⟩ := h
    rfl
  · obtain ⟨v, d, rfl, h, k⟩ := h
    have nd := sc_is_whole.nd
    have hu := hu_of hr
    refine ⟨_, (pss_one (ps_ret (pe_and (pe_callB call_isi (by rfl) T.b_isinstance (by decide +kernel) (pa_cons (pv 0) (pa_cons (pe_bltn (v := .ty "int") (u := .type "int") (by rfl) T.b_int (by decide +kernel) rfl) pa_nil))) (pe_one (pe_not (pe_callB call_isi (by rfl) T.b_isinstance (by decide +kernel) (pa_cons (pv 0) (pa_cons (pe_bltn (v := .ty "bool") (u := .type "bool") (by rfl) T.b_bool (by decide +kernel) rfl) pa_nil)))))))), ?_⟩
    simp only [cxOf, Cx.nox, L2.start, List.map_cons, List.map_nil, List.length_cons, List.length_nil, Nat.reduceAdd, Nat.reduceSub, List.replicate, List.cons_append, List.nil_append]
    walk_at "z"
    refine Z.isiX h (Same.refl _) (by simp) ?_
    rw [whole_ty] at k
    walk_at "z"
    refine iteB (fun e => ?_) (fun e => ?_)
    · walk_at "z"
      refine Z.isiX h (Same.refl _) (by simp) ?_
      walk_at "z"
      rw [e] at k
      exact k
    · rw [e] at k
      exact k
theorem ok_is_name (T : Txt K mg A) : ∃ fd, FnOk P w K mg base CX0 1 A.f_is_name fd ["thing"] (sp_is_name K A) ∧ Binds K fd ["thing"] [] := by
  have ⟨fd, F, b⟩ := T.d_is_name
  refine ⟨fd, F.ok sc_is_name (fun vs H Q E h => ?_) (fun cdv Ar outer s H vs Q E hr h => ?_), b⟩
  · obtain ⟨v, d, rfl, _⟩ := h
    rfl
  · obtain ⟨v, d, rfl, h, hz, k⟩ := h
    have nd := sc_is_name.nd
    have hu := hu_of hr
    refine ⟨_, (pss_cons (ps_if (PW.pt (pw_or (pt_not (pt_val (pe_callB call_isi (by rfl) T.b_isinstance (by decide +kernel) (pa_cons (pv 0) (pa_cons (pe_bltn (v := .ty "str") (u := .type "str") (by rfl) T.b_str (by decide +kernel) rfl) pa_nil))))) (pw_or1 (pt_not (pt_chain op_le op_le pe_int (pe_callB call_len_str (by rfl) T.b_len PySem.boot_len (pa_cons (pv 0) pa_nil)) (Z.pe_gint rfl T.v_MOST_SIGNS)))))) (pss_one (ps_ret pe_bl)) pss_nil)
      (pss_cons (ps_for PassesOwn.never rfl (pi_str (pv 0)) (pg_name (i := 1) nd rfl (Or.inl rfl)) (pss_one (ps_if (pt_cmpR op_notIn_sign (pv 1) (Z.pe_gstr rfl T.v_LETTERS) (by rfl)) (pss_one (ps_ret pe_bl)) pss_nil)))
      (pss_one (ps_ret pe_bl)))), ?_⟩
    simp only [cxOf, Cx.nox, L2.start, List.map_cons, List.map_nil, List.length_cons, List.length_nil, Nat.reduceAdd, Nat.reduceSub, List.replicate, List.cons_append, List.nil_append]
    walk_at "z"
    refine Z.isiX h (Same.refl _) (by simp) ?_
    walk_at "z"
    refine iteB (fun e => ?_) (fun e => ?_)
    · have e' : Z.isTy "str" d = false := by simpa using e
      walk_at "z"
      rw [named_no e'] at k
      exact k
    · have e' : Z.isTy "str" d = true := by simpa using e
      obtain ⟨z, rfl⟩ := isStr e'
      have hz : z.length ≤ 10000 := hz
      cases Z.dx_str h
      have k : Q (.bl (decide (Name z))) H := k
      walk_at "z"
      refine ⟨z, rfl, Nat.le_trans hz (by decide), ?_⟩
      walk_at "z"
      refine Z.iteD (fun h1 => ?_) (fun h1 => ?_)
      · walk_at "z"
        refine Z.iteN (fun h2 => ?_) (fun h2 => ?_)
        · walk_at "z"
          rw [show decide (Name z) = false from decide_eq_false fun n => h2 (by have := n.2.1; omega)] at k
          exact k
        · walk_at "z"
          refine ⟨z, rfl, for_it walk_str (fun i σ H' => H' = H ∧ (∃ v, σ = [some (.str z), v]) ∧ ∀ j c, j < i → z.cps[j]? = some c → c ∈ LET.cps.toList) ⟨rfl, ⟨_, rfl⟩, fun j c h => absurd h (Nat.not_lt_zero _)⟩ (fun _ _ _ _ _ => True.intro) ?_ ?_⟩
          · rintro i x σ H' H'' hi ⟨rfl, ⟨v, rfl⟩, hall⟩ ⟨rfl, c, hc, rfl⟩
            walk_at "z"
            refine ⟨c, _, rfl, rfl, ?_⟩
            walk_at "z"
            refine Z.iteN (fun h3 => ?_) (fun h3 => ?_)
            · walk_at "z"
              rw [show decide (Name z) = false from decide_eq_false fun n => h3 (n.2.2 c (by rw [Array.mem_toList_iff]; exact Array.mem_of_getElem? hc))] at k
              exact k
            · walk_at "z"
              refine ⟨rfl, ⟨_, rfl⟩, fun j c' hj hc' => ?_⟩
              by_cases e : j = i
              · subst e
                rw [hc] at hc'
                cases hc'
                exact h3
              · exact hall j c' (by omega) hc'
          · rintro σ H' ⟨rfl, ⟨v, rfl⟩, hall⟩
            walk_at "z"
            rw [show decide (Name z) = true from decide_eq_true ⟨by omega, by omega, allIn_of hall⟩] at k
            exact k
      · walk_at "z"
        rw [show decide (Name z) = false from decide_eq_false fun n => h1 (by have := n.1; omega)] at k
        exact k
theorem ok_is_kind (T : Txt K mg A) : ∃ fd, FnOk P w K mg base CX0 1 A.f_is_kind fd ["thing"] (sp_is_kind K A) ∧ Binds K fd ["thing"] [] := by
  have ⟨fd, F, b⟩ := T.d_is_kind
  refine ⟨fd, F.ok sc_is_kind (fun vs H Q E h => ?_) (fun cdv Ar outer s H vs Q E hr h => ?_), b⟩
  · obtain ⟨v, d, rfl, _⟩ := h
    rfl
  · obtain ⟨v, d, rfl, h, k⟩ := h
    have nd := sc_is_kind.nd
    have hu := hu_of hr
    refine ⟨_, (pss_one (ps_ret (pe_and (pe_callB call_isi (by rfl) T.b_isinstance (by decide +kernel) (pa_cons (pv 0) (pa_cons (pe_bltn (v := .ty "str") (u := .type "str") (by rfl) T.b_str (by decide +kernel) rfl) pa_nil))) (pe_one (pe_cmpR op_in_seq (pv 0) (pe_tup (pa_cons pe_str (pa_cons pe_str pa_nil))) (by rfl)))))), ?_⟩
    simp only [cxOf, Cx.nox, L2.start, List.map_cons, List.map_nil, List.length_cons, List.length_nil, Nat.reduceAdd, Nat.reduceSub, List.replicate, List.cons_append, List.nil_append]
    walk_at "z"
    refine Z.isiX h (Same.refl _) (by simp) ?_
    walk_at "z"
    refine iteB (fun e => ?_) (fun e => ?_)
    · obtain ⟨z, rfl⟩ := isStr e
      cases Z.dx_str h
      walk_at "z"
      refine ⟨by simp only [List.length_cons, List.length_nil]; decide, fun p hp => ?_⟩
      refine ⟨p, _, rfl, .inr (SqT.of upd_same), rfl, rfl, ?_⟩
      have := k _ (Z.same_new (o := .tup [.str "number", .str "word"]) hp)
      rw [show kinded (.str z) = inV (.str z) [.str "number", .str "word"] from in2 z _ _] at this
      exact this
    · rw [kinded_no e] at k
      exact k _ (Same.refl _)
theorem ok_is_value (T : Txt K mg A) : ∃ fd, FnOk P w K mg base CX0 2 A.f_is_value fd ["kind", "thing"] (sp_is_value K A) ∧ Binds K fd ["kind", "thing"] [] := by
  have ⟨fd, F, b⟩ := T.d_is_value
  refine ⟨fd, F.ok sc_is_value (fun vs H Q E h => ?_) (fun cdv Ar outer s H vs Q E hr h => ?_), b⟩
  · obtain ⟨kd, v, d, rfl, _⟩ := h
    rfl
  · obtain ⟨kd, v, d, rfl, h, hz, k⟩ := h
    have nd := sc_is_value.nd
    have hu := hu_of hr
    have ⟨fd_is_name, G_is_name, b_is_name⟩ := ok_is_name (P := P) (w := w) (base := base) T
    have ⟨fd_is_whole, G_is_whole, b_is_whole⟩ := ok_is_whole (P := P) (w := w) (base := base) T
    refine ⟨_, (pss_cons (ps_if (pt_cmpR op_eq (pv 0) pe_str (nomark _)) (pss_one (ps_ret (pe_call G_is_name (hr.mono (by decide)) (by rfl) T.g_is_name T.d_is_name.kp b_is_name .nil pass0 (pa_cons (pv 1) pa_nil)))) pss_nil)
      (pss_one (ps_ret (pe_and (pe_call G_is_whole (hr.mono (by decide)) (by rfl) T.g_is_whole T.d_is_whole.kp b_is_whole .nil pass0 (pa_cons (pv 1) pa_nil)) (pe_one (pe_chain op_le op_le (pe_op op_sub pe_int (Z.pe_gint rfl T.v_MOST_NUMBER)) (pv 1) (Z.pe_gint rfl T.v_MOST_NUMBER))))))), ?_⟩
    simp only [cxOf, Cx.nox, L2.start, List.map_cons, List.map_nil, List.length_cons, List.length_nil, Nat.reduceAdd, Nat.reduceSub, List.replicate, List.cons_append, List.nil_append]
    walk_at "z"
    refine Z.iteD (fun h1 => ?_) (fun h1 => ?_)
    · have e : kd = "word" := V.str.inj h1
      subst e
      walk_at "z"
      exact ⟨v, d, rfl, h, hz, k⟩
    · have e : kd ≠ "word" := fun e => h1 (by rw [e])
      rw [show valOk kd d = numb d from if_neg e] at k
      walk_at "z"
      refine ⟨v, d, rfl, h, ?_⟩
      walk_at "z"
      cases d with
      | int i =>
        cases Z.dx_int h
        refine Z.iteTd rfl ?_
        have k : Q (.bl (decide (-(10 ^ 9) ≤ i ∧ i ≤ 10 ^ 9))) H := k
        walk_at "z"
        refine Z.iteD (fun h1 => ?_) (fun h1 => ?_)
        · walk_at "z"
          rw [show decide (-(10 ^ 9) ≤ i ∧ i ≤ 10 ^ 9) = decide (i ≤ 1000000000) from decide_eq_decide.mpr ⟨fun h => by omega, fun h => by omega⟩] at k
          exact k
        · walk_at "z"
          rw [show decide (-(10 ^ 9) ≤ i ∧ i ≤ 10 ^ 9) = false from decide_eq_false fun h => h1 (by omega)] at k
          exact k
      | none => exact k
      | bool b => exact k
      | str z => exact k
      | list xs => exact k
      | tuple xs => exact k
      | dict xs => exact k

/-! ### the law's draws and names -/
def sp_law_cell (K : PySem.W.Frag) (A : Adr) : Sp := fun vs H Q _ => ∃ (a : Addr) (ns : List Int) (i : Nat), vs = [.ref a, .int i] ∧ SqL K H a (ns.map V.int) ∧ ns.length ≤ 63 ∧ i ≤ 1000 ∧ ∀ c, Q (.int c) H
theorem ok_law_cell (T : Txt K mg A) : ∃ fd, FnOk P w K mg base CX0 1 A.f_law_cell fd ["_law_script", "_law_k"] (sp_law_cell K A) ∧ Binds K fd ["_law_script", "_law_k"] [] := by
  have ⟨fd, F, b⟩ := T.d_law_cell
  refine ⟨fd, F.ok sc_law_cell (fun vs H Q E h => ?_) (fun cdv Ar outer s H vs Q E hr h => ?_), b⟩
  · obtain ⟨a, ns, i, rfl, _⟩ := h
    rfl
  · obtain ⟨a, ns, i, rfl, hS, hl, hi, k⟩ := h
    have nd := sc_law_cell.nd
    have hu := hu_of hr
    refine ⟨_, (pss_cons (ps_if (pt_cmpR op_lt (pv 1) (pe_callB call_len_seq (by rfl) T.b_len PySem.boot_len (pa_cons (pv 0) pa_nil)) (nomark _)) (pss_one (ps_ret (pe_ix ix_list (pv 0) (pv 1) (fun _ _ => rfl)))) pss_nil)
      (pss_one (ps_ret (pe_op op_add (pe_op op_mul pe_int (pv 1)) pe_int)))), ?_⟩
    simp only [cxOf, Cx.nox, L2.start, List.map_cons, List.map_nil, List.length_cons, List.length_nil, Nat.reduceAdd, Nat.reduceSub, List.replicate, List.cons_append, List.nil_append]
    walk_at "z"
    refine Z.lenSeq hS ?_
    walk_at "z"
    rw [List.length_map]
    refine Z.iteD (fun h1 => ?_) (fun h1 => ?_)
    · walk_at "z"
      have e : ns[i]? = some (ns[i]'(by omega)) := List.getElem?_eq_getElem _
      refine Z.ixL (i := i) hS (by rw [List.getElem?_map, e]; rfl) ?_
      exact k _
    · walk_at "z"
      exact k _
def sp_law_draws (K : PySem.W.Frag) (A : Adr) : Sp := fun vs H Q _ => ∃ (F : Hp) (c : Int) (n : Nat), vs = [.int c, .int n] ∧ Same F H ∧ n ≤ 100 ∧ ∀ F' H' v (xs : List Int), xs.length = n → (∀ x ∈ xs, 0 ≤ x ∧ x < 10 ^ 10) → Z.Gr F H F' H' → Dp K F' v (.list (xs.map .int)) → Q v H'
theorem ok_law_draws (T : Txt K mg A) : ∃ fd, FnOk P w K mg base CX0 1 A.f_law_draws fd ["_law_cell_here", "_law_many"] (sp_law_draws K A) ∧ Binds K fd ["_law_cell_here", "_law_many"] [] := by
  have ⟨fd, F, b⟩ := T.d_law_draws
  refine ⟨fd, F.ok sc_law_draws (fun vs H Q E h => ?_) (fun cdv Ar outer s H vs Q E hr h => ?_), b⟩
  · obtain ⟨F0, c, n, rfl, _⟩ := h
    rfl
  · obtain ⟨F0, c, n, rfl, sm, hn, k⟩ := h
    have nd := sc_law_draws.nd
    have hu := hu_of hr
    refine ⟨_, (pss_cons (ps_set (i := 2) nd rfl (Or.inl rfl) (pe_lst pa_nil))
      (pss_cons (ps_set (i := 3) nd rfl (Or.inl rfl) (pe_callB call_abs (by rfl) T.b_abs (by decide +kernel) (pa_cons (pv 0) pa_nil)))
      (pss_cons (ps_set (i := 4) nd rfl (Or.inl rfl) (pe_op op_mod (pv 3) pe_int))
      (pss_cons (ps_for PassesOwn.never rfl (pi_range1 rfl T.b_range (pa_cons (pv 1) pa_nil)) (pg_name (i := 5) nd rfl (Or.inl rfl)) (pss_cons (ps_set (i := 4) nd rfl (Or.inl rfl) (pe_op op_mod (pe_op op_add (pe_op op_add (pe_op op_mul (pv 4) pe_int) (pe_op op_mul pe_int (pv 5))) pe_int) pe_int))
      (pss_one (ps_if (pt_cmpR op_ge (pv 3) (pe_op op_pow pe_int pe_int) (nomark _)) (pss_cons (ps_expr (pe_bm PySem.F.plainAttrs_list PySem.F.slot_list_append PySem.F.type_list_append mt_append (pv 2) (pa_cons (pe_op op_mod (pv 3) (pe_op op_pow pe_int pe_int)) pa_nil)))
      (pss_one (ps_set (i := 3) nd rfl (Or.inl rfl) (pe_op op_fdivW (pv 3) (pe_op op_pow pe_int pe_int))))) (pss_one (ps_expr (pe_bm PySem.F.plainAttrs_list PySem.F.slot_list_append PySem.F.type_list_append mt_append (pv 2) (pa_cons (pe_op op_mod (pe_op op_mul (pv 4) (pe_op op_add (pv 4) pe_int)) pe_int) pa_nil))))))))
      (pss_one (ps_ret (pv 2))))))), ?_⟩
    simp only [cxOf, Cx.nox, L2.start, List.map_cons, List.map_nil, List.length_cons, List.length_nil, Nat.reduceAdd, Nat.reduceSub, List.replicate, List.cons_append, List.nil_append]
    walk_at "z"
    refine ⟨by simp only [List.length_cons, List.length_nil]; decide, fun q hq => ?_⟩
    have W0 := (Z.Ws.init sm).new (o := .lst []) hq
    walk_at "z"
    refine ⟨c, rfl, ?_⟩
    walk_at "z"
    refine ⟨(n : Int), rfl, by omega, by omega, ?_⟩
    rw [Int.toNat_natCast]
    refine (for_range (lo := 0) (n := n) (fun i σ H' => ∃ (xs : List Int) (l m : Int) (v : Option V), σ = [some (.int c), some (.int n), some (.ref q), some (.int l), some (.int m), v] ∧ 0 ≤ l ∧ 0 ≤ m ∧ m < 2147483647 ∧ xs.length = i ∧ (∀ x ∈ xs, 0 ≤ x ∧ x < 10 ^ 10) ∧ Z.Ws [(q, .lst (xs.map .int))] F0 H F0 H')
      ⟨[], _, _, none, rfl, by split <;> omega, Int.emod_nonneg _ (by decide), Int.emod_lt_of_pos _ (by decide), rfl, fun x h => (nomatch h), W0⟩ ?_ ?_)
    · rintro i σ H1 hi ⟨xs, l, m, v, rfl, l0, m0, m1, hx, pos, W⟩
      walk_at "z"
      have p1 : (0 : Int) < 10 ^ Int.toNat 10 := by decide
      refine Z.iteD (fun h1 => ?_) (fun h1 => ?_)
      · walk_at "z"
        refine ⟨.inl ⟨rfl, _, SqL.of (W.at 0 rfl)⟩, ?_⟩
        walk_at "z"
        refine Z.appW W 0 rfl (fun H' W' => ?_) (by rw [List.length_map]; omega)
        walk_at "z"
        refine ⟨xs ++ [l % 10 ^ Int.toNat 10], _, _, _, rfl, Int.ediv_nonneg l0 (Int.le_of_lt p1), Int.emod_nonneg _ (by decide), Int.emod_lt_of_pos _ (by decide), by simp; omega, fun x hx => ?_, by rw [List.map_append]; exact W'⟩
        rcases List.mem_append.mp hx with h | h
        · exact pos x h
        · rw [List.mem_singleton.mp h]; exact ⟨Int.emod_nonneg _ (by decide), Int.emod_lt_of_pos _ (by decide)⟩
      · walk_at "z"
        refine ⟨.inl ⟨rfl, _, SqL.of (W.at 0 rfl)⟩, ?_⟩
        walk_at "z"
        refine Z.appW W 0 rfl (fun H' W' => ?_) (by rw [List.length_map]; omega)
        walk_at "z"
        refine ⟨xs ++ [_], _, _, _, rfl, l0, Int.emod_nonneg _ (by decide), Int.emod_lt_of_pos _ (by decide), by simp; omega, fun x hx => ?_, by rw [List.map_append]; exact W'⟩
        rcases List.mem_append.mp hx with h | h
        · exact pos x h
        · rw [List.mem_singleton.mp h]; exact ⟨Int.emod_nonneg _ (by decide), Int.lt_trans (Int.emod_lt_of_pos _ (by decide)) (by decide)⟩
    · rintro σ H1 ⟨xs, l, m, v, rfl, l0, m0, m1, hx, pos, W⟩
      walk_at "z"
      obtain ⟨F', W', s', g'⟩ := W.frz 0 rfl
      exact k F' H1 _ xs hx pos W'.g (.lst (SqL.of g') (Z.dpa_of_ints xs))
/-! names: alike but at one place -/
def nmSign (xs : List Int) (t k j : Nat) : Int := (xs.getD (2 + j) 0 + k * (if j = t then 1 else 0)) % 26
def nmCodes (xs : List Int) (sz t k : Nat) : List Nat := (List.range sz).map fun j => 97 + (nmSign xs t k j).toNat
def nmOf (xs : List Int) (sz t k : Nat) : Str := ⟨(nmCodes xs sz t k).toArray⟩
theorem nmSign_lt (xs : List Int) (t k j : Nat) : 0 ≤ nmSign xs t k j ∧ nmSign xs t k j < 26 := ⟨Int.emod_nonneg _ (by decide), Int.emod_lt_of_pos _ (by decide)⟩
theorem let_in : ∀ n : Nat, n < 26 → LET.cps.toList[n]? = some (97 + n) := by decide +kernel
theorem nm_name {xs : List Int} {sz t k : Nat} (h1 : 1 ≤ sz) (h8 : sz ≤ 8) : Name (nmOf xs sz t k) := by
  have e : (nmOf xs sz t k).cps.toList = nmCodes xs sz t k := rfl
  have l : (nmOf xs sz t k).length = sz := by
    show (nmCodes xs sz t k).toArray.size = sz
    simp [nmCodes]
  refine ⟨by omega, by omega, fun c hc => ?_⟩
  rw [e] at hc
  obtain ⟨j, hj, rfl⟩ := List.mem_map.mp hc
  have := nmSign_lt xs t k j
  exact List.mem_of_getElem? (let_in (nmSign xs t k j).toNat (by omega))
theorem nm_ne {xs : List Int} {sz t k k' : Nat} (ht : t < sz) (hk : k < k') (hk' : k' < 26) : nmOf xs sz t k ≠ nmOf xs sz t k' := by
  intro e
  have e1 : nmCodes xs sz t k = nmCodes xs sz t k' := congrArg (fun s : Str => s.cps.toList) e
  have e2 := congrArg (fun l : List Nat => l[t]?) e1
  simp only [nmCodes, List.getElem?_map, List.getElem?_range ht, Option.map_some, Option.some.injEq] at e2
  have a := nmSign_lt xs t k t
  have b := nmSign_lt xs t k' t
  have e3 : nmSign xs t k t = nmSign xs t k' t := by omega
  simp only [nmSign, if_pos] at e3
  omega
theorem nm_nodup {xs : List Int} {sz t n : Nat} (ht : t < sz) (hn : n ≤ 26) : ((List.range n).map (nmOf xs sz t)).Nodup := by
  rw [List.nodup_iff_pairwise_ne, List.pairwise_map]
  refine List.Pairwise.imp_of_mem (R := fun a b => a < b) (fun {a b} ha hb h => nm_ne ht h ?_) List.pairwise_lt_range
  have := List.mem_range.mp hb
  omega
theorem join_one : ∀ cs : List Nat, Txt.join "" (cs.map fun c => (⟨#[c]⟩ : Str)) = ⟨cs.toArray⟩
  | [] => rfl
  | c :: r => by
    have e : Txt.join "" ((⟨#[c]⟩ : Str) :: r.map fun c => (⟨#[c]⟩ : Str)) = (⟨#[c]⟩ : Str) ++ Txt.join "" (r.map fun c => (⟨#[c]⟩ : Str)) := by
      rw [TL.join_eq, TL.join_eq]
      exact PyProof.Rows.join_nil_cons _ _
    rw [List.map_cons, e, join_one r]
    refine TL.ext_tl ?_
    show (#[c] ++ r.toArray).toList = _
    simp [TL.tl]
theorem sum_one (cs : List Nat) : ((cs.map fun c => (⟨#[c]⟩ : Str)).map (·.length)).sum = cs.length := by
  induction cs with
  | nil => rfl
  | cons c r ih =>
    rw [List.map_cons, List.map_cons, List.sum_cons, ih, List.length_cons]
    show 1 + r.length = _
    omega
def sp_law_names (K : PySem.W.Frag) (A : Adr) : Sp := fun vs H Q _ => ∃ (F : Hp) (c : Int) (n : Nat), vs = [.int c, .int n] ∧ Same F H ∧ n ≤ 26 ∧ ∀ F' H' v (zs : List Str), zs.length = n → (∀ z ∈ zs, Name z) → zs.Nodup → Z.Gr F H F' H' → Dp K F' v (.list (zs.map .str)) → Q v H'
theorem ok_law_names (T : Txt K mg A) : ∃ fd, FnOk P w K mg base CX0 2 A.f_law_names fd ["_law_cell_here", "_law_many"] (sp_law_names K A) ∧ Binds K fd ["_law_cell_here", "_law_many"] [] := by
  have ⟨fd, F, b⟩ := T.d_law_names
  refine ⟨fd, F.ok sc_law_names (fun vs H Q E h => ?_) (fun cdv Ar outer s H vs Q E hr h => ?_), b⟩
  · obtain ⟨F0, c, n, rfl, _⟩ := h
    rfl
  · obtain ⟨F0, c, n, rfl, sm, hn, k⟩ := h
    have nd := sc_law_names.nd
    have hu := hu_of hr
    have ⟨fd_law_draws, G_law_draws, b_law_draws⟩ := ok_law_draws (P := P) (w := w) (base := base) T
    refine ⟨_, (pss_cons (ps_set (i := 2) nd rfl (Or.inr rfl) pe_str)
      (pss_cons (ps_set (i := 3) nd rfl (Or.inr rfl) (pe_call G_law_draws (hr.mono (by decide)) (by rfl) T.g_law_draws T.d_law_draws.kp b_law_draws .nil pass0 (pa_cons (pv 0) (pa_cons pe_int pa_nil))))
      (pss_cons (ps_set (i := 4) nd rfl (Or.inl rfl) (pe_op op_add pe_int (pe_op op_mod (pe_ix ix_list (pv 3) pe_int (fun _ _ => rfl)) pe_int)))
      (pss_cons (ps_set (i := 5) nd rfl (Or.inr rfl) (pe_op op_mod (pe_ix ix_list (pv 3) pe_int (fun _ _ => rfl)) (pv 4)))
      (pss_cons (ps_set (i := 6) nd rfl (Or.inl rfl) (pe_lst pa_nil))
      (pss_cons (ps_for PassesOwn.never rfl (pi_range1 rfl T.b_range (pa_cons (pv 1) pa_nil)) (pg_name (i := 7) nd rfl (Or.inr rfl)) (pss_cons (ps_setLc (i := 8) rfl nd rfl rfl (sw_true rfl rfl rfl (by decide +kernel)) (own := [("_law_j", 9)]) (pi_range1 rfl T.b_range (pa_cons (pv 4) pa_nil)) (blkOk_by (own := [("_law_j", 9)]) (N := ["_law_cell_here", "_law_many", "_law_letters", "_law_draws_here", "_law_size", "_law_at", "_law_names_here", "_law_k", "_law_signs", "_law_j", "_law_sign"]) (sc := defScope s_law_names) (by decide +kernel)) (fun _ _ _ _ _ => pg_name (i := 9) nd rfl (Or.inl rfl)) (fun _ _ _ _ _ => pts_nil) (fun _ _ _ _ _ => (pe_op op_mod (pe_op op_add (pe_ix (ix_listK (K := K) rfl) (pv 3) (pe_op op_add pe_int (pv 9)) (fun _ _ => rfl)) (pe_op op_mul (pv 7) (pe_callTy call_int1 (by rfl) T.b_int (by decide +kernel) (pa_cons (pe_cmpR op_eq (pv 9) (pv 5) (nomark _)) pa_nil)))) pe_int)))
      (pss_one (ps_expr (pe_bm PySem.F.plainAttrs_list PySem.F.slot_list_append PySem.F.type_list_append mt_append (pv 6) (pa_cons (pe_join pe_str (pe_lc (own := [("_law_sign", 10)]) rfl nd (pi_list (pv 8)) (blkOk_by (own := [("_law_sign", 10)]) (N := ["_law_cell_here", "_law_many", "_law_letters", "_law_draws_here", "_law_size", "_law_at", "_law_names_here", "_law_k", "_law_signs", "_law_j", "_law_sign"]) (sc := defScope s_law_names) (by decide +kernel)) (fun _ _ _ _ _ => pg_name (i := 10) nd rfl (Or.inl rfl)) (fun _ _ _ _ _ => pts_nil) (fun _ _ _ _ _ => (pe_ix ix_str (pv 2) (pv 10) (fun _ _ => rfl))))) pa_nil))))))
      (pss_one (ps_ret (pv 6))))))))), ?_⟩
    simp only [cxOf, Cx.nox, L2.start, List.map_cons, List.map_nil, List.length_cons, List.length_nil, Nat.reduceAdd, Nat.reduceSub, List.replicate, List.cons_append, List.nil_append]
    walk_at "z"
    refine ⟨F0, c, 10, rfl, sm, by decide, fun F1 H1 v1 xs hx pos g1 d1 => ?_⟩
    have W1 := (Z.Ws.init sm).ext g1
    have g0 : xs[0]? = some (xs[0]'(by omega)) := List.getElem?_eq_getElem _
    have g1' : xs[1]? = some (xs[1]'(by omega)) := List.getElem?_eq_getElem _
    have p0 := (pos _ (List.mem_of_getElem? g0)).1
    have p1 := (pos _ (List.mem_of_getElem? g1')).1
    walk_at "z"
    refine Z.ixD d1 W1.fh 0 (d := .int (xs[0]'(by omega))) (by rw [List.getElem?_map, g0]; rfl) fun w hw => ?_
    cases Z.dp_int hw
    walk_at "z"
    refine Z.ixD d1 W1.fh 1 (d := .int (xs[1]'(by omega))) (by rw [List.getElem?_map, g1']; rfl) fun w hw2 => ?_
    cases Z.dp_int hw2
    walk_at "z"
    refine ⟨by simp only [List.length_cons, List.length_nil]; decide, fun q hq => ?_⟩
    obtain ⟨sz, hsz, hs1, hs8⟩ : ∃ sz : Nat, (1 : Int) + xs[0]'(by omega) % 8 = (sz : Int) ∧ 1 ≤ sz ∧ sz ≤ 8 := ⟨((1 : Int) + xs[0]'(by omega) % 8).toNat, by omega, by omega, by omega⟩
    rw [hsz]
    obtain ⟨t, ht, hts⟩ : ∃ t : Nat, xs[1]'(by omega) % (sz : Int) = (t : Int) ∧ t < sz := ⟨(xs[1]'(by omega) % (sz : Int)).toNat, by have := Int.emod_nonneg (xs[1]'(by omega)) (show (sz : Int) ≠ 0 by omega); omega, by have := Int.emod_lt_of_pos (xs[1]'(by omega)) (show (0 : Int) < sz by omega); have := Int.emod_nonneg (xs[1]'(by omega)) (show (sz : Int) ≠ 0 by omega); omega⟩
    have W2 := W1.new (o := .lst []) hq
    walk_at "z"
    refine ⟨(n : Int), rfl, by omega, by omega, ?_⟩
    rw [Int.toNat_natCast, ht]
    refine (for_range (lo := 0) (n := n) (fun i σ H' => ∃ (v7 v8 v9 v10 : Option V), σ = [some (.int c), some (.int n), some (.str LET), some v1, some (.int sz), some (.int t), some (.ref q), v7, v8, v9, v10] ∧ Z.Ws [(q, .lst (((List.range i).map (nmOf xs sz t)).map .str))] F0 H F1 H')
      ⟨none, none, none, none, rfl, W2⟩ ?_ ?_)
    · rintro i σ H2 hi ⟨v7, v8, v9, v10, rfl, W⟩
      walk_at "z"
      refine ⟨.int (sz : Int), rfl, (sz : Int), rfl, by omega, by omega, ?_⟩
      rw [Int.toNat_natCast]
      intro g hg
      refine lc_range (lo := 0) (n := sz) (fun j H' => Z.Ws [(g, .lst (((List.range j).map (nmSign xs t i)).map .int)), (q, .lst (((List.range i).map (nmOf xs sz t)).map .str))] F0 H F1 H') (W.new hg) ?_ ?_
      · rintro j H3 hj W3
        refine ⟨rfl, ?_⟩
        walk_at "z"
        have g2 : xs[2 + j]? = some (xs[2 + j]'(by omega)) := List.getElem?_eq_getElem _
        rw [show (2 : Int) + (0 + (j : Int)) = ((2 + j : Nat) : Int) by omega]
        refine Z.ixD d1 W3.fh (2 + j) (d := .int (xs[2 + j]'(by omega))) (by rw [List.getElem?_map, g2]; rfl) fun w hw3 => ?_
        cases Z.dp_int hw3
        walk_at "z"
        refine .inr ⟨_, rfl, ?_⟩
        refine Z.ic ?hc ?_
        case hc => exact .inl ⟨by omega, by omega⟩
        walk_at "z"
        refine ⟨_, W3.at 0 rfl, by simp; exact Nat.lt_of_le_of_lt (show j ≤ 1000 by omega) (by decide), ?_⟩
        have ev : nmSign xs t i j = (xs[2 + j]'(by omega) + (0 + (i : Int)) * (if decide (V.int (0 + (j : Int)) = V.int (t : Int)) = true then 1 else 0)) % 26 := by
          unfold nmSign
          rw [List.getD_eq_getElem?_getD, g2, Option.getD_some, Int.zero_add]
          by_cases e : j = t
          · rw [if_pos e, if_pos (decide_eq_true (by rw [e, Int.zero_add]))]
          · rw [if_neg e, if_neg (fun h => e (by have := V.int.inj (of_decide_eq_true h); omega))]
        rw [List.range_succ, List.map_append, List.map_append, show List.map V.int (List.map (nmSign xs t i) [j]) = [V.int _] from congrArg (fun x => [V.int x]) ev]
        exact W3.set 0 rfl _
      · rintro H3 W3
        walk_at "z"
        refine ⟨.inl ⟨rfl, _, SqL.of (W3.at 1 rfl)⟩, ?_⟩
        walk_at "z"
        refine ⟨⟨_, rfl⟩, .ref g, rfl, g, rfl, ⟨_, SqL.of (W3.at 0 rfl)⟩, fun D hD => ?_⟩
        refine lc_list (fun j H' => Z.Ws [(D, .lst ((((List.range j).map fun j => 97 + (nmSign xs t i j).toNat).map fun c => (⟨#[c]⟩ : Str)).map .str)), (g, .lst (((List.range sz).map (nmSign xs t i)).map .int)), (q, .lst (((List.range i).map (nmOf xs sz t)).map .str))] F0 H F1 H') (W3.new hD) (fun i H' hi W4 => SqL.of (W4.at 1 rfl)) ?_ ?_
        · rintro j x H4 hx W4
          have hjl : j < sz := by simpa using (List.getElem?_eq_some_iff.mp hx).1
          have hx' : x = .int (nmSign xs t i j) := by
            rw [List.getElem?_map, List.getElem?_map, List.getElem?_range hjl] at hx
            exact (Option.some.inj hx).symm
          subst hx'
          obtain ⟨y0, y1⟩ := nmSign_lt xs t i j
          refine ⟨rfl, ?_⟩
          walk_at "z"
          have eL : LET.length = 26 := by decide +kernel
          refine Z.ixS (by rw [eL]; decide) y0 (by rw [eL]; exact y1) fun c hc => ?_
          rw [let_in _ (by omega)] at hc
          cases hc
          walk_at "z"
          refine ⟨_, W4.at 0 rfl, by simp; exact Nat.lt_of_le_of_lt (show j ≤ 1000 by omega) (by decide), ?_⟩
          rw [List.range_succ, List.map_append, List.map_append, List.map_append]
          exact W4.set 0 rfl _
        · rintro H4 W4
          rw [List.length_map, List.length_map, List.length_range] at W4
          walk_at "z"
          refine ⟨_, D, _, rfl, rfl, .inl (SqL.of (W4.at 0 rfl)), by rw [sum_one]; show _ + _ * 0 ≤ _; simp; omega, ?_⟩
          rw [join_one]
          walk_at "z"
          refine ⟨q, _, _, rfl, rfl, W4.at 2 rfl, by simp; exact Nat.lt_of_le_of_lt (show i ≤ 1000 by omega) (by decide), ?_⟩
          walk_at "z"
          have : Z.Ws [(q, .lst (((List.range i).map (nmOf xs sz t)).map .str ++ [.str (nmOf xs sz t i)]))] F0 H F1 _ := (W4.set 2 rfl (.lst (((List.range i).map (nmOf xs sz t)).map .str ++ [.str (nmOf xs sz t i)]))).pick [2] (by decide) rfl
          exact ⟨_, _, _, _, rfl, by rw [List.range_succ, List.map_append, List.map_append]; exact this⟩
    · rintro σ H2 ⟨v7, v8, v9, v10, rfl, W⟩
      walk_at "z"
      obtain ⟨F', W', s', g'⟩ := W.frz 0 rfl
      exact k F' H2 _ _ (by simp) (fun z hz => by obtain ⟨j, hj, rfl⟩ := List.mem_map.mp hz; exact nm_name hs1 hs8) (nm_nodup hts hn) W'.g (.lst (SqL.of g') (Z.dpa_of_strs _))

/-! ### schemas as data -/
abbrev Col := Str × Str
abbrev Tab := Str × List Col
def pairD (c : Str × Str) : PyData := .tuple [.str c.1, .str c.2]
structure ColsOk (cs : List Col) : Prop where
  lo : 1 ≤ cs.length
  hi : cs.length ≤ 4
  nm : ∀ c ∈ cs, Name c.1 ∧ Kind c.2
  nd : (cs.map (·.1)).Nodup
structure TabsOk (ts : List Tab) : Prop where
  lo : 1 ≤ ts.length
  hi : ts.length ≤ 4
  nm : ∀ t ∈ ts, Name t.1 ∧ ColsOk t.2
  nd : (ts.map (·.1)).Nodup
structure OrdsOk (ts : List Tab) (os : List (Str × Str)) : Prop where
  hi : os.length ≤ 4
  nm : ∀ o ∈ os, ∃ t ∈ ts, t.1 = o.1 ∧ ∃ c ∈ t.2.drop 1, c.1 = o.2
  nd : os.Nodup
def SeqOf (K : PySem.W.Frag) (H : Hp) (v : V) (xs : List V) : Prop := ∃ a, v = .ref a ∧ (SqL K H a xs ∨ SqT K H a xs)
/-- columns handed in: a list, or a tuple that is data -/
def HandC (K : PySem.W.Frag) (F H : Hp) (v : V) (cs : List (Str × Str)) : Prop := (∃ a xs, v = .ref a ∧ SqL K H a xs ∧ DpAll K F xs (cs.map pairD)) ∨ Dp K F v (.tuple (cs.map pairD))
theorem HandC.seq {K : PySem.W.Frag} {F H : Hp} {v : V} {cs : List (Str × Str)} (h : HandC K F H v cs) (s : Same F H) : ∃ a xs, v = .ref a ∧ (SqL K H a xs ∨ SqT K H a xs) ∧ DpAll K F xs (cs.map pairD) := by
  rcases h with ⟨a, xs, rfl, h1, h2⟩ | h
  · exact ⟨a, xs, rfl, .inl h1, h2⟩
  · obtain ⟨a, xs, rfl, h1, h2⟩ := Z.dp_tup h
    exact ⟨a, xs, rfl, .inr (Z.seqT s h1), h2⟩
theorem HandC.same {K : PySem.W.Frag} {F F' H H' : Hp} {v : V} {cs : List (Str × Str)} (h : HandC K F H v cs) (s : Same F F') (e : Same H H') : HandC K F' H' v cs := by
  rcases h with ⟨a, xs, rfl, h1, h2⟩ | h
  · exact .inl ⟨a, xs, rfl, e.seq h1, Z.dpa_same s h2⟩
  · exact .inr (Z.dp_same s h)
def HandT (K : PySem.W.Frag) (F H : Hp) (v : V) (ts : List Tab) : Prop := ∃ (a : Addr) (xs : List V), v = .ref a ∧ (SqL K H a xs ∨ SqT K H a xs) ∧ xs.length = ts.length ∧
  ∀ (i : Nat) (x : V) (t : Tab), xs[i]? = some x → ts[i]? = some t → ∃ (b : Addr) (w : V), x = .ref b ∧ SqT K H b [.str t.1, w] ∧ HandC K F H w t.2
theorem seqOf_len {K : PySem.W.Frag} {H : Hp} {Q : VK} {a : Addr} {xs : List V} (h : SqL K H a xs ∨ SqT K H a xs) {R : List V → Prop} (k : R xs) : ∃ q ys, [V.ref a] = [.ref q] ∧ (SqL K H q ys ∨ SqT K H q ys) ∧ R ys := ⟨a, xs, rfl, h, k⟩
section
variable {K : PySem.W.Frag} {F F' H H' H1 : Hp} {a p : Addr} {xs : List V} {Q : VK} {z : Str} {kvs : List (Key × V)}
theorem ty_sqL (h : SqL K H a xs) : TyX K H (.ref a) (.type "list") := by
  rcases h with (h | ⟨o, h⟩) | ⟨o, its, n, h, hc, _⟩
  · exact .base (.lst h)
  · exact .base (.frz h)
  · exact .kList h hc
theorem ty_sqT (h : SqT K H a xs) : TyX K H (.ref a) (.type "tuple") := by
  rcases h with (h | ⟨o, h⟩) | ⟨o, its, n, h, hc, _⟩
  · exact .base (.tup h)
  · exact .fTuple h
  · exact .kTuple h hc
theorem isiSq (h : SqL K H a xs ∨ SqT K H a xs) (hp : H p = some (.tup [.ty "list", .ty "tuple"])) (k : Q (.bl true) H) : rIsiT K [.ref a, .ref p] H Q := by
  rcases h with h | h
  · exact ⟨_, p, _, _, _, _, rfl, hp, .cons (.ty "list") (.cons (.ty "tuple") .nil), ty_sqL h, Z.kitSeq (d := .list []), k⟩
  · exact ⟨_, p, _, _, _, _, rfl, hp, .cons (.ty "list") (.cons (.ty "tuple") .nil), ty_sqT h, Z.kitSeq (d := .tuple []), k⟩
theorem isiT (h : SqT K H a xs) (k : Q (.bl true) H) : rIsi K [.ref a, .ty "tuple"] H Q := ⟨_, .ty "tuple", _, .type "tuple", _, rfl, .ty "tuple", ty_sqT h, Z.kitD (d := .tuple []) (by simp), k⟩
theorem isiL (h : SqL K H a xs) (k : Q (.bl true) H) : rIsi K [.ref a, .ty "list"] H Q := ⟨_, .ty "list", _, .type "list", _, rfl, .ty "list", ty_sqL h, Z.kitD (d := .list []) (by simp), k⟩
theorem inV_str (zs : List Str) : inV (.str z) (zs.map V.str) = decide (z ∈ zs) := by
  rw [Bool.eq_iff_iff]
  simp only [inV, List.any_map, List.any_eq_true, Function.comp, eqV, beq_iff_eq, decide_eq_true_eq]
  exact ⟨fun ⟨x, h, e⟩ => e ▸ h, fun h => ⟨z, h, rfl⟩⟩
theorem flat_str (zs : List Str) : (zs.map V.str).all flatV = true := by simp [flatV]
theorem dinS {R : Option V → Prop} (ho : H a = some (.dK kvs)) (k : R (valV kvs (.inr z))) : ∃ a' o, (V.ref a) = .ref a' ∧ DGet H a' (.str z) o ∧ R o := ⟨a, _, rfl, DGet.k (k := Sum.inr z) ho, k⟩
theorem dgetS {v : V} {R : V → Prop} (ho : H a = some (.dK kvs)) (e : valV kvs (Sum.inr z) = some v) (q : R v) : ∃ a' v, (V.ref a) = .ref a' ∧ DGet H a' (.str z) (some v) ∧ R v := ⟨a, v, rfl, e ▸ DGet.k (k := Sum.inr z) ho, q⟩
theorem dputS {v : V} {R : Hp → Prop} (ho : H a = some (.dK kvs)) (l : kvs.length < 1000) (q : R (upd H a (.dK (putK kvs (Sum.inr z) v)))) :
    ∃ a' H4, (V.ref a) = .ref a' ∧ DPut H a' (.str z) v H4 ∧ R H4 := ⟨a, _, rfl, DPut.k (k := Sum.inr z) ho (Nat.lt_of_lt_of_le l (by decide)), q⟩
end
/-- the dict of columns -/
inductive KvOk (K : PySem.W.Frag) (F : Hp) : List (Key × V) → List Tab → Prop
  | nil : KvOk K F [] []
  | cons {v : V} {t : Tab} {kvs : List (Key × V)} {ts : List Tab} : Dp K F v (.tuple (t.2.map pairD)) → KvOk K F kvs ts → KvOk K F ((.inr t.1, v) :: kvs) (t :: ts)
section
variable {K : PySem.W.Frag} {F F' H : Hp}
theorem KvOk.same (s : Same F F') : ∀ {kvs : List (Key × V)} {ts : List Tab}, KvOk K F kvs ts → KvOk K F' kvs ts
  | _, _, .nil => .nil
  | _, _, .cons h r => .cons (Z.dp_same s h) (r.same s)
theorem KvOk.len : ∀ {kvs : List (Key × V)} {ts : List Tab}, KvOk K F kvs ts → kvs.length = ts.length
  | _, _, .nil => rfl
  | _, _, .cons _ r => by rw [List.length_cons, List.length_cons, r.len]
theorem KvOk.snoc {v : V} {t : Tab} (h : Dp K F v (.tuple (t.2.map pairD))) : ∀ {kvs : List (Key × V)} {ts : List Tab}, KvOk K F kvs ts → KvOk K F (kvs ++ [(.inr t.1, v)]) (ts ++ [t])
  | _, _, .nil => .cons h .nil
  | _, _, .cons h' r => .cons h' (r.snoc h)
theorem KvOk.none {z : Str} : ∀ {kvs : List (Key × V)} {ts : List Tab}, KvOk K F kvs ts → z ∉ ts.map (·.1) → valV kvs (.inr z) = Option.none
  | _, _, .nil, _ => rfl
  | _, _, .cons (t := t) h r, hn => by
    rw [List.map_cons, List.mem_cons, not_or] at hn
    rw [valV_neg (show ¬ (Sum.inr t.1 : Key) = .inr z from fun e => hn.1 (Sum.inr.inj e).symm)]
    exact r.none hn.2
theorem KvOk.some : ∀ {kvs : List (Key × V)} {ts : List Tab} {t : Tab}, KvOk K F kvs ts → (ts.map (·.1)).Nodup → t ∈ ts → ∃ v, valV kvs (.inr t.1) = Option.some v ∧ Dp K F v (.tuple (t.2.map pairD))
  | _, _, t, .cons (t := t') (v := v) h r, nd, m => by
    rw [List.map_cons, List.nodup_cons] at nd
    rcases List.mem_cons.mp m with m | m
    · subst m
      exact ⟨v, valV_pos rfl, h⟩
    · rw [valV_neg (show ¬ (Sum.inr t'.1 : Key) = .inr t.1 from fun e => nd.1 (by rw [Sum.inr.inj e]; exact List.mem_map.mpr ⟨t, m, rfl⟩))]
      exact r.some nd.2 m
theorem KvOk.keys : ∀ {kvs : List (Key × V)} {ts : List Tab}, KvOk K F kvs ts → (kvs.map fun kv => kV kv.1) = ts.map fun t => V.str t.1
  | _, _, .nil => rfl
  | _, _, .cons h r => by rw [List.map_cons, List.map_cons, r.keys]; rfl
theorem put_end {kvs : List (Key × V)} {k : Key} {v : V} (h : valV kvs k = Option.none) : putK kvs k v = kvs ++ [(k, v)] := by
  unfold putK
  rw [valV_any, h]
  rfl
end
theorem ixTv {K : PySem.W.Frag} {H : Hp} {Q : VK} {a : Addr} {xs : List V} {v : V} {i : Nat} (h : SqT K H a xs) (e : xs[i]? = some v) (k : Q v H) : rIxT K (.ref a) (.int (i : Int)) H Q := ⟨a, xs, i, v, rfl, rfl, h, atI_nat e, k⟩
theorem take_nd {α : Type} {f : α → Str} {cs : List α} {c : α} {i : Nat} (nd : (cs.map f).Nodup) (h : cs[i]? = some c) : f c ∉ (cs.take i).map f := by
  rw [← List.take_append_drop i cs, List.map_append, List.nodup_append] at nd
  have m2 : f c ∈ (cs.drop i).map f := List.mem_map.mpr ⟨c, List.mem_of_getElem? (i := 0) (by rw [List.getElem?_drop]; exact h), rfl⟩
  exact fun m => nd.2.2 _ m _ m2 rfl
theorem eqv_pair (a b : Str × Str) : PyData.eqv (pairD a) (pairD b) = decide (a = b) := by
  rw [Bool.eq_iff_iff]
  simp only [pairD, PyData.eqv, PyData.eqvAll, Bool.and_true, Bool.and_eq_true, beq_iff_eq, decide_eq_true_eq]
  exact ⟨fun h => Prod.ext h.1 h.2, fun h => h ▸ ⟨rfl, rfl⟩⟩
theorem any_pair (os : List (Str × Str)) (o : Str × Str) : ((os.map pairD).any fun z => PyData.eqv z (pairD o)) = decide (o ∈ os) := by
  rw [Bool.eq_iff_iff]
  simp only [List.any_map, List.any_eq_true, Function.comp, eqv_pair, decide_eq_true_eq]
  exact ⟨fun ⟨x, h, e⟩ => e ▸ h, fun h => ⟨o, h, rfl⟩⟩
def PairOk (o : Str × Str) : Prop := PyData.strOk o.1 = true ∧ PyData.strOk o.2 = true
theorem lay_pair {o : Str × Str} (h : PairOk o) : PyData.canLay0 (pairD o) = true := by simp only [pairD, PyData.canLay0, PyData.canLayAll0, h.1, h.2, Bool.and_true]
theorem shaped_pair {o : Str × Str} (h : PairOk o) : SeqAt.shaped (pairD o) = true := by
  unfold SeqAt.shaped
  rw [lay_pair h]
  simp [pairD, PyData.depth, PyData.depthAll]
theorem lay_pairs {os : List (Str × Str)} (h : ∀ o ∈ os, PairOk o) : PyData.canLayAll0 (os.map pairD) = true := by
  induction os with
  | nil => simp [PyData.canLayAll0]
  | cons o r ih => rw [List.map_cons, PyData.canLayAll0, lay_pair (h o List.mem_cons_self), ih fun x hx => h x (List.mem_cons_of_mem _ hx)]; rfl
theorem depth_pairs (os : List (Str × Str)) : PyData.depthAll (os.map pairD) ≤ 1 := by
  induction os with
  | nil => simp [PyData.depthAll]
  | cons o r ih =>
    rw [List.map_cons, PyData.depthAll]
    have : PyData.depth (pairD o) = 1 := by simp [pairD, PyData.depth, PyData.depthAll]
    omega
theorem shaped_pairsL {os : List (Str × Str)} (h : ∀ o ∈ os, PairOk o) : SeqAt.shaped (.list (os.map pairD)) = true := by
  unfold SeqAt.shaped
  rw [PyData.canLay0, lay_pairs h, PyData.depth]
  have := depth_pairs os
  simp; omega
theorem shaped_pairsT {os : List (Str × Str)} (h : ∀ o ∈ os, PairOk o) : SeqAt.shaped (.tuple (os.map pairD)) = true := by
  unfold SeqAt.shaped
  rw [PyData.canLay0, lay_pairs h, PyData.depth]
  have := depth_pairs os
  simp; omega
theorem OrdsOk.pair {ts : List Tab} {os : List (Str × Str)} (ok : OrdsOk ts os) (tk : TabsOk ts) : ∀ o ∈ os, Name o.1 ∧ Name o.2 := fun o ho => by
  obtain ⟨t, ht, e1, c, hc, e2⟩ := ok.nm o ho
  obtain ⟨n1, ck⟩ := tk.nm t ht
  exact ⟨e1 ▸ n1, e2 ▸ (ck.nm c (List.mem_of_mem_drop hc)).1⟩
theorem pairOk_of {o : Str × Str} (h : Name o.1 ∧ Name o.2) : PairOk o := ⟨h.1.ok, h.2.ok⟩
theorem cutD_tail (ds : List PyData) (n : Nat) : Z.cutD ds (some (n : Int)) none = ds.drop n := by
  unfold Z.cutD
  rw [HT.sIx_none, HT.sIx_nat]
  by_cases h : n ≤ ds.length
  · rw [Nat.min_eq_left h]
    exact List.take_of_length_le (by rw [List.length_drop]; omega)
  · rw [Nat.min_eq_right (by omega), List.drop_of_length_le (by omega), List.drop_of_length_le (by omega)]
    simp

/-! ### what is accepted -/
def Acc (d : PyData) (cs : List Col) : Prop := (d = .list (cs.map pairD) ∨ d = .tuple (cs.map pairD)) ∧ ColsOk cs
def AccT (d : PyData) (ts : List Tab) : Prop := ∃ tds : List PyData, (d = .list tds ∨ d = .tuple tds) ∧ tds.length = ts.length ∧ (∀ (i : Nat) (e : PyData) (t : Tab), tds[i]? = some e → ts[i]? = some t → ∃ c, e = .tuple [.str t.1, c] ∧ Acc c t.2) ∧ TabsOk ts
def AccO (ts : List Tab) (d : PyData) (os : List (Str × Str)) : Prop := (d = .list (os.map pairD) ∨ d = .tuple (os.map pairD)) ∧ OrdsOk ts os
/-- lengths within bounds, at the top and within -/
def Fit1 : PyData → Prop
  | .str z => z.length ≤ 10000
  | _ => True
def Fit2 : PyData → Prop
  | .tuple ds => ∀ d ∈ ds, Fit1 d
  | _ => True
def Fit3 : PyData → Prop
  | .list ds => ∀ d ∈ ds, Fit1 d ∧ Fit2 d
  | .tuple ds => ∀ d ∈ ds, Fit1 d ∧ Fit2 d
  | _ => True
def Fit4 : PyData → Prop
  | .tuple ds => ∀ d ∈ ds, Fit1 d ∧ Fit3 d
  | _ => True
def Fit5 : PyData → Prop
  | .list ds => ∀ d ∈ ds, Fit4 d
  | .tuple ds => ∀ d ∈ ds, Fit4 d
  | _ => True
theorem fit_small {d : PyData} (h : Fit1 d) : SmallS d := by
  cases d <;> first | exact h | exact True.intro
section
variable {K : PySem.W.Frag} {F H : Hp} {v : V} {d : PyData} {ds : List PyData}
def seqD : PyData → Option (List PyData)
  | .list ds => some ds
  | .tuple ds => some ds
  | _ => none
theorem seq_ty (d : PyData) : (Z.isTy "list" d || Z.isTy "tuple" d) = (seqD d).isSome := by cases d <;> rfl
theorem dx_seq (h : Z.DX K F v d) (e : seqD d = some ds) : ∃ a vs, v = .ref a ∧ (SqL K F a vs ∨ SqT K F a vs) ∧ Z.DXs K F vs ds := by
  cases d with
  | list es => cases e; obtain ⟨a, vs, e, h1, h2⟩ := Z.dx_lst h; exact ⟨a, vs, e, .inl h1, h2⟩
  | tuple es => cases e; obtain ⟨a, vs, e, h1, h2⟩ := Z.dx_tup h; exact ⟨a, vs, e, .inr h1, h2⟩
  | none => cases e
  | bool b => cases e
  | int i => cases e
  | str z => cases e
  | dict kv => cases e
end
def rowOf (lo hi : Int) : Option (List PyData) → Bool
  | some ds => decide (lo ≤ ds.length ∧ (ds.length : Int) ≤ hi)
  | none => false
def sp_is_row_of (K : PySem.W.Frag) (A : Adr) : Sp := fun vs H Q _ => ∃ (v : V) (d : PyData) (lo hi : Int), vs = [v, .int lo, .int hi] ∧ Z.DX K H v d ∧ ∀ H', Same H H' → Q (.bl (rowOf lo hi (seqD d))) H'
theorem ok_is_row_of (T : Txt K mg A) : ∃ fd, FnOk P w K mg base CX0 1 A.f_is_row_of fd ["thing", "least", "most"] (sp_is_row_of K A) ∧ Binds K fd ["thing", "least", "most"] [] := by
  have ⟨fd, F, b⟩ := T.d_is_row_of
  refine ⟨fd, F.ok sc_is_row_of (fun vs H Q E h => ?_) (fun cdv Ar outer s H vs Q E hr h => ?_), b⟩
  · obtain ⟨v, d, lo, hi, rfl, _⟩ := h
    rfl
  · obtain ⟨v, d, lo, hi, rfl, hv, k⟩ := h
    have nd := sc_is_row_of.nd
    have hu := hu_of hr
    refine ⟨_, (pss_one (ps_ret (pe_and (pe_callB call_isiT (by rfl) T.b_isinstance (by decide +kernel) (pa_cons (pv 0) (pa_cons (pe_tup (pa_cons (pe_bltn (v := .ty "list") (u := .type "list") (by rfl) T.b_list (by decide +kernel) rfl) (pa_cons (pe_bltn (v := .ty "tuple") (u := .type "tuple") (by rfl) T.b_tuple (by decide +kernel) rfl) pa_nil))) pa_nil))) (pe_one (pe_chain op_le op_le (pv 1) (pe_callB call_len_seq (by rfl) T.b_len PySem.boot_len (pa_cons (pv 0) pa_nil)) (pv 2)))))), ?_⟩
    simp only [cxOf, Cx.nox, L2.start, List.map_cons, List.map_nil, List.length_cons, List.length_nil, Nat.reduceAdd, Nat.reduceSub, List.replicate, List.cons_append, List.nil_append]
    walk_at "z"
    refine ⟨by simp only [List.length_cons, List.length_nil]; decide, fun p hp => ?_⟩
    have s := Z.same_new (o := .tup [.ty "list", .ty "tuple"]) hp
    walk_at "z"
    refine Z.isiSeqX hv s upd_same ?_
    rw [seq_ty]
    cases e : seqD d with
    | none =>
      rw [e] at k
      walk_at "z"
      exact k _ s
    | some ds =>
      rw [e] at k
      obtain ⟨a, vs, rfl, hq, hds⟩ := dx_seq (Z.dx_same s hv) e
      have hl := Z.dxs_len hds
      walk_at "z"
      refine seqOf_len (Q := Q) hq ?_
      walk_at "z"
      refine Z.iteD (fun h1 => ?_) (fun h1 => ?_)
      · walk_at "z"
        have : Q (.bl (decide (lo ≤ (ds.length : Int) ∧ (ds.length : Int) ≤ hi))) _ := k _ s
        rw [show decide (lo ≤ (ds.length : Int) ∧ (ds.length : Int) ≤ hi) = decide ((vs.length : Int) ≤ hi) from decide_eq_decide.mpr ⟨fun h => by omega, fun h => by omega⟩] at this
        exact this
      · have : Q (.bl (decide (lo ≤ (ds.length : Int) ∧ (ds.length : Int) ≤ hi))) _ := k _ s
        rw [show decide (lo ≤ (ds.length : Int) ∧ (ds.length : Int) ≤ hi) = false from decide_eq_false fun h => h1 (by omega)] at this
        exact this
def pair2 : PyData → Option (PyData × PyData)
  | .tuple [a, b] => some (a, b)
  | _ => none
theorem pair2_some {d a b : PyData} (h : pair2 d = some (a, b)) : d = .tuple [a, b] := by
  match d, h with
  | .tuple [x, y], h => cases h; rfl
def sp_need_pair (K : PySem.W.Frag) (A : Adr) : Sp := fun vs H Q E => ∃ (v : V) (d : PyData), vs = [v] ∧ Z.DX K H v d ∧ (∀ a b, pair2 d = some (a, b) → Q .non H) ∧ (pair2 d = none → E (.ref A.NoSchema) none H)
theorem ok_need_pair (T : Txt K mg A) : ∃ fd, FnOk P w K mg base (L2.CX P w) 1 A.f_need_pair fd ["thing"] (sp_need_pair K A) ∧ Binds K fd ["thing"] [] := by
  have ⟨fd, F, b⟩ := T.d_need_pair
  refine ⟨fd, F.okX sc_need_pair (fun vs H Q E h => ?_) (fun cdv Ar outer s H vs Q E hr h => ?_), b⟩
  · obtain ⟨v, d, rfl, _⟩ := h
    rfl
  · obtain ⟨v, d, rfl, hv, k, kx⟩ := h
    have nd := sc_need_pair.nd
    have hu := hu_of hr
    refine ⟨_, (pss_one (ps_if (PW.pt (pw_or (pt_not (pt_val (pe_callB call_isi (by rfl) T.b_isinstance (by decide +kernel) (pa_cons (pv 0) (pa_cons (pe_bltn (v := .ty "tuple") (u := .type "tuple") (by rfl) T.b_tuple (by decide +kernel) rfl) pa_nil))))) (pw_or1 (pt_cmpR op_ne (pe_callB call_len_seq (by rfl) T.b_len PySem.boot_len (pa_cons (pv 0) pa_nil)) pe_int (nomark _))))) (pss_one (ps_raise rfl (takes_of rfl rfl rfl rfl) (Z.pmk_own0 PySem.F.excBase_ValueError T.xF_NoSchema T.g_NoSchema T.kc_NoSchema (raises_own T.sb_NoSchema T.tb_NoSchema)))) pss_nil)), ?_⟩
    simp only [cxOf, Cx.nox, L2.start, List.map_cons, List.map_nil, List.length_cons, List.length_nil, Nat.reduceAdd, Nat.reduceSub, List.replicate, List.cons_append, List.nil_append]
    walk_at "z"
    refine Z.isiX hv (Same.refl _) (by simp) ?_
    walk_at "z"
    cases hty : Z.isTy "tuple" d with
    | false =>
      walk_at "z"
      exact kx (by cases d <;> first | rfl | exact absurd hty (by simp [Z.isTy, Z.tyN]))
    | true =>
      obtain ⟨ds, rfl⟩ : ∃ ds, d = .tuple ds := by cases d <;> first | exact ⟨_, rfl⟩ | exact absurd hty (by simp [Z.isTy, Z.tyN])
      obtain ⟨a, ys, rfl, g1, g2⟩ := Z.dx_tup hv
      have gl := Z.dxs_len g2
      walk_at "z"
      refine seqOf_len (Q := Q) (.inr g1) ?_
      walk_at "z"
      refine Z.iteN (fun hne => ?_) (fun heq => ?_)
      · walk_at "z"
        refine kx ?_
        match ds, gl with
        | [], _ => rfl
        | [_], _ => rfl
        | [_, _], gl => exact absurd (by rw [gl]; rfl) hne
        | _ :: _ :: _ :: _, _ => rfl
      · have hl2 : ds.length = 2 := by have := V.int.inj heq; omega
        walk_at "z"
        match ds, hl2 with
        | [x, y], _ => exact k x y rfl

theorem pairD_inj {a b : Str × Str} (h : pairD a = pairD b) : a = b := by
  simp only [pairD, PyData.tuple.injEq, List.cons.injEq, PyData.str.injEq, and_true] at h
  exact Prod.ext h.1 h.2
theorem map_pairD_inj {xs ys : List (Str × Str)} (h : xs.map pairD = ys.map pairD) : xs = ys := (List.map_inj_right (fun _ _ e => pairD_inj e)).mp h
theorem seqD_of {d : PyData} {ds es : List PyData} (hs : seqD d = some ds) (h : d = .list es ∨ d = .tuple es) : ds = es := by
  rcases h with rfl | rfl <;> exact (Option.some.inj hs).symm
theorem seqD_to {d : PyData} {ds es : List PyData} (hs : seqD d = some ds) (h : ds = es) : d = .list es ∨ d = .tuple es := by
  subst h
  cases d <;> first | (cases hs; exact .inl rfl) | (cases hs; exact .inr rfl) | cases hs
theorem Acc.seq {d : PyData} {ds : List PyData} {cs : List Col} (h : Acc d cs) (hs : seqD d = some ds) : ds = cs.map pairD := seqD_of hs h.1
theorem Acc.not {d : PyData} {cs : List Col} (h : Acc d cs) : seqD d ≠ none := by
  rcases h.1 with rfl | rfl <;> exact fun e => by cases e
theorem Acc.at {d e : PyData} {ds : List PyData} {cs : List Col} {i : Nat} (h : Acc d cs) (hs : seqD d = some ds) (he : ds[i]? = some e) : ∃ c, cs[i]? = some c ∧ e = pairD c ∧ Name c.1 ∧ Kind c.2 := by
  rw [h.seq hs, List.getElem?_map] at he
  obtain ⟨c, hc, rfl⟩ := Option.map_eq_some_iff.mp he
  exact ⟨c, hc, rfl, h.2.nm c (List.mem_of_getElem? hc)⟩
theorem dx_pair {K : PySem.W.Frag} {F : Hp} {v : V} {c : Str × Str} (h : Z.DX K F v (pairD c)) : Dp K F v (pairD c) := by
  obtain ⟨a, vs, rfl, h1, h2⟩ := Z.dx_tup h
  obtain ⟨v1, v2, rfl, e1, e2⟩ := Z.dxs2 h2
  cases Z.dx_str e1
  cases Z.dx_str e2
  exact .tup h1 (.cons (.str _) (.cons (.str _) .nil))
theorem dx_pairs {K : PySem.W.Frag} {F : Hp} : ∀ {vs : List V} {cs : List (Str × Str)}, Z.DXs K F vs (cs.map pairD) → DpAll K F vs (cs.map pairD)
  | _, [], .nil => .nil
  | _, c :: r, .cons h k => .cons (dx_pair h) (dx_pairs k)
theorem named_str {d : PyData} (h : named d = true) : ∃ z, d = .str z ∧ Name z := by
  cases d <;> first | exact ⟨_, rfl, of_decide_eq_true h⟩ | exact absurd h (by simp [named])
theorem kinded_str {d : PyData} (h : kinded d = true) : ∃ z, d = .str z ∧ Kind z := by
  cases d <;> first | exact ⟨_, rfl, of_decide_eq_true h⟩ | exact absurd h (by simp [kinded])
theorem fit3_seq {d : PyData} {ds : List PyData} (h : Fit3 d) (hs : seqD d = some ds) : ∀ e ∈ ds, Fit1 e ∧ Fit2 e := by
  cases d <;> first | (cases hs; exact h) | cases hs
theorem fit5_seq {d : PyData} {ds : List PyData} (h : Fit5 d) (hs : seqD d = some ds) : ∀ e ∈ ds, Fit4 e := by
  cases d <;> first | (cases hs; exact h) | cases hs
def sp_columns_in (K : PySem.W.Frag) (A : Adr) : Sp := fun vs H Q E => ∃ (F : Hp) (v : V) (d : PyData), vs = [v] ∧ Same F H ∧ Z.DX K F v d ∧ Fit3 d ∧ (∀ cs, Acc d cs → ∀ F' H' r, Z.Gr F H F' H' → Dp K F' r (.tuple (cs.map pairD)) → Q r H') ∧ ((∀ cs, ¬ Acc d cs) → ∀ H', Same H H' → E (.ref A.NoSchema) none H')
theorem ok_columns_in (T : Txt K mg A) : ∃ fd, FnOk P w K mg base (L2.CX P w) 2 A.f_columns_in fd ["thing"] (sp_columns_in K A) ∧ Binds K fd ["thing"] [] := by
  have ⟨fd, F, b⟩ := T.d_columns_in
  refine ⟨fd, F.okX sc_columns_in (fun vs H Q E h => ?_) (fun cdv Ar outer s H vs Q E hr h => ?_), b⟩
  · obtain ⟨F0, v, d, rfl, _⟩ := h
    rfl
  · obtain ⟨F0, v, d, rfl, sm, hv, fit, k, kx⟩ := h
    have nd := sc_columns_in.nd
    have hu := hu_of hr
    have ⟨fd_is_row_of, G_is_row_of, b_is_row_of⟩ := ok_is_row_of (P := P) (w := w) (base := base) T
    have ⟨fd_need_pair, G_need_pair, b_need_pair⟩ := ok_need_pair (P := P) (w := w) (base := base) T
    have ⟨fd_is_kind, G_is_kind, b_is_kind⟩ := ok_is_kind (P := P) (w := w) (base := base) T
    have ⟨fd_is_name, G_is_name, b_is_name⟩ := ok_is_name (P := P) (w := w) (base := base) T
    refine ⟨_, (pss_cons (ps_if (pt_not (pt_val (pe_call G_is_row_of (hr.mono (by decide)) (by rfl) T.g_is_row_of T.d_is_row_of.kp b_is_row_of .nil pass0 (pa_cons (pv 0) (pa_cons pe_int (pa_cons (Z.pe_gint rfl T.v_MOST_COLUMNS) pa_nil)))))) (pss_one (ps_raise rfl (takes_of rfl rfl rfl rfl) (Z.pmk_own0 PySem.F.excBase_ValueError T.xF_NoSchema T.g_NoSchema T.kc_NoSchema (raises_own T.sb_NoSchema T.tb_NoSchema)))) pss_nil)
      (pss_cons (ps_set (i := 1) nd rfl (Or.inl rfl) (pe_lst pa_nil))
      (pss_cons (ps_for (passes_of rfl) rfl (Z.pi_seq (pv 0)) (pg_name (i := 2) nd rfl (Or.inl rfl)) (pss_cons (ps_expr (pe_call G_need_pair (hr.mono (by decide)) (by rfl) T.g_need_pair T.d_need_pair.kp b_need_pair .nil (passes_call (takes_of rfl rfl rfl rfl) (fun _ _ _ _ h => h)) (pa_cons (pv 2) pa_nil)))
      (pss_cons (ps_asg (pv 2) (pg_tup rfl (pgs_cons (pg_name (i := 3) nd rfl (Or.inl rfl)) (pgs_cons (pg_name (i := 4) nd rfl (Or.inl rfl)) pgs_nil))))
      (pss_cons (ps_if (PW.pt (pw_or (pt_not (pt_val (pe_call G_is_name (hr.mono (by decide)) (by rfl) T.g_is_name T.d_is_name.kp b_is_name .nil pass0 (pa_cons (pv 3) pa_nil)))) (pw_or (pt_cmpR op_in_seq (pv 3) (pv 1) (by rfl)) (pw_or1 (pt_not (pt_val (pe_call G_is_kind (hr.mono (by decide)) (by rfl) T.g_is_kind T.d_is_kind.kp b_is_kind .nil pass0 (pa_cons (pv 4) pa_nil)))))))) (pss_one (ps_raise rfl (takes_of rfl rfl rfl rfl) (Z.pmk_own0 PySem.F.excBase_ValueError T.xF_NoSchema T.g_NoSchema T.kc_NoSchema (raises_own T.sb_NoSchema T.tb_NoSchema)))) pss_nil)
      (pss_one (ps_expr (pe_bm PySem.F.plainAttrs_list PySem.F.slot_list_append PySem.F.type_list_append mt_append (pv 1) (pa_cons (pv 3) pa_nil))))))))
      (pss_one (ps_ret (pe_callTy call_tuple_of (by rfl) T.b_tuple (by decide +kernel) (pa_cons (pv 0) pa_nil))))))), ?_⟩
    simp only [cxOf, Cx.nox, L2.start, List.map_cons, List.map_nil, List.length_cons, List.length_nil, Nat.reduceAdd, Nat.reduceSub, List.replicate, List.cons_append, List.nil_append]
    walk_at "z"
    refine ⟨v, d, 1, 4, rfl, Z.dx_same sm hv, fun H1 s1 => ?_⟩
    cases hs : seqD d with
    | none =>
      walk_at "z"
      exact kx (fun cs h => h.not hs) _ s1
    | some ds =>
    have W1 := (Z.Ws.init sm).exts s1
    obtain ⟨a, xs, rfl, hq, hds⟩ := dx_seq hv hs
    have hl := Z.dxs_len hds
    have fit' := fit3_seq fit hs
    have bad : ∀ {i : Nat} {e : PyData}, ds[i]? = some e → (∀ c : Col, e = pairD c → Name c.1 → Kind c.2 → False) → ∀ cs, ¬ Acc d cs := fun he hno cs h => by
      obtain ⟨c, _, e, h1, h2⟩ := h.at hs he
      exact hno c e h1 h2
    by_cases hb : (1 : Int) ≤ ds.length ∧ (ds.length : Int) ≤ 4
    · rw [show rowOf 1 4 (some ds) = true from decide_eq_true hb]
      walk_at "z"
      refine ⟨by simp only [List.length_cons, List.length_nil]; decide, fun q hq1 => ?_⟩
      have W2 := W1.new (o := .lst []) hq1
      generalize upd H1 q (.lst []) = H2 at W2 ⊢
      walk_at "z"
      refine Z.forSqD (hq.imp (W2.fh.seq ·) (Z.seqT W2.fh ·)) (fun i σ H' => (∃ v2 v3 v4, σ = [some (.ref a), some (.ref q), v2, v3, v4]) ∧ ∃ cs' : List Col, Z.Ws [(q, .lst ((cs'.map (·.1)).map .str))] F0 H F0 H' ∧ ds.take i = cs'.map pairD ∧ (∀ c ∈ cs', Name c.1 ∧ Kind c.2) ∧ (cs'.map (·.1)).Nodup)
        ⟨⟨_, _, _, rfl⟩, [], W2, rfl, (fun c h => nomatch h), List.nodup_nil⟩ hq (fun i σ H' ⟨_, _, W, _⟩ => W.fh) ?_ ?_
      · rintro i x σ H' hx ⟨⟨v2, v3, v4, rfl⟩, cs', W, et, hnm, hnd⟩
        obtain ⟨e, he, hxe⟩ := Z.dxs_ix hds hx
        have fe := fit' e (List.mem_of_getElem? he)
        have bad := fun h => bad (i := i) he h
        walk_at "z"
        refine ⟨x, e, rfl, Z.dx_same W.fh hxe, fun ea eb hp => ?_, fun hp => kx (bad fun c hc _ _ => by rw [hc] at hp; cases hp) _ W.same⟩
        have ee := pair2_some hp
        subst ee
        walk_at "z"
        refine Z.gtupX hxe W.fh fun ys hys => ?_
        obtain ⟨x1, x2, rfl, hx1, hx2⟩ := Z.dxs2 hys
        walk_at "z"
        refine ⟨x1, ea, rfl, Z.dx_same W.fh hx1, fit_small (fe.2 ea (by simp)), ?_⟩
        cases hna : named ea with
        | false =>
          walk_at "z"
          exact kx (bad fun c hc h1 _ => by
            simp only [pairD, PyData.tuple.injEq, List.cons.injEq, and_true] at hc
            rw [hc.1] at hna
            exact absurd h1 (of_decide_eq_false hna)) _ W.same
        | true =>
          obtain ⟨z, rfl, hz⟩ := named_str hna
          cases Z.dx_str hx1
          walk_at "z"
          refine ⟨q, _, rfl, .inl (SqL.of (W.at 0 rfl)), rfl, flat_str _, ?_⟩
          rw [inV_str]
          by_cases hin : z ∈ cs'.map (·.1)
          · rw [decide_eq_true hin]
            walk_at "z"
            refine kx (fun cs h => ?_) _ W.same
            have e2 := h.seq hs
            rw [e2, ← List.map_take] at et
            have e3 := map_pairD_inj et
            rw [e2, List.getElem?_map] at he
            obtain ⟨c, hc, ec⟩ := Option.map_eq_some_iff.mp he
            simp only [pairD, PyData.tuple.injEq, List.cons.injEq, and_true, PyData.str.injEq] at ec
            have := take_nd h.2.nd hc
            rw [e3, ec.1] at this
            exact this hin
          · rw [decide_eq_false hin]
            walk_at "z"
            refine ⟨x2, eb, rfl, Z.dx_same W.fh hx2, fun H3 s3 => ?_⟩
            have W3 := W.exts s3
            cases hkb : kinded eb with
            | false =>
              walk_at "z"
              exact kx (bad fun c hc _ h2 => by
                simp only [pairD, PyData.tuple.injEq, List.cons.injEq, and_true] at hc
                rw [hc.2] at hkb
                exact absurd h2 (of_decide_eq_false hkb)) _ W3.same
            | true =>
              obtain ⟨y, rfl, hy⟩ := kinded_str hkb
              walk_at "z"
              refine ⟨.inl ⟨rfl, _, SqL.of (W3.at 0 rfl)⟩, ?_⟩
              walk_at "z"
              have ln : cs'.length = (ds.take i).length := by rw [et, List.length_map]
              rw [List.length_take] at ln
              refine Z.appW W3 0 rfl (fun H4 W4 => ?_) (by simp; omega)
              walk_at "z"
              refine ⟨⟨_, _, _, rfl⟩, cs' ++ [(z, y)], ?_, ?_, ?_, ?_⟩
              · rw [List.map_append, List.map_append]
                exact W4
              · rw [List.take_add_one, he, et, List.map_append]
                rfl
              · intro c hc
                rcases List.mem_append.mp hc with h | h
                · exact hnm c h
                · rw [List.mem_singleton.mp h]; exact ⟨hz, hy⟩
              · rw [List.map_append, List.nodup_append]
                exact ⟨hnd, by simp, fun a ha b hb e => by
                  rw [List.map_cons, List.map_nil, List.mem_singleton] at hb
                  rw [e, hb] at ha
                  exact hin ha⟩
      · rintro σ H' ⟨⟨v2, v3, v4, rfl⟩, cs', W, et, hnm, hnd⟩
        rw [List.take_of_length_le (by omega)] at et
        have hln : ds.length = cs'.length := by rw [et, List.length_map]
        have cok : ColsOk cs' := ⟨by omega, by omega, hnm, hnd⟩
        have hds' : DpAll K F0 xs (cs'.map pairD) := dx_pairs (by rw [← et]; exact hds)
        have hacc : Acc d cs' := ⟨seqD_to hs et, cok⟩
        walk_at "z"
        refine ⟨a, xs, rfl, ?_⟩
        rcases hq with hq | hq
        · refine .inl ⟨W.fh.seq hq, fun p hp => ?_⟩
          have W5 := W.dat (o := .tup xs) hp
          exact k cs' hacc _ _ _ W5.g (.tup (SqT.of upd_same) (Z.dpa_same (Z.same_new (W.freeF hp)) hds'))
        · exact .inr ⟨Z.seqT W.fh hq, k cs' hacc _ _ _ W.g (.tup hq hds')⟩
    · rw [show rowOf 1 4 (some ds) = false from decide_eq_false hb]
      walk_at "z"
      refine kx (fun cs h => hb ?_) _ s1
      have := h.seq hs
      have l := h.2.lo
      have l2 := h.2.hi
      rw [this, List.length_map]
      omega

def sp_tables_in (K : PySem.W.Frag) (A : Adr) : Sp := fun vs H Q E => ∃ (F : Hp) (v : V) (d : PyData), vs = [v] ∧ Same F H ∧ Z.DX K F v d ∧ Fit5 d ∧ (∀ ts, AccT d ts → ∀ F' H' q kvs, Z.Ws [(q, .dK kvs)] F H F' H' → KvOk K F' kvs ts → Q (.ref q) H') ∧ ((∀ ts, ¬ AccT d ts) → ∀ H', Same H H' → E (.ref A.NoSchema) none H')
theorem AccT.not {d : PyData} {ts : List Tab} (h : AccT d ts) : seqD d ≠ none := by
  obtain ⟨tds, h, _⟩ := h
  rcases h with rfl | rfl <;> exact fun e => by cases e
theorem AccT.at {d e : PyData} {ds : List PyData} {ts : List Tab} {i : Nat} (h : AccT d ts) (hs : seqD d = some ds) (he : ds[i]? = some e) : ∃ t c, ts[i]? = some t ∧ e = .tuple [.str t.1, c] ∧ Acc c t.2 ∧ Name t.1 := by
  obtain ⟨tds, h1, h2, h3, h4⟩ := h
  have := seqD_of hs h1
  subst this
  have hl := (List.getElem?_eq_some_iff.mp he).1
  have ht : ts[i]? = some (ts[i]'(by omega)) := List.getElem?_eq_getElem _
  obtain ⟨c, e1, e2⟩ := h3 i e _ he ht
  exact ⟨_, c, ht, e1, e2, (h4.nm _ (List.mem_of_getElem? ht)).1⟩
theorem ok_tables_in (T : Txt K mg A) : ∃ fd, FnOk P w K mg base (L2.CX P w) 3 A.f_tables_in fd ["thing"] (sp_tables_in K A) ∧ Binds K fd ["thing"] [] := by
  have ⟨fd, F, b⟩ := T.d_tables_in
  refine ⟨fd, F.okX sc_tables_in (fun vs H Q E h => ?_) (fun cdv Ar outer s H vs Q E hr h => ?_), b⟩
  · obtain ⟨F0, v, d, rfl, _⟩ := h
    rfl
  · obtain ⟨F0, v, d, rfl, sm, hv, fit, k, kx⟩ := h
    have nd := sc_tables_in.nd
    have hu := hu_of hr
    have ⟨fd_is_row_of, G_is_row_of, b_is_row_of⟩ := ok_is_row_of (P := P) (w := w) (base := base) T
    have ⟨fd_need_pair, G_need_pair, b_need_pair⟩ := ok_need_pair (P := P) (w := w) (base := base) T
    have ⟨fd_is_name, G_is_name, b_is_name⟩ := ok_is_name (P := P) (w := w) (base := base) T
    have ⟨fd_columns_in, G_columns_in, b_columns_in⟩ := ok_columns_in (P := P) (w := w) (base := base) T
    refine ⟨_, (pss_cons (ps_if (pt_not (pt_val (pe_call G_is_row_of (hr.mono (by decide)) (by rfl) T.g_is_row_of T.d_is_row_of.kp b_is_row_of .nil pass0 (pa_cons (pv 0) (pa_cons pe_int (pa_cons (Z.pe_gint rfl T.v_MOST_TABLES) pa_nil)))))) (pss_one (ps_raise rfl (takes_of rfl rfl rfl rfl) (Z.pmk_own0 PySem.F.excBase_ValueError T.xF_NoSchema T.g_NoSchema T.kc_NoSchema (raises_own T.sb_NoSchema T.tb_NoSchema)))) pss_nil)
      (pss_cons (ps_set (i := 1) nd rfl (Or.inl rfl) pe_dnewK)
      (pss_cons (ps_for (passes_of rfl) rfl (Z.pi_seq (pv 0)) (pg_name (i := 2) nd rfl (Or.inl rfl)) (pss_cons (ps_expr (pe_call G_need_pair (hr.mono (by decide)) (by rfl) T.g_need_pair T.d_need_pair.kp b_need_pair .nil (passes_call (takes_of rfl rfl rfl rfl) (fun _ _ _ _ h => h)) (pa_cons (pv 2) pa_nil)))
      (pss_cons (ps_if (PW.pt (pw_or (pt_not (pt_val (pe_call G_is_name (hr.mono (by decide)) (by rfl) T.g_is_name T.d_is_name.kp b_is_name .nil pass0 (pa_cons (pe_ix ix_tup (pv 2) pe_int (fun _ _ => rfl)) pa_nil)))) (pw_or1 (pt_cmp (pc_din hu (pe_ix ix_tup (pv 2) pe_int (fun _ _ => rfl)) (pv 1)))))) (pss_one (ps_raise rfl (takes_of rfl rfl rfl rfl) (Z.pmk_own0 PySem.F.excBase_ValueError T.xF_NoSchema T.g_NoSchema T.kc_NoSchema (raises_own T.sb_NoSchema T.tb_NoSchema)))) pss_nil)
      (pss_one (ps_dput hu (pv 1) (pe_ix ix_tup (pv 2) pe_int (fun _ _ => rfl)) (pe_call G_columns_in (hr.mono (by decide)) (by rfl) T.g_columns_in T.d_columns_in.kp b_columns_in .nil (passes_call (takes_of rfl rfl rfl rfl) (fun _ _ _ _ h => h)) (pa_cons (pe_ix ix_tup (pv 2) pe_int (fun _ _ => rfl)) pa_nil)) rfl)))))
      (pss_one (ps_ret (pv 1)))))), ?_⟩
    simp only [cxOf, Cx.nox, L2.start, List.map_cons, List.map_nil, List.length_cons, List.length_nil, Nat.reduceAdd, Nat.reduceSub, List.replicate, List.cons_append, List.nil_append]
    walk_at "z"
    refine ⟨v, d, 1, 4, rfl, Z.dx_same sm hv, fun H1 s1 => ?_⟩
    cases hs : seqD d with
    | none =>
      walk_at "z"
      exact kx (fun cs h => h.not hs) _ s1
    | some ds =>
    have W1 := (Z.Ws.init sm).exts s1
    obtain ⟨a, xs, rfl, hq, hds⟩ := dx_seq hv hs
    have hl := Z.dxs_len hds
    have fit' := fit5_seq fit hs
    have bad : ∀ {i : Nat} {e : PyData}, ds[i]? = some e → (∀ (z : Str) (c : PyData) (cs : List Col), e = .tuple [.str z, c] → Acc c cs → Name z → False) → ∀ ts, ¬ AccT d ts := fun he hno ts h => by
      obtain ⟨t, c, _, e, h1, h2⟩ := h.at hs he
      exact hno t.1 c t.2 e h1 h2
    by_cases hb : (1 : Int) ≤ ds.length ∧ (ds.length : Int) ≤ 4
    · rw [show rowOf 1 4 (some ds) = true from decide_eq_true hb]
      walk_at "z"
      intro q hq1
      have W2 := W1.new (o := .dK []) hq1
      generalize upd H1 q (.dK []) = H2 at W2 ⊢
      walk_at "z"
      refine Z.forSqD (hq.imp (W2.fh.seq ·) (Z.seqT W2.fh ·)) (fun i σ H' => (∃ v2, σ = [some (.ref a), some (.ref q), v2]) ∧ ∃ F' kvs ts', Z.Ws [(q, .dK kvs)] F0 H F' H' ∧ Same F0 F' ∧ KvOk K F' kvs ts' ∧ ts'.length = min i ds.length ∧
          (∀ (j : Nat) (e : PyData) (t : Tab), ds[j]? = some e → ts'[j]? = some t → ∃ c, e = .tuple [.str t.1, c] ∧ Acc c t.2) ∧ (∀ t ∈ ts', Name t.1) ∧ (ts'.map (·.1)).Nodup)
        ⟨⟨_, rfl⟩, F0, [], [], W2, Same.refl _, .nil, by simp, (fun j e t _ h => by simp at h), (fun c h => nomatch h), List.nodup_nil⟩ hq (fun i σ H' ⟨_, _, _, _, W, s, _⟩ => s.trans W.fh) ?_ ?_
      · rintro i x σ H' hx ⟨⟨v2, rfl⟩, F1, kvs, ts', W, sF, kv, tl, hpre, hnm, hnd⟩
        obtain ⟨e, he, hxe⟩ := Z.dxs_ix hds hx
        have hxe := Z.dx_same sF hxe
        have hil := (List.getElem?_eq_some_iff.mp he).1
        have fe := fit' e (List.mem_of_getElem? he)
        have bad := fun h => bad (i := i) he h
        walk_at "z"
        refine ⟨x, e, rfl, Z.dx_same W.fh hxe, fun ea eb hp => ?_, fun hp => kx (bad fun z c cs hc _ _ => by rw [hc] at hp; cases hp) _ W.same⟩
        have ee := pair2_some hp
        subst ee
        obtain ⟨y, yx, rfl, hy, hyx⟩ := Z.dx_tup hxe
        obtain ⟨x1, x2, rfl, hx1, hx2⟩ := Z.dxs2 hyx
        have hyH := Z.seqT W.fh hy
        walk_at "z"
        refine ixTv (i := 0) hyH rfl ?_
        walk_at "z"
        refine ⟨x1, ea, rfl, Z.dx_same W.fh hx1, fit_small ((fe ea (by simp)).1), ?_⟩
        cases hna : named ea with
        | false =>
          walk_at "z"
          exact kx (bad fun z c cs hc _ h1 => by
            simp only [PyData.tuple.injEq, List.cons.injEq, and_true] at hc
            rw [hc.1] at hna
            exact absurd h1 (of_decide_eq_false hna)) _ W.same
        | true =>
          obtain ⟨z, rfl, hz⟩ := named_str hna
          cases Z.dx_str hx1
          walk_at "z"
          refine ixTv (i := 0) hyH rfl ?_
          walk_at "z"
          refine dinS (W.at 0 rfl) ?_
          by_cases hin : z ∈ ts'.map (·.1)
          · obtain ⟨t', ht', rfl⟩ := List.mem_map.mp hin
            obtain ⟨w', ew, _⟩ := kv.some hnd ht'
            rw [ew]
            walk_at "z"
            refine kx (fun ts h => ?_) _ W.same
            obtain ⟨j, hj⟩ := List.mem_iff_getElem?.mp ht'
            have hjl := (List.getElem?_eq_some_iff.mp hj).1
            have hdj : ds[j]? = some (ds[j]'(by omega)) := List.getElem?_eq_getElem _
            obtain ⟨c1, e1, _⟩ := hpre j _ t' hdj hj
            obtain ⟨t1, c2, g1, e2, _, _⟩ := h.at hs hdj
            obtain ⟨t2, c3, g2, e3, _, _⟩ := h.at hs he
            rw [e2] at e1
            simp only [PyData.tuple.injEq, List.cons.injEq, and_true, PyData.str.injEq] at e1 e3
            obtain ⟨_, _, _, _, tk⟩ := h
            have n1 : (ts.map (·.1))[j]? = some t'.1 := by rw [List.getElem?_map, g1, ← e1.1]; rfl
            have n2 : (ts.map (·.1))[i]? = some t'.1 := by rw [List.getElem?_map, g2, e3.1]; rfl
            have := nd_ix tk.nd n1 n2
            omega
          · rw [kv.none hin]
            walk_at "z"
            refine ixTv (i := 1) hyH rfl ?_
            walk_at "z"
            refine ⟨F1, x2, eb, rfl, W.fh, hx2, (fe eb (by simp)).2, fun cs hcs F2 H3 r g2 hr => ?_, fun hno H3 s3 => kx (bad fun z' c cs hc h1 _ => by
              simp only [PyData.tuple.injEq, List.cons.injEq, and_true] at hc
              rw [← hc.2] at h1
              exact hno cs h1) _ (W.exts s3).same⟩
            have W3 := W.ext g2
            have hyH3 := Z.seqT g2.h hyH
            walk_at "z"
            refine ixTv (i := 0) hyH3 rfl ?_
            have kl := kv.len
            refine dputS (W3.at 0 rfl) (by omega) ?_
            walk_at "z"
            refine ⟨⟨_, rfl⟩, F2, _, ts' ++ [(z, cs)], W3.set 0 rfl _, sF.trans g2.f, ?_, ?_, ?_, ?_, ?_⟩
            · rw [put_end (kv.none hin)]
              exact (kv.same g2.f).snoc (t := (z, cs)) hr
            · rw [List.length_append]
              show ts'.length + 1 = _
              omega
            · intro j e' t' hj ht'
              by_cases hji : j < ts'.length
              · rw [List.getElem?_append_left hji] at ht'
                exact hpre j e' t' hj ht'
              · have hjl := (List.getElem?_eq_some_iff.mp ht').1
                rw [List.length_append] at hjl
                have : j = i := by simp at hjl; omega
                subst this
                rw [he] at hj
                cases hj
                rw [List.getElem?_append_right (by omega), show j - ts'.length = 0 by omega] at ht'
                cases ht'
                exact ⟨eb, rfl, hcs⟩
            · intro t ht
              rcases List.mem_append.mp ht with h | h
              · exact hnm t h
              · rw [List.mem_singleton.mp h]; exact hz
            · rw [List.map_append, List.nodup_append]
              exact ⟨hnd, by simp, fun a ha b hb e => by
                rw [List.map_cons, List.map_nil, List.mem_singleton] at hb
                rw [e, hb] at ha
                exact hin ha⟩
      · rintro σ H' ⟨⟨v2, rfl⟩, F1, kvs, ts', W, sF, kv, tl, hpre, hnm, hnd⟩
        rw [hl, Nat.min_self] at tl
        have hok : TabsOk ts' := ⟨by omega, by omega, fun t ht => ⟨hnm t ht, by
          obtain ⟨j, hj⟩ := List.mem_iff_getElem?.mp ht
          have hjl := (List.getElem?_eq_some_iff.mp hj).1
          obtain ⟨c, _, h⟩ := hpre j _ t (List.getElem?_eq_getElem (by omega)) hj
          exact h.2⟩, hnd⟩
        walk_at "z"
        exact k ts' ⟨ds, seqD_to hs rfl, by omega, fun i e t h1 h2 => hpre i e t h1 h2, hok⟩ F1 H' q kvs W kv
    · rw [show rowOf 1 4 (some ds) = false from decide_eq_false hb]
      walk_at "z"
      refine kx (fun ts h => hb ?_) _ s1
      obtain ⟨tds, h1, h2, _, tk⟩ := h
      have := seqD_of hs h1
      have l := tk.lo
      have l2 := tk.hi
      rw [this]
      omega

def sp_orders_in (K : PySem.W.Frag) (A : Adr) : Sp := fun vs H Q E => ∃ (F : Hp) (v : V) (d : PyData) (dd : Addr) (kvs : List (Key × V)) (ts : List Tab), vs = [v, .ref dd] ∧ Same F H ∧ Z.DX K F v d ∧ Fit3 d ∧ H dd = some (.dK kvs) ∧ KvOk K F kvs ts ∧ TabsOk ts ∧
  (∀ os, AccO ts d os → ∀ F' H' r, Z.Gr F H F' H' → Dp K F' r (.tuple (os.map pairD)) → Q r H') ∧ ((∀ os, ¬ AccO ts d os) → ∀ H', Same H H' → E (.ref A.NoSchema) none H')
theorem AccO.seq {d : PyData} {ds : List PyData} {ts : List Tab} {os : List (Str × Str)} (h : AccO ts d os) (hs : seqD d = some ds) : ds = os.map pairD := seqD_of hs h.1
theorem AccO.not {d : PyData} {ts : List Tab} {os : List (Str × Str)} (h : AccO ts d os) : seqD d ≠ none := by
  rcases h.1 with rfl | rfl <;> exact fun e => by cases e
theorem ok_orders_in (T : Txt K mg A) : ∃ fd, FnOk P w K mg base (L2.CX P w) 2 A.f_orders_in fd ["thing", "tables"] (sp_orders_in K A) ∧ Binds K fd ["thing", "tables"] [] := by
  have ⟨fd, F, b⟩ := T.d_orders_in
  refine ⟨fd, F.okX sc_orders_in (fun vs H Q E h => ?_) (fun cdv Ar outer s H vs Q E hr h => ?_), b⟩
  · obtain ⟨F0, v, d, dd, kvs, ts, rfl, _⟩ := h
    rfl
  · obtain ⟨F0, v, d, dd, kvs, ts, rfl, sm, hv, fit, hdk, kv, tk, k, kx⟩ := h
    have nd := sc_orders_in.nd
    have hu := hu_of hr
    have ⟨fd_is_row_of, G_is_row_of, b_is_row_of⟩ := ok_is_row_of (P := P) (w := w) (base := base) T
    have ⟨fd_need_pair, G_need_pair, b_need_pair⟩ := ok_need_pair (P := P) (w := w) (base := base) T
    have ⟨fd_is_name, G_is_name, b_is_name⟩ := ok_is_name (P := P) (w := w) (base := base) T
    refine ⟨_, (pss_cons (ps_if (pt_not (pt_val (pe_call G_is_row_of (hr.mono (by decide)) (by rfl) T.g_is_row_of T.d_is_row_of.kp b_is_row_of .nil pass0 (pa_cons (pv 0) (pa_cons pe_int (pa_cons (Z.pe_gint rfl T.v_MOST_ORDERS) pa_nil)))))) (pss_one (ps_raise rfl (takes_of rfl rfl rfl rfl) (Z.pmk_own0 PySem.F.excBase_ValueError T.xF_NoSchema T.g_NoSchema T.kc_NoSchema (raises_own T.sb_NoSchema T.tb_NoSchema)))) pss_nil)
      (pss_cons (ps_set (i := 2) nd rfl (Or.inl rfl) (pe_lst pa_nil))
      (pss_cons (ps_for (passes_of rfl) rfl (Z.pi_seq (pv 0)) (pg_name (i := 3) nd rfl (Or.inl rfl)) (pss_cons (ps_expr (pe_call G_need_pair (hr.mono (by decide)) (by rfl) T.g_need_pair T.d_need_pair.kp b_need_pair .nil (passes_call (takes_of rfl rfl rfl rfl) (fun _ _ _ _ h => h)) (pa_cons (pv 3) pa_nil)))
      (pss_cons (ps_asg (pv 3) (pg_tup rfl (pgs_cons (pg_name (i := 4) nd rfl (Or.inl rfl)) (pgs_cons (pg_name (i := 5) nd rfl (Or.inl rfl)) pgs_nil))))
      (pss_cons (ps_if (PW.pt (pw_or (pt_not (pt_val (pe_call G_is_name (hr.mono (by decide)) (by rfl) T.g_is_name T.d_is_name.kp b_is_name .nil pass0 (pa_cons (pv 4) pa_nil)))) (pw_or (pt_not (pt_val (pe_call G_is_name (hr.mono (by decide)) (by rfl) T.g_is_name T.d_is_name.kp b_is_name .nil pass0 (pa_cons (pv 5) pa_nil)))) (pw_or (pt_cmp (pc_dnotin hu (pv 4) (pv 1))) (pw_or1 (pt_cmpR (op_inD (Z.hu65 hr)) (pv 3) (pv 2) (by rfl))))))) (pss_one (ps_raise rfl (takes_of rfl rfl rfl rfl) (Z.pmk_own0 PySem.F.excBase_ValueError T.xF_NoSchema T.g_NoSchema T.kc_NoSchema (raises_own T.sb_NoSchema T.tb_NoSchema)))) pss_nil)
      (pss_cons (ps_if (pt_cmpR op_notIn_seq (pv 5) (pe_lc (own := [("name", 6), ("kind", 7)]) rfl nd (pi_tup (pe_slice sl_tupA (pe_dget hu (pv 1) (pv 4) (fun _ _ => rfl)) (po_some pe_int) po_none)) (blkOk_by (own := [("name", 6), ("kind", 7)]) (N := ["thing", "tables", "found", "order", "table", "column", "name", "kind"]) (sc := defScope s_orders_in) (by decide +kernel)) (fun _ _ _ _ _ => (pg_tupK (K := K) (n := 2) rfl rfl (pgs_cons (pg_name (i := 6) nd rfl (Or.inl rfl)) (pgs_cons (pg_name (i := 7) nd rfl (Or.inl rfl)) pgs_nil)))) (fun _ _ _ _ _ => pts_nil) (fun _ _ _ _ _ => (pv 6))) (by rfl)) (pss_one (ps_raise rfl (takes_of rfl rfl rfl rfl) (Z.pmk_own0 PySem.F.excBase_ValueError T.xF_NoSchema T.g_NoSchema T.kc_NoSchema (raises_own T.sb_NoSchema T.tb_NoSchema)))) pss_nil)
      (pss_one (ps_expr (pe_bm PySem.F.plainAttrs_list PySem.F.slot_list_append PySem.F.type_list_append mt_append (pv 2) (pa_cons (pv 3) pa_nil)))))))))
      (pss_one (ps_ret (pe_callTy call_tuple_of (by rfl) T.b_tuple (by decide +kernel) (pa_cons (pv 2) pa_nil))))))), ?_⟩
    simp only [cxOf, Cx.nox, L2.start, List.map_cons, List.map_nil, List.length_cons, List.length_nil, Nat.reduceAdd, Nat.reduceSub, List.replicate, List.cons_append, List.nil_append]
    walk_at "z"
    refine ⟨v, d, 0, 4, rfl, Z.dx_same sm hv, fun H1 s1 => ?_⟩
    cases hs : seqD d with
    | none =>
      walk_at "z"
      exact kx (fun cs h => h.not hs) _ s1
    | some ds =>
    have W1 := (Z.Ws.init sm).exts s1
    obtain ⟨a, xs, rfl, hq, hds⟩ := dx_seq hv hs
    have hl := Z.dxs_len hds
    have fit' := fit3_seq fit hs
    have bad : ∀ {i : Nat} {e : PyData}, ds[i]? = some e → (∀ o : Str × Str, e = pairD o → (∃ t ∈ ts, t.1 = o.1 ∧ ∃ c ∈ t.2.drop 1, c.1 = o.2) → False) → ∀ os, ¬ AccO ts d os := fun he hno os h => by
      rw [h.seq hs, List.getElem?_map] at he
      obtain ⟨o, ho, rfl⟩ := Option.map_eq_some_iff.mp he
      exact hno o rfl (h.2.nm o (List.mem_of_getElem? ho))
    by_cases hb : (0 : Int) ≤ ds.length ∧ (ds.length : Int) ≤ 4
    · rw [show rowOf 0 4 (some ds) = true from decide_eq_true hb]
      walk_at "z"
      refine ⟨by simp only [List.length_cons, List.length_nil]; decide, fun q hq1 => ?_⟩
      have W2 := W1.new (o := .lst []) hq1
      generalize upd H1 q (.lst []) = H2 at W2 ⊢
      walk_at "z"
      refine Z.forSqD (hq.imp (W2.fh.seq ·) (Z.seqT W2.fh ·)) (fun i σ H' => (∃ v3 v4 v5 v6 v7, σ = [some (.ref a), some (.ref dd), some (.ref q), v3, v4, v5, v6, v7]) ∧ ∃ F' os', Z.Ws [(q, .lst (xs.take i))] F0 H F' H' ∧ Same F0 F' ∧ ds.take i = os'.map pairD ∧ (∀ o ∈ os', Name o.1 ∧ Name o.2) ∧ (∀ o ∈ os', ∃ t ∈ ts, t.1 = o.1 ∧ ∃ c ∈ t.2.drop 1, c.1 = o.2) ∧ os'.Nodup)
        ⟨⟨_, _, _, _, _, rfl⟩, F0, [], W2, Same.refl _, rfl, (fun c h => nomatch h), (fun c h => nomatch h), List.nodup_nil⟩ hq (fun i σ H' ⟨_, _, _, W, s, _⟩ => s.trans W.fh) ?_ ?_
      · rintro i x σ H' hx ⟨⟨v3, v4, v5, v6, v7, rfl⟩, F1, os', W, sF, et, hnm, hin, hnd⟩
        obtain ⟨e, he, hxe0⟩ := Z.dxs_ix hds hx
        have hxe := Z.dx_same sF hxe0
        have hil := (List.getElem?_eq_some_iff.mp he).1
        have fe := fit' e (List.mem_of_getElem? he)
        have bad := fun h => bad (i := i) he h
        have hdk' := W.same _ _ hdk
        walk_at "z"
        refine ⟨x, e, rfl, Z.dx_same W.fh hxe, fun ea eb hp => ?_, fun hp => kx (bad fun o hc _ => by rw [hc] at hp; cases hp) _ W.same⟩
        have ee := pair2_some hp
        subst ee
        walk_at "z"
        refine Z.gtupX hxe W.fh fun ys hys => ?_
        obtain ⟨x1, x2, rfl, hx1, hx2⟩ := Z.dxs2 hys
        walk_at "z"
        refine ⟨x1, ea, rfl, Z.dx_same W.fh hx1, fit_small (fe.2 ea (by simp)), ?_⟩
        cases hna : named ea with
        | false =>
          walk_at "z"
          exact kx (bad fun o hc h => by
            simp only [pairD, PyData.tuple.injEq, List.cons.injEq, and_true] at hc
            obtain ⟨t, ht, e1, _⟩ := h
            rw [hc.1, ← e1] at hna
            exact absurd (tk.nm t ht).1 (of_decide_eq_false hna)) _ W.same
        | true =>
        obtain ⟨z, rfl, hz⟩ := named_str hna
        cases Z.dx_str hx1
        walk_at "z"
        refine ⟨x2, eb, rfl, Z.dx_same W.fh hx2, fit_small (fe.2 eb (by simp)), ?_⟩
        cases hnb : named eb with
        | false =>
          walk_at "z"
          exact kx (bad fun o hc h => by
            simp only [pairD, PyData.tuple.injEq, List.cons.injEq, and_true] at hc
            obtain ⟨t, ht, _, c, hcm, e2⟩ := h
            rw [hc.2, ← e2] at hnb
            exact absurd ((tk.nm t ht).2.nm c (List.mem_of_mem_drop hcm)).1 (of_decide_eq_false hnb)) _ W.same
        | true =>
        obtain ⟨y, rfl, hy⟩ := named_str hnb
        cases Z.dx_str hx2
        walk_at "z"
        refine dinS hdk' ?_
        by_cases htz : z ∈ ts.map (·.1)
        · obtain ⟨t, htm, et1⟩ := List.mem_map.mp htz
          obtain ⟨w', ew, hw'⟩ := kv.some tk.nd htm
          rw [et1] at ew
          rw [ew]
          walk_at "z"
          have hxp : Dp K F1 x (pairD (z, y)) := dx_pair hxe
          have hot : DpAll K F0 (xs.take i) (os'.map pairD) := dx_pairs (by rw [← et]; exact Z.dxs_take i hds)
          refine ⟨_, _, Z.dp_same W.fh hxp, .lst (SqL.of (W.at 0 rfl)) (Z.dpa_same (sF.trans W.fh) hot), shaped_pair (pairOk_of ⟨hz, hy⟩), shaped_pairsL (fun o h => pairOk_of (hnm o h)), ?_⟩
          rw [any_pair]
          by_cases hino : (z, y) ∈ os'
          · rw [decide_eq_true hino]
            walk_at "z"
            refine kx (fun os h => ?_) _ W.same
            have e2 := h.seq hs
            rw [e2, ← List.map_take] at et
            have e3 := map_pairD_inj et
            rw [e2, List.getElem?_map] at he
            obtain ⟨o, ho, eo⟩ := Option.map_eq_some_iff.mp he
            have eo' : o = (z, y) := pairD_inj eo
            subst eo'
            have nd := h.2.nd
            rw [← List.take_append_drop i os, List.nodup_append] at nd
            exact nd.2.2 (z, y) (by rw [e3]; exact hino) (z, y) (List.mem_of_getElem? (i := 0) (by rw [List.getElem?_drop]; exact ho)) rfl
          · rw [decide_eq_false hino]
            walk_at "z"
            refine dgetS hdk' ew ?_
            walk_at "z"
            refine Z.slT W (Z.dp_same sF hw') fun r F2 H2 W3 s2 hr => ?_
            rw [show Z.cutD (List.map pairD t.2) (some 1) none = (List.map pairD t.2).drop 1 from cutD_tail _ 1, List.drop_one, ← List.map_tail] at hr
            obtain ⟨ra, rx, rfl, hr1, hr2⟩ := Z.dp_tup hr
            refine ⟨ra, rfl, ⟨_, Z.seqT W3.fh hr1⟩, fun D hD => ?_⟩
            refine lc_it walk_tup (Z.LcP K D _ F0 H F2 (t.2.tail.map fun c => .str c.1)) (Z.lc0 W3 hD) (fun i H' hi ⟨F', vs, W, s, _⟩ => Z.seqT (s.trans W.fh) hr1) ?_ ?_
            · rintro j x H3 H4 hj ⟨F3, vs, W4, s4, ha⟩ ⟨rfl, hx⟩
              obtain ⟨dd, e1, e2⟩ := Z.dpa_ix hr2 hx
              rw [List.getElem?_map] at e1
              obtain ⟨c', hc', rfl⟩ := Option.map_eq_some_iff.mp e1
              have e2 := Z.dp_same s4 e2
              refine Z.gtupD e2 W4.fh fun ys hys => ?_
              obtain ⟨x1, x2, rfl, hx1, hx2⟩ := Z.dpa2 hys
              cases Z.dp_str hx1
              cases Z.dp_str hx2
              walk_at "z"
              refine ⟨rfl, ?_⟩
              walk_at "z"
              exact Z.lcS W4 s4 ha (by rw [List.getElem?_map, hc']; rfl) (.str _) (by rw [List.length_map, List.length_tail]; have := (tk.nm t htm).2.hi; omega)
            · rintro H3 ⟨F3, vs, W4, s4, ha⟩
              have hlen : rx.length = (t.2.tail.map fun c => PyData.str c.1).length := by rw [Z.dpa_len hr2, List.length_map, List.length_map]
              rw [hlen, List.take_length] at ha
              have ha : DpAll K F3 vs ((t.2.tail.map fun c => c.1).map PyData.str) := by rw [List.map_map]; exact ha
              cases Z.dpa_strs ha
              refine ⟨D, _, rfl, .inl (SqL.of (W4.at 0 rfl)), rfl, flat_str _, ?_⟩
              rw [inV_str]
              by_cases hyc : y ∈ t.2.tail.map (·.1)
              · rw [decide_eq_true hyc]
                walk_at "z"
                refine ⟨.inl ⟨rfl, _, SqL.of (W4.at 1 rfl)⟩, ?_⟩
                walk_at "z"
                refine Z.appW W4 1 rfl (fun H3 W5 => ?_) (by rw [List.length_take]; omega)
                walk_at "z"
                refine ⟨⟨_, _, _, _, _, rfl⟩, F3, os' ++ [(z, y)], ?_, sF.trans (s2.trans s4), ?_, ?_, ?_, ?_⟩
                · rw [List.take_add_one, hx]
                  exact W5.pick [1] (by decide) rfl
                · rw [List.take_add_one, he, et, List.map_append]
                  rfl
                · intro o ho
                  rcases List.mem_append.mp ho with h | h
                  · exact hnm o h
                  · rw [List.mem_singleton.mp h]; exact ⟨hz, hy⟩
                · intro o ho
                  rcases List.mem_append.mp ho with h | h
                  · exact hin o h
                  · rw [List.mem_singleton.mp h]
                    obtain ⟨c, hc, ec⟩ := List.mem_map.mp hyc
                    exact ⟨t, htm, et1, c, by rw [List.drop_one]; exact hc, ec⟩
                · rw [List.nodup_append]
                  exact ⟨hnd, by simp, fun a ha b hb e => by
                    rw [List.mem_singleton] at hb
                    rw [e, hb] at ha
                    exact hino ha⟩
              · rw [decide_eq_false hyc]
                walk_at "z"
                exact kx (bad fun o hc h => by
                  have ho : o = (z, y) := (pairD_inj (a := (z, y)) (b := o) hc).symm
                  subst ho
                  obtain ⟨t', ht', e1, c, hcm, e2⟩ := h
                  have : t' = t := by
                    obtain ⟨j, hj⟩ := List.mem_iff_getElem?.mp ht'
                    obtain ⟨l, hl⟩ := List.mem_iff_getElem?.mp htm
                    have n1 : (ts.map (·.1))[j]? = some z := by rw [List.getElem?_map, hj]; exact congrArg some e1
                    have n2 : (ts.map (·.1))[l]? = some z := by rw [List.getElem?_map, hl]; exact congrArg some et1
                    have := nd_ix tk.nd n1 n2
                    subst this
                    rw [hj] at hl
                    exact Option.some.inj hl
                  subst this
                  exact hyc (List.mem_map.mpr ⟨c, by rw [← List.drop_one]; exact hcm, e2⟩)) _ W4.same
        · rw [kv.none htz]
          walk_at "z"
          exact kx (bad fun o hc h => by
            obtain ⟨t, ht, e1, _⟩ := h
            have ho : o = (z, y) := (pairD_inj (a := (z, y)) (b := o) hc).symm
            subst ho
            exact htz (List.mem_map.mpr ⟨t, ht, e1⟩)) _ W.same
      · rintro σ H' ⟨⟨v3, v4, v5, v6, v7, rfl⟩, F1, os', W, sF, et, hnm, hin, hnd⟩
        rw [List.take_of_length_le (by omega)] at et
        rw [List.take_length] at W
        have hln : ds.length = os'.length := by rw [et, List.length_map]
        have hds' : DpAll K F0 xs (os'.map pairD) := dx_pairs (by rw [← et]; exact hds)
        walk_at "z"
        refine ⟨q, xs, rfl, .inl ⟨SqL.of (W.at 0 rfl), fun p hp => ?_⟩⟩
        have W5 := W.dat (o := .tup xs) hp
        exact k os' ⟨seqD_to hs et, by omega, hin, hnd⟩ _ _ _ W5.g (.tup (SqT.of upd_same) (Z.dpa_same (sF.trans (Z.same_new (W.freeF hp))) hds'))
    · rw [show rowOf 0 4 (some ds) = false from decide_eq_false hb]
      walk_at "z"
      refine kx (fun os h => hb ?_) _ s1
      have := h.seq hs
      have l2 := h.2.hi
      rw [this, List.length_map]
      omega
theorem Acc.one {d : PyData} {a b : List Col} (h1 : Acc d a) (h2 : Acc d b) : a = b := by
  rcases h1.1 with e1 | e1 <;> rcases h2.1 with e2 | e2 <;> rw [e1] at e2 <;> first | exact map_pairD_inj (by simpa using e2) | cases e2
theorem accT_one {d : PyData} {a b : List Tab} (h1 : AccT d a) (h2 : AccT d b) : a = b := by
  obtain ⟨x, x1, x2, x3, _⟩ := h1
  obtain ⟨y, y1, y2, y3, _⟩ := h2
  have e : x = y := by rcases x1 with e1 | e1 <;> rcases y1 with e2 | e2 <;> rw [e1] at e2 <;> first | exact (by simpa using e2) | cases e2
  subst e
  refine List.ext_getElem? fun i => ?_
  by_cases hi : i < x.length
  · have ha : a[i]? = some (a[i]'(by omega)) := List.getElem?_eq_getElem _
    have hb : b[i]? = some (b[i]'(by omega)) := List.getElem?_eq_getElem _
    obtain ⟨c, e1, e2⟩ := x3 i _ _ (List.getElem?_eq_getElem hi) ha
    obtain ⟨c', e3, e4⟩ := y3 i _ _ (List.getElem?_eq_getElem hi) hb
    rw [e1] at e3
    simp only [PyData.tuple.injEq, List.cons.injEq, PyData.str.injEq, and_true] at e3
    rw [← e3.2] at e4
    rw [ha, hb]
    exact congrArg some (Prod.ext e3.1 (e2.one e4))
  · rw [List.getElem?_eq_none (by omega), List.getElem?_eq_none (by omega)]
theorem dx_non {K : PySem.W.Frag} {F : Hp} {v : V} {d : PyData} (h : Z.DX K F v d) : v = .non ↔ d = .none := by
  cases h <;> simp
def sp_Schema___init__ (K : PySem.W.Frag) (A : Adr) : Sp := fun vs H Q E => ∃ (F B : Hp) (x dx : Addr) (v u : V) (td od : PyData), vs = [.ref x, v, u] ∧ Z.Ws [(x, .ins A.Schema dx [])] F B F H ∧ Z.DX K F v td ∧ Fit5 td ∧ Z.DX K F u od ∧ Fit3 od ∧
  (∀ ts os, AccT td ts → ((od = .none ∧ os = []) ∨ (od ≠ .none ∧ AccO ts od os)) → ∀ F' H' q kvs ko, Z.Ws [(x, .ins A.Schema dx (schF q ko)), (q, .dK kvs)] F B F' H' → Same F F' → KvOk K F' kvs ts → Dp K F' ko (.tuple (os.map pairD)) → Q .non H') ∧
  ((∀ ts, AccT td ts → od ≠ .none ∧ ∀ os, ¬ AccO ts od os) → ∀ H', Same B H' → E (.ref A.NoSchema) none H')
theorem ok_Schema___init__ (T : Txt K mg A) : ∃ fd, FnOk P w K mg base (L2.CX P w) 4 A.f_Schema___init__ fd ["self", "tables", "orders"] (sp_Schema___init__ K A) ∧ Binds K fd ["self", "tables", "orders"] [] ∧ ∃ ds, Vals [.non] ds ∧ Binds K fd ["self", "tables", "orders"] ds := by
  have ⟨fd, F, b⟩ := T.d_Schema___init__
  refine ⟨fd, FD.okX F sc_Schema___init__ (fun vs H Q E h => ?_) (fun cdv Ar outer s H vs Q E hr h => ?_), b⟩
  · obtain ⟨F0, B, x, dx, v, u, td, od, rfl, _⟩ := h
    rfl
  · obtain ⟨F0, B, x, dx, v, u, td, od, rfl, W0, ht, ft, ho, fo, k, kx⟩ := h
    have nd := sc_Schema___init__.nd
    have hu := hu_of hr
    have ⟨fd_tables_in, G_tables_in, b_tables_in⟩ := ok_tables_in (P := P) (w := w) (base := base) T
    have ⟨fd_orders_in, G_orders_in, b_orders_in⟩ := ok_orders_in (P := P) (w := w) (base := base) T
    refine ⟨_, (pss_cons (ps_fld (pv 0) (pe_call G_tables_in (hr.mono (by decide)) (by rfl) T.g_tables_in T.d_tables_in.kp b_tables_in .nil (passes_call (takes_of rfl rfl rfl rfl) (fun _ _ _ _ h => h)) (pa_cons (pv 1) pa_nil)) rfl)
      (pss_cons (ps_fld (pv 0) (pe_tup pa_nil) rfl)
      (pss_one (ps_if (pt_cmpR op_notN (pv 2) pe_non (nomark _)) (pss_one (ps_fld (pv 0) (pe_call G_orders_in (hr.mono (by decide)) (by rfl) T.g_orders_in T.d_orders_in.kp b_orders_in .nil (passes_call (takes_of rfl rfl rfl rfl) (fun _ _ _ _ h => h)) (pa_cons (pv 2) (pa_cons (pe_fld (pv 0) rfl) pa_nil))) rfl)) pss_nil)))), ?_⟩
    simp only [cxOf, Cx.nox, L2.start, List.map_cons, List.map_nil, List.length_cons, List.length_nil, Nat.reduceAdd, Nat.reduceSub, List.replicate, List.cons_append, List.nil_append]
    walk_at "z"
    refine ⟨F0, v, td, rfl, W0.fh, ht, ft, fun ts hts F1 H1 d kvs M1 kv => ?_, fun hno H1 s1 => kx (fun ts h => absurd h (hno ts)) _ (W0.same.trans s1)⟩
    have tk : TabsOk ts := by obtain ⟨_, _, _, _, h⟩ := hts; exact h
    have W1 := W0.join M1
    have hx1 : H1 x = some (.ins A.Schema dx []) := W1.at 1 rfl
    walk_at "z"
    have W2 := W1.set 1 rfl (.ins A.Schema dx [("columns", .ref d)])
    generalize upd H1 x (.ins A.Schema dx [("columns", .ref d)]) = H2 at W2 ⊢
    have hx2 : H2 x = some (.ins A.Schema dx [("columns", .ref d)]) := W2.at 1 rfl
    have hd2 : H2 d = some (.dK kvs) := W2.at 0 rfl
    walk_at "z"
    refine ⟨by simp only [List.length_nil]; decide, fun p hp => ?_⟩
    have W3 := W2.dat (o := .tup []) hp
    have sF3 := Z.same_new (o := .tup []) (W2.freeF hp)
    have dk : Dp K (upd F1 p (.tup [])) (.ref p) (.tuple ([].map pairD)) := .tup (SqT.of upd_same) .nil
    generalize upd H2 p (.tup []) = H3 at W3 ⊢
    generalize upd F1 p (.tup []) = F3 at W3 sF3 dk
    have hx3 : H3 x = some (.ins A.Schema dx [("columns", .ref d)]) := W3.at 1 rfl
    walk_at "z"
    have W4 := W3.set 1 rfl (.ins A.Schema dx [("columns", .ref d), ("kept_orders", .ref p)])
    generalize upd H3 x (.ins A.Schema dx [("columns", .ref d), ("kept_orders", .ref p)]) = H4 at W4 ⊢
    have hx4 : H4 x = some (.ins A.Schema dx (schF d (.ref p))) := W4.at 1 rfl
    have hd4 : H4 d = some (.dK kvs) := W4.at 0 rfl
    have kv3 := kv.same sF3
    have s03 := M1.f0.trans sF3
    walk_at "z"
    by_cases hne : u = .non
    · rw [decide_eq_true hne]
      walk_at "z"
      exact k ts [] hts (.inl ⟨(dx_non ho).mp hne, rfl⟩) F3 H4 d kvs _ (W4.pick [1, 0] (by decide) rfl) s03 kv3 dk
    · rw [decide_eq_false hne]
      have hod : od ≠ .none := fun e => hne ((dx_non ho).mpr e)
      walk_at "z"
      refine ⟨F3, u, od, d, kvs, ts, rfl, W4.fh, Z.dx_same s03 ho, fo, hd4, kv3, tk, fun os hos F5 H5 r g5 hr => ?_, fun hno H5 s5 => kx (fun ts' h' => ⟨hod, ?_⟩) _ (W4.same.trans s5)⟩
      · have W5 := W4.ext g5
        have hx5 : H5 x = some (.ins A.Schema dx (schF d (.ref p))) := W5.at 1 rfl
        walk_at "z"
        have W6 := W5.set 1 rfl (.ins A.Schema dx (schF d r))
        exact k ts os hts (.inr ⟨hod, hos⟩) F5 _ d kvs r (W6.pick [1, 0] (by decide) rfl) (s03.trans g5.f) (kv3.same g5.f) hr
      · rw [accT_one h' hts]
        exact hno

/-- a schema that stands -/
def IsSch (K : PySem.W.Frag) (A : Adr) (F : Hp) (v : V) (ts : List Tab) (os : List (Str × Str)) : Prop := ∃ x dx d kvs ko, v = .ref x ∧ F x = some (.ins A.Schema dx (schF d ko)) ∧ F d = some (.dK kvs) ∧ KvOk K F kvs ts ∧ Dp K F ko (.tuple (os.map pairD)) ∧ TabsOk ts ∧ OrdsOk ts os
theorem IsSch.same {K : PySem.W.Frag} {A : Adr} {F F' : Hp} {v : V} {ts : List Tab} {os : List (Str × Str)} (h : IsSch K A F v ts os) (s : Same F F') : IsSch K A F' v ts os := by
  obtain ⟨x, dx, d, kvs, ko, e, h1, h2, h3, h4, h5⟩ := h
  exact ⟨x, dx, d, kvs, ko, e, s _ _ h1, s _ _ h2, h3.same s, Z.dp_same s h4, h5⟩

def sp_Schema_table_names (K : PySem.W.Frag) (A : Adr) : Sp := fun vs H Q _ => ∃ (F : Hp) (v : V) (ts : List Tab) (os : List (Str × Str)), vs = [v] ∧ Same F H ∧ IsSch K A F v ts os ∧ ∀ H' p, Z.Ws [(p, .lst (ts.map fun t => .str t.1))] F H F H' → Q (.ref p) H'
theorem ok_Schema_table_names (T : Txt K mg A) : ∃ fd, FnOk P w K mg base CX0 1 A.f_Schema_table_names fd ["self"] (sp_Schema_table_names K A) ∧ Binds K fd ["self"] [] := by
  have ⟨fd, F, b⟩ := T.d_Schema_table_names
  refine ⟨fd, F.ok sc_Schema_table_names (fun vs H Q E h => ?_) (fun cdv Ar outer s H vs Q E hr h => ?_), b⟩
  · obtain ⟨F0, v, ts, os, rfl, _⟩ := h
    rfl
  · obtain ⟨F0, v, ts, os, rfl, sm, hs, k⟩ := h
    have nd := sc_Schema_table_names.nd
    have hu := hu_of hr
    refine ⟨_, (pss_one (ps_ret (pe_callTy (call_listD rfl) (by rfl) T.b_list (by decide +kernel) (pa_cons (pe_fld (pv 0) rfl) pa_nil)))), ?_⟩
    simp only [cxOf, Cx.nox, L2.start, List.map_cons, List.map_nil, List.length_cons, List.length_nil, Nat.reduceAdd, Nat.reduceSub, List.replicate, List.cons_append, List.nil_append]
    obtain ⟨x, dx, d, kvs, ko, rfl, hx, hd, kv, hk, tk, ok⟩ := hs
    have hx' := sm _ _ hx
    have hd' := sm _ _ hd
    walk_at "z"
    refine ⟨d, kvs, rfl, .inl hd', fun p hp => ?_⟩
    rw [kv.keys]
    exact k _ p ((Z.Ws.init sm).new hp)

/-! ### the law's schema -/
def tabD (t : Tab) : PyData := .tuple [.str t.1, .list (t.2.map pairD)]
def ValD (kd : Str) (d : PyData) : Prop := (kd = "word" ∧ ∃ z, d = .str z ∧ Name z) ∨ (kd = "number" ∧ ∃ i, d = .int i ∧ -(10 ^ 9) ≤ i ∧ i ≤ 10 ^ 9)
def sp_law_value (K : PySem.W.Frag) (A : Adr) : Sp := fun vs H Q _ => ∃ (F : Hp) (kd : Str) (c : Int), vs = [.str kd, .int c] ∧ Same F H ∧ Kind kd ∧ 0 ≤ c ∧ ∀ F' H' v d, Z.Gr F H F' H' → Dp K F' v d → ValD kd d → Q v H'
def somePairs (ts : List Tab) : List (Str × Str) := ts.flatMap fun t => (t.2.drop 1).map fun c => (t.1, c.1)
theorem some_mem {ts : List Tab} {o : Str × Str} (h : o ∈ somePairs ts) : ∃ t ∈ ts, t.1 = o.1 ∧ ∃ c ∈ t.2.drop 1, c.1 = o.2 := by
  obtain ⟨t, ht, m⟩ := List.mem_flatMap.mp h
  obtain ⟨c, hc, rfl⟩ := List.mem_map.mp m
  exact ⟨t, ht, rfl, c, hc, rfl⟩
theorem some_nodup : ∀ {ts : List Tab}, (ts.map (·.1)).Nodup → (∀ t ∈ ts, (t.2.map (·.1)).Nodup) → (somePairs ts).Nodup
  | [], _, _ => List.nodup_nil
  | t :: r, nd, h => by
    rw [List.map_cons, List.nodup_cons] at nd
    show (((t.2.drop 1).map fun c => (t.1, c.1)) ++ somePairs r).Nodup
    rw [List.nodup_append]
    refine ⟨?_, some_nodup nd.2 fun x hx => h x (List.mem_cons_of_mem _ hx), fun a ha b hb e => ?_⟩
    · have n1 : ((t.2.drop 1).map (·.1)).Nodup := by
        have := h t List.mem_cons_self
        rw [← List.take_append_drop 1 t.2, List.map_append, List.nodup_append] at this
        exact this.2.1
      rw [List.nodup_iff_pairwise_ne, List.pairwise_map] at n1 ⊢
      exact n1.imp fun h e => h (Prod.ext_iff.mp e).2
    · subst e
      obtain ⟨c, hc, rfl⟩ := List.mem_map.mp ha
      obtain ⟨t', ht', e1, _⟩ := some_mem hb
      exact nd.1 (List.mem_map.mpr ⟨t', ht', e1⟩)
theorem some_snoc (ts : List Tab) (t : Tab) : somePairs (ts ++ [t]) = somePairs ts ++ (t.2.drop 1).map fun c => (t.1, c.1) := by simp [somePairs]
theorem erase_map {α β : Type} {f : α → β} : ∀ {l : List α} {i : Nat}, (l.map f).eraseIdx i = (l.eraseIdx i).map f
  | [], _ => rfl
  | _ :: _, 0 => rfl
  | a :: r, i + 1 => congrArg (f a :: ·) (erase_map (l := r) (i := i))
theorem erase_perm {α : Type} {x : α} : ∀ {l : List α} {i : Nat}, l[i]? = some x → ([x] ++ l.eraseIdx i).Perm l
  | [], _, h => by simp at h
  | _ :: _, 0, h => by cases h; exact List.Perm.refl _
  | a :: r, i + 1, h => ((List.Perm.swap a x _).trans (List.Perm.cons a (erase_perm (l := r) (i := i) (by simpa using h))))
theorem some_len : ∀ ts : List Tab, (∀ t ∈ ts, ColsOk t.2) → (somePairs ts).length ≤ 4 * ts.length
  | [], _ => Nat.le_refl _
  | t :: r, h => by
    have := some_len r fun x hx => h x (List.mem_cons_of_mem _ hx)
    have h4 := (h t List.mem_cons_self).hi
    show (((t.2.drop 1).map fun c => (t.1, c.1)) ++ somePairs r).length ≤ _
    rw [List.length_append, List.length_map, List.length_drop, List.length_cons]
    omega
theorem eqv_nil (os : List (Str × Str)) : PyData.eqv (.list (os.map pairD)) (.list []) = decide (os = []) := by
  cases os with
  | nil => simp [PyData.eqv, PyData.eqvAll]
  | cons o r => simp [PyData.eqv, PyData.eqvAll]
def sp_law_schema (K : PySem.W.Frag) (A : Adr) : Sp := fun vs H Q _ => ∃ (F : Hp) (c : Int), vs = [.int c] ∧ Same F H ∧ ∀ F' H' r ts os, TabsOk ts → OrdsOk ts os → Z.Gr F H F' H' → Dp K F' r (.tuple [.list (ts.map tabD), .list (os.map pairD)]) → Q r H'
theorem ok_law_schema (T : Txt K mg A) : ∃ fd, FnOk P w K mg base CX0 3 A.f_law_schema fd ["_law_cell_here"] (sp_law_schema K A) ∧ Binds K fd ["_law_cell_here"] [] := by
  have ⟨fd, F, b⟩ := T.d_law_schema
  refine ⟨fd, F.ok sc_law_schema (fun vs H Q E h => ?_) (fun cdv Ar outer s H vs Q E hr h => ?_), b⟩
  · obtain ⟨F0, c, rfl, _⟩ := h
    rfl
  · obtain ⟨F0, c, rfl, sm, k⟩ := h
    have nd := sc_law_schema.nd
    have hu := hu_of hr
    have ⟨fd_law_draws, G_law_draws, b_law_draws⟩ := ok_law_draws (P := P) (w := w) (base := base) T
    have ⟨fd_law_names, G_law_names, b_law_names⟩ := ok_law_names (P := P) (w := w) (base := base) T
    refine ⟨_, (pss_cons (ps_set (i := 1) nd rfl (Or.inl rfl) (pe_call G_law_draws (hr.mono (by decide)) (by rfl) T.g_law_draws T.d_law_draws.kp b_law_draws .nil pass0 (pa_cons (pv 0) (pa_cons pe_int pa_nil))))
      (pss_cons (ps_set (i := 2) nd rfl (Or.inl rfl) (pe_lst pa_nil))
      (pss_cons (ps_set (i := 3) nd rfl (Or.inl rfl) (pe_lst pa_nil))
      (pss_cons (ps_for PassesOwn.never rfl (pi_enum (by rfl) T.b_enumerate (pa_cons (pe_call G_law_names (hr.mono (by decide)) (by rfl) T.g_law_names T.d_law_names.kp b_law_names .nil pass0 (pa_cons (pe_ix ix_list (pv 1) pe_int (fun _ _ => rfl)) (pa_cons (pe_op op_add pe_int (pe_op op_mod (pe_ix ix_list (pv 1) pe_int (fun _ _ => rfl)) pe_int)) pa_nil))) pa_nil)) (pg_tup rfl (pgs_cons (pg_name (i := 4) nd rfl (Or.inl rfl)) (pgs_cons (pg_name (i := 5) nd rfl (Or.inr rfl)) pgs_nil))) (pss_cons (ps_set (i := 6) nd rfl (Or.inl rfl) (pe_lst pa_nil))
      (pss_cons (ps_set (i := 7) nd rfl (Or.inl rfl) (pe_call G_law_names (hr.mono (by decide)) (by rfl) T.g_law_names T.d_law_names.kp b_law_names .nil pass0 (pa_cons (pe_ix ix_list (pv 1) (pe_op op_add pe_int (pv 4)) (fun _ _ => rfl)) (pa_cons (pe_op op_add pe_int (pe_op op_mod (pe_ix ix_list (pv 1) (pe_op op_add pe_int (pv 4)) (fun _ _ => rfl)) pe_int)) pa_nil))))
      (pss_cons (ps_for PassesOwn.never rfl (pi_enum (by rfl) T.b_enumerate (pa_cons (pv 7) pa_nil)) (pg_tup rfl (pgs_cons (pg_name (i := 8) nd rfl (Or.inl rfl)) (pgs_cons (pg_name (i := 9) nd rfl (Or.inl rfl)) pgs_nil))) (pss_one (ps_expr (pe_bm PySem.F.plainAttrs_list PySem.F.slot_list_append PySem.F.type_list_append mt_append (pv 6) (pa_cons (pe_tup (pa_cons (pv 9) (pa_cons (pe_ix ix_list (pe_lst (pa_cons pe_str (pa_cons pe_str pa_nil))) (pe_op op_mod (pe_ix ix_list (pv 1) (pe_op op_add (pe_op op_add pe_int (pe_op op_mul pe_int (pv 4))) (pv 8)) (fun _ _ => rfl)) pe_int) (fun _ _ => rfl)) pa_nil))) pa_nil)))))
      (pss_cons (ps_expr (pe_bm PySem.F.plainAttrs_list PySem.F.slot_list_append PySem.F.type_list_append mt_append (pv 2) (pa_cons (pe_tup (pa_cons (pv 5) (pa_cons (pv 6) pa_nil))) pa_nil)))
      (pss_one (ps_expr (pe_bm PySem.F.plainAttrs_list PySem.F.slot_list_extend PySem.F.type_list_extend mt_extend (pv 3) (pa_cons (pe_lc (own := [("_law_column", 9)]) rfl nd (pi_list (pe_slice sl_list (pv 7) (po_some pe_int) po_none)) (blkOk_by (own := [("_law_column", 9)]) (N := ["_law_cell_here", "_law_draws_here", "_law_tables", "_law_some", "_law_k", "_law_name", "_law_columns", "_law_names_here", "_law_j", "_law_column", "_law_orders"]) (sc := defScope s_law_schema) (by decide +kernel)) (fun _ _ _ _ _ => pg_name (i := 9) nd rfl (Or.inl rfl)) (fun _ _ _ _ _ => pts_nil) (fun _ _ _ _ _ => (pe_tup (pa_cons (pv 5) (pa_cons (pv 9) pa_nil))))) pa_nil)))))))))
      (pss_cons (ps_set (i := 10) nd rfl (Or.inl rfl) (pe_lst pa_nil))
      (pss_cons (ps_for PassesOwn.never rfl (pi_range1 rfl T.b_range (pa_cons pe_int pa_nil)) (pg_name (i := 4) nd rfl (Or.inl rfl)) (pss_one (ps_if (PW.pt (pw_and (pt_cmpR (op_neD hr.units) (pv 3) (pe_lst pa_nil) (nomark _)) (pw_and1 (pt_cmpR op_gt (pe_op op_mod (pe_ix ix_list (pv 1) (pe_op op_add pe_int (pv 4)) (fun _ _ => rfl)) pe_int) pe_int (nomark _))))) (pss_one (ps_expr (pe_bm PySem.F.plainAttrs_list PySem.F.slot_list_append PySem.F.type_list_append mt_append (pv 10) (pa_cons (pe_bm PySem.F.plainAttrs_list PySem.F.slot_list_pop PySem.F.type_list_pop mt_popAt (pv 3) (pa_cons (pe_op op_mod (pe_op op_fdivW (pe_ix ix_list (pv 1) (pe_op op_add pe_int (pv 4)) (fun _ _ => rfl)) pe_int) (pe_callB call_len_seq (by rfl) T.b_len PySem.boot_len (pa_cons (pv 3) pa_nil))) pa_nil)) pa_nil)))) pss_nil)))
      (pss_one (ps_ret (pe_tup (pa_cons (pv 2) (pa_cons (pv 10) pa_nil))))))))))), ?_⟩
    simp only [cxOf, Cx.nox, L2.start, List.map_cons, List.map_nil, List.length_cons, List.length_nil, Nat.reduceAdd, Nat.reduceSub, List.replicate, List.cons_append, List.nil_append]
    walk_at "z"
    refine ⟨F0, c, 30, rfl, sm, by decide, fun F1 H1 dv xs hxl pos g1 hdv => ?_⟩
    have W1 := (Z.Ws.init sm).ext g1
    have dr : ∀ i : Nat, i < 30 → ∃ y : Int, 0 ≤ y ∧ (xs.map PyData.int)[i]? = some (.int y) := fun i hi => by
      have e := List.getElem?_eq_getElem (l := xs) (i := i) (by omega)
      exact ⟨xs[i], (pos _ (List.getElem_mem _)).1, by rw [List.getElem?_map, e]; rfl⟩
    walk_at "z"
    refine ⟨by simp only [List.length_cons, List.length_nil]; decide, fun qt hqt => ?_⟩
    have W2 := W1.new (o := .lst []) hqt
    generalize upd H1 qt (.lst []) = H2 at W2 ⊢
    walk_at "z"
    refine ⟨by simp only [List.length_cons, List.length_nil]; decide, fun qs hqs => ?_⟩
    have W3 := W2.new (o := .lst []) hqs
    generalize upd H2 qs (.lst []) = H3 at W3 ⊢
    walk_at "z"
    refine Z.forE ?_
    walk_at "z"
    obtain ⟨y0, y00, ey0⟩ := dr 0 (by decide)
    obtain ⟨y1, y10, ey1⟩ := dr 1 (by decide)
    refine Z.ixD hdv W3.fh 0 ey0 fun w hw => ?_
    cases Z.dp_int hw
    walk_at "z"
    refine Z.ixD hdv W3.fh 1 ey1 fun w hw => ?_
    cases Z.dp_int hw
    walk_at "z"
    obtain ⟨n, hn, hn1, hn4⟩ : ∃ n : Nat, (1 : Int) + y1 % 4 = (n : Int) ∧ 1 ≤ n ∧ n ≤ 4 := ⟨((1 : Int) + y1 % 4).toNat, by omega, by omega, by omega⟩
    rw [hn]
    refine ⟨F1, y0, n, rfl, W3.fh, by omega, fun F4 H4 nv nms hnl hnm hnd g4 hnv => ?_⟩
    have W4 := W3.ext g4
    have hdv4 := Z.dp_same g4.f hdv
    obtain ⟨na, nx, rfl, hna, hnx⟩ := Z.dp_lst hnv
    cases Z.dpa_strs hnx
    walk_at "z"
    refine ⟨na, _, rfl, W4.fh.seq hna, ?_⟩
    refine for_it walk_enum (fun i σ H' => (∃ v4 v5 v6 v7 v8 v9 v10, σ = [some (.int c), some dv, some (.ref qt), some (.ref qs), v4, v5, v6, v7, v8, v9, v10]) ∧ ∃ F' vt vs ts, Z.Ws [(qs, .lst vs), (qt, .lst vt)] F0 H F' H' ∧ Same F4 F' ∧ DpAll K F' vt (ts.map tabD) ∧ DpAll K F' vs ((somePairs ts).map pairD) ∧ ts.map (·.1) = nms.take i ∧ (∀ t ∈ ts, ColsOk t.2))
      ⟨⟨_, _, _, _, _, _, _, rfl⟩, F4, [], [], [], W4, Same.refl _, .nil, .nil, rfl, fun t h => nomatch h⟩ (fun i σ H' hi ⟨_, F', _, _, _, W, s, _⟩ => (s.trans W.fh).seq hna) ?_ ?_
    · rintro i x σ H5 H6 hi ⟨⟨v4, v5, v6, v7, v8, v9, v10, rfl⟩, F5, vt, vs, ts, W, s5, ht, hs, hts, hcs⟩ ⟨T, x1, x2, rfl, hT, rfl, e1, e2⟩
      cases e1
      rw [List.length_map] at hi
      have e2 : (nms.map V.str)[i]? = some x2 := e2
      rw [List.getElem?_map] at e2
      obtain ⟨nm, hnm', rfl⟩ := Option.map_eq_some_iff.mp e2
      have W5 := W.exts (Z.same_new (o := .tup [.int (i : Nat), .str nm]) hT)
      have gT : upd H5 T (.tup [.int (i : Nat), .str nm]) T = _ := upd_same
      generalize upd H5 T (.tup [.int (i : Nat), .str nm]) = H6 at W5 gT ⊢
      refine ⟨T, _, rfl, SqT.of gT, rfl, ?_⟩
      walk_at "z"
      refine ⟨by simp only [List.length_cons, List.length_nil]; decide, fun qc hqc => ?_⟩
      have W6 := W5.new (o := .lst []) hqc
      generalize upd H6 qc (.lst []) = H7 at W6 ⊢
      have hdv5 := Z.dp_same s5 hdv4
      walk_at "z"
      obtain ⟨y2, y20, ey2⟩ := dr (2 + i) (by omega)
      obtain ⟨y6, y60, ey6⟩ := dr (6 + i) (by omega)
      rw [show (2 : Int) + (i : Int) = ((2 + i : Nat) : Int) by omega]
      refine Z.ixD hdv5 W6.fh (2 + i) ey2 fun w hw => ?_
      cases Z.dp_int hw
      walk_at "z"
      rw [show (6 : Int) + (i : Int) = ((6 + i : Nat) : Int) by omega]
      refine Z.ixD hdv5 W6.fh (6 + i) ey6 fun w hw => ?_
      cases Z.dp_int hw
      walk_at "z"
      obtain ⟨m, hm, hm1, hm4⟩ : ∃ n : Nat, (1 : Int) + y6 % 4 = (n : Int) ∧ 1 ≤ n ∧ n ≤ 4 := ⟨((1 : Int) + y6 % 4).toNat, by omega, by omega, by omega⟩
      rw [hm]
      refine ⟨F5, y2, m, rfl, W6.fh, by omega, fun F8 H8 cv cns hcl hcn hcd g8 hcv => ?_⟩
      have W8 := W6.ext g8
      have hdv8 := Z.dp_same g8.f hdv5
      have hcv0 := hcv
      obtain ⟨ca, cx, rfl, hca, hcx⟩ := Z.dp_lst hcv
      cases Z.dpa_strs hcx
      walk_at "z"
      refine Z.forE ?_
      walk_at "z"
      refine ⟨ca, _, rfl, W8.fh.seq hca, ?_⟩
      refine for_it walk_enum (fun j σ H' => (∃ v8 v9, σ = [some (.int c), some dv, some (.ref qt), some (.ref qs), some (.int (i : Nat)), some (.str nm), some (.ref qc), some (.ref ca), v8, v9, v10]) ∧ ∃ F' vc cs, Z.Ws [(qc, .lst vc), (qs, .lst vs), (qt, .lst vt)] F0 H F' H' ∧ Same F8 F' ∧ DpAll K F' vc (cs.map pairD) ∧ cs.map (·.1) = cns.take j ∧ (∀ c ∈ cs, Kind c.2))
        ⟨⟨_, _, rfl⟩, F8, [], [], W8, Same.refl _, .nil, rfl, fun t h => nomatch h⟩ (fun i σ H' hi ⟨_, F', _, _, W, s, _⟩ => (s.trans W.fh).seq hca) ?_ ?_
      · rintro j x σ H9 H10 hj ⟨⟨v8, v9, rfl⟩, F9, vc, cs, W9, s9, hc9, hcs9, hk9⟩ ⟨T2, x1, x2, rfl, hT2, rfl, e1, e2⟩
        cases e1
        rw [List.length_map] at hj
        have e2 : (cns.map V.str)[j]? = some x2 := e2
        rw [List.getElem?_map] at e2
        obtain ⟨cn, hcn', rfl⟩ := Option.map_eq_some_iff.mp e2
        have W10 := W9.exts (Z.same_new (o := .tup [.int (j : Nat), .str cn]) hT2)
        have gT2 : upd H9 T2 (.tup [.int (j : Nat), .str cn]) T2 = _ := upd_same
        generalize upd H9 T2 (.tup [.int (j : Nat), .str cn]) = H10 at W10 gT2 ⊢
        refine ⟨T2, _, rfl, SqT.of gT2, rfl, ?_⟩
        walk_at "z"
        refine ⟨.inl ⟨rfl, _, SqL.of (W10.at 0 rfl)⟩, ?_⟩
        walk_at "z"
        refine ⟨by simp only [List.length_cons, List.length_nil]; decide, fun p hp => ?_⟩
        have W11 := W10.exts (Z.same_new (o := .lst [.str "number", .str "word"]) hp)
        have gp : upd H10 p (.lst [.str "number", .str "word"]) p = _ := upd_same
        generalize upd H10 p (.lst [.str "number", .str "word"]) = H11 at W11 gp ⊢
        have hdv9 := Z.dp_same s9 hdv8
        walk_at "z"
        obtain ⟨yk, yk0, eyk⟩ := dr (10 + 4 * i + j) (by omega)
        rw [show (10 : Int) + 4 * (i : Int) + (j : Int) = ((10 + 4 * i + j : Nat) : Int) by omega]
        refine Z.ixD hdv9 W11.fh (10 + 4 * i + j) eyk fun w hw => ?_
        cases Z.dp_int hw
        walk_at "z"
        refine Z.ixAll (G := fun v => ∃ kd, v = .str kd ∧ Kind kd) (SqL.of gp) (by omega) (by simp only [List.length_cons, List.length_nil]; omega) (fun v hv => ?_) (fun v ⟨kd, e, hkd⟩ _ => ?_)
        · simp only [List.mem_cons, List.not_mem_nil, or_false] at hv
          rcases hv with rfl | rfl
          · exact ⟨_, rfl, .inl rfl⟩
          · exact ⟨_, rfl, .inr rfl⟩
        subst e
        walk_at "z"
        refine Z.tupD (K := K) W11 (.cons (.str cn) (.cons (.str kd) .nil)) fun r F12 H12 W12 s12 hr => ?_
        walk_at "z"
        have hvl := Z.dpa_len hc9
        rw [List.length_map, ← List.length_map (f := fun c : Col => c.1), hcs9, List.length_take] at hvl
        refine Z.appW W12 0 rfl (fun H13 W13 => ?_) (by omega)
        walk_at "z"
        refine ⟨⟨_, _, rfl⟩, F12, _, cs ++ [(cn, kd)], W13, s9.trans s12, ?_, ?_, ?_⟩
        · rw [List.map_append]
          exact Z.dpa_snoc (Z.dpa_same s12 hc9) hr
        · rw [List.map_append, hcs9, List.take_add_one, hcn']
          rfl
        · intro c hc
          rcases List.mem_append.mp hc with h | h
          · exact hk9 c h
          · rw [List.mem_singleton.mp h]; exact hkd
      · rintro σ H9 ⟨⟨v8, v9, rfl⟩, F9, vc, cs, W9, s9, hc9, hcs9, hk9⟩
        rw [List.length_map, List.take_length] at hcs9
        have hcsl : cs.length = m := by rw [← hcl, ← hcs9, List.length_map]
        have cok : ColsOk cs := ⟨by omega, by omega, fun c hc => ⟨hcn _ (by rw [← hcs9]; exact List.mem_map.mpr ⟨c, hc, rfl⟩), hk9 c hc⟩, by rw [hcs9]; exact hcd⟩
        walk_at "z"
        refine ⟨.inl ⟨rfl, _, SqL.of (W9.at 2 rfl)⟩, ?_⟩
        walk_at "z"
        obtain ⟨F10, W10, s10, g10⟩ := W9.frz 0 rfl
        refine Z.tupD (K := K) W10 (.cons (.str nm) (.cons (.lst (SqL.of g10) (Z.dpa_same s10 hc9)) .nil)) fun r F11 H11 W11 s11 hr => ?_
        walk_at "z"
        have s511 : Same F5 F11 := g8.f.trans (s9.trans (s10.trans s11))
        have htl := Z.dpa_len ht
        rw [List.length_map, ← List.length_map (f := fun t : Tab => t.1), hts, List.length_take] at htl
        refine Z.appW W11 1 rfl (fun H12 W12 => ?_) (by omega)
        walk_at "z"
        refine ⟨.inl ⟨rfl, _, SqL.of (W12.at 0 rfl)⟩, ?_⟩
        walk_at "z"
        refine Z.slD W12 (Z.dp_same (s9.trans (s10.trans s11)) hcv0) fun r2 F13 H13 W13 s13 hr2 => ?_
        rw [show Z.cutD (cns.map PyData.str) (some 1) none = (cns.map PyData.str).drop 1 from cutD_tail _ 1, ← List.map_drop] at hr2
        obtain ⟨ra, rx, rfl, hr3, hr4⟩ := Z.dp_lst hr2
        cases Z.dpa_strs hr4
        refine ⟨ra, rfl, ⟨_, W13.fh.seq hr3⟩, fun D hD => ?_⟩
        refine lc_it walk_list (Z.LcP K D _ F0 H F13 ((cns.drop 1).map fun z => pairD (nm, z))) (Z.lc0 W13 hD) (fun i H' hi ⟨F', vs, W, s, _⟩ => (s.trans W.fh).seq hr3) ?_ ?_
        · rintro l x H14 H15 hl ⟨F14, ws, W14, s14, ha⟩ ⟨rfl, hx⟩
          rw [List.getElem?_map] at hx
          obtain ⟨z, hz, rfl⟩ := Option.map_eq_some_iff.mp hx
          refine ⟨rfl, ?_⟩
          walk_at "z"
          refine Z.tupD (K := K) W14 (.cons (.str nm) (.cons (.str z) .nil)) fun r3 F15 H15 W15 s15 hr5 => ?_
          exact Z.lcS W15 (s14.trans s15) (Z.dpa_same s15 ha) (by rw [List.getElem?_map, hz]; rfl) hr5 (by rw [List.length_map, List.length_drop]; omega)
        · rintro H14 ⟨F14, ws, W14, s14, ha⟩
          have ea : DpAll K F14 ws (((cs.drop 1).map fun c => (nm, c.1)).map pairD) := by
            rw [List.length_map, List.take_of_length_le (by simp), ← hcs9] at ha
            rw [List.map_map]
            rw [← List.map_drop, List.map_map] at ha
            exact ha
          have hvsl := Z.dpa_len hs
          have hwl := Z.dpa_len ea
          have sml : (somePairs ts).length ≤ 100 := by
            have h1 := some_len ts hcs
            have h2 : ts.length ≤ 4 := by rw [← List.length_map (f := fun t : Tab => t.1), hts, List.length_take]; omega
            omega
          rw [List.length_map] at hvsl
          rw [List.length_map, List.length_map, List.length_drop] at hwl
          walk_at "z"
          refine ⟨qs, D, _, _, rfl, rfl, W14.at 1 rfl, W14.at 0 rfl, Nat.le_trans (show vs.length + ws.length ≤ 1000 by omega) (by decide), ?_⟩
          walk_at "z"
          have W15 := W14.set 1 rfl (.lst (vs ++ ws))
          refine ⟨⟨_, _, _, _, _, _, _, rfl⟩, F14, _, _, ts ++ [(nm, cs)], W15.pick [1, 2] (by decide) rfl, s5.trans (s511.trans (s13.trans s14)), ?_, ?_, ?_, ?_⟩
          · rw [List.map_append]
            exact Z.dpa_snoc (Z.dpa_same (s511.trans (s13.trans s14)) ht) (Z.dp_same (s13.trans s14) hr)
          · rw [some_snoc, List.map_append]
            exact Z.dpa_app (Z.dpa_same (s511.trans (s13.trans s14)) hs) ea
          · rw [List.map_append, hts, List.take_add_one, hnm']
            rfl
          · intro t ht
            rcases List.mem_append.mp ht with h | h
            · exact hcs t h
            · rw [List.mem_singleton.mp h]; exact cok
    · rintro σ H5 ⟨⟨v4, v5, v6, v7, v8, v9, v10, rfl⟩, F5, vt, vs, ts, W, s5, ht, hs, hts, hcs⟩
      rw [List.length_map, List.take_length] at hts
      have htl : ts.length = n := by rw [← hnl, ← hts, List.length_map]
      have tok : TabsOk ts := ⟨by omega, by omega, fun t ht => ⟨hnm _ (by rw [← hts]; exact List.mem_map.mpr ⟨t, ht, rfl⟩), hcs t ht⟩, by rw [hts]; exact hnd⟩
      have snd := some_nodup (ts := ts) tok.nd (fun t ht => (hcs t ht).nd)
      have spk : ∀ o ∈ somePairs ts, PairOk o := fun o ho => by
        obtain ⟨t, ht, e1, c, hc, e2⟩ := some_mem ho
        exact pairOk_of ⟨e1 ▸ (tok.nm t ht).1, e2 ▸ ((hcs t ht).nm c (List.mem_of_mem_drop hc)).1⟩
      have sml : (somePairs ts).length ≤ 100 := by
        have h1 := some_len ts hcs
        omega
      walk_at "z"
      refine ⟨by simp only [List.length_cons, List.length_nil]; decide, fun qo hqo => ?_⟩
      have W6 := W.new (o := .lst []) hqo
      generalize upd H5 qo (.lst []) = H6 at W6 ⊢
      walk_at "z"
      refine ⟨4, rfl, by decide, by decide, ?_⟩
      refine (for_range (lo := 0) (n := 4) (fun i σ H' => (∃ v4, σ = [some (.int c), some dv, some (.ref qt), some (.ref qs), v4, v5, v6, v7, v8, v9, some (.ref qo)]) ∧ ∃ F' vo vs os rest, Z.Ws [(qo, .lst vo), (qs, .lst vs), (qt, .lst vt)] F0 H F' H' ∧ Same F5 F' ∧ DpAll K F' vo (os.map pairD) ∧ DpAll K F' vs (rest.map pairD) ∧ (os ++ rest).Perm (somePairs ts) ∧ os.length ≤ i)
        ⟨⟨_, rfl⟩, F5, [], vs, [], somePairs ts, W6, Same.refl _, .nil, hs, List.Perm.refl _, Nat.le_refl _⟩ ?_ ?_)
      · rintro i σ H7 hi ⟨⟨v4, rfl⟩, F7, vo, vs7, os, rest, W7, s7, ho7, hs7, pm, hol⟩
        have hrl := pm.length_eq
        rw [List.length_append] at hrl
        have hv7 := Z.dpa_len hs7
        have hvo := Z.dpa_len ho7
        rw [List.length_map] at hv7 hvo
        have hdv7 := Z.dp_same (s5.trans s7) hdv4
        obtain ⟨yk, yk0, eyk⟩ := dr (26 + i) (by omega)
        walk_at "z"
        refine Z.lstD (K := K) W7 .nil fun r F8 H8 W8 s8 hr => ?_
        refine ⟨_, _, .lst (SqL.of (W8.at 1 rfl)) (Z.dpa_same (s8.trans W8.fh) hs7), Z.dp_same W8.fh hr, shaped_pairsL (fun o h => spk o (pm.subset (List.mem_append_right _ h))), shaped_pairsL (os := []) (fun o h => nomatch h), ?_⟩
        rw [eqv_nil]
        by_cases er : rest = []
        · rw [decide_eq_true er]
          walk_at "z"
          exact ⟨⟨_, rfl⟩, F8, vo, vs7, os, rest, W8, s7.trans s8, Z.dpa_same s8 ho7, Z.dpa_same s8 hs7, pm, by omega⟩
        · rw [decide_eq_false er]
          have hrp : 0 < rest.length := List.length_pos_iff.mpr er
          walk_at "z"
          rw [show (26 : Int) + (0 + (i : Int)) = ((26 + i : Nat) : Int) by omega]
          refine Z.ixD (Z.dp_same s8 hdv7) W8.fh (26 + i) eyk fun w hw => ?_
          cases Z.dp_int hw
          walk_at "z"
          refine Z.iteD (fun h1 => ?_) (fun h1 => ?_)
          · walk_at "z"
            refine ⟨.inl ⟨rfl, _, SqL.of (W8.at 0 rfl)⟩, ?_⟩
            walk_at "z"
            refine ⟨.inl ⟨rfl, _, SqL.of (W8.at 1 rfl)⟩, ?_⟩
            walk_at "z"
            rw [show (26 : Int) + (0 + (i : Int)) = ((26 + i : Nat) : Int) by omega]
            refine Z.ixD (Z.dp_same s8 hdv7) W8.fh (26 + i) eyk fun w hw => ?_
            cases Z.dp_int hw
            walk_at "z"
            refine Z.lenSeq (SqL.of (W8.at 1 rfl)) ?_
            walk_at "z"
            obtain ⟨kk, hkk, hklt⟩ : ∃ kk : Nat, yk / 3 % (vs7.length : Int) = (kk : Int) ∧ kk < vs7.length := ⟨(yk / 3 % (vs7.length : Int)).toNat, by have := Int.emod_nonneg (yk / 3) (show (vs7.length : Int) ≠ 0 by omega); omega, by have := Int.emod_lt_of_pos (yk / 3) (show (0 : Int) < vs7.length by omega); have := Int.emod_nonneg (yk / 3) (show (vs7.length : Int) ≠ 0 by omega); omega⟩
            rw [hkk]
            have evk : vs7[kk]? = some vs7[kk] := List.getElem?_eq_getElem hklt
            obtain ⟨d0, ed0, hd0⟩ := Z.dpa_ix (Z.dpa_same s8 hs7) evk
            rw [List.getElem?_map] at ed0
            obtain ⟨o, ho, rfl⟩ := Option.map_eq_some_iff.mp ed0
            refine ⟨qs, vs7, kk, kk, _, rfl, rfl, W8.at 1 rfl, by omega, by omega, (seqIndex_of (by omega) (by omega)).trans (by rw [Int.toNat_natCast]), evk, ?_⟩
            have W9 := W8.set 1 rfl (.lst (vs7.eraseIdx kk))
            generalize upd H8 qs (.lst (vs7.eraseIdx kk)) = H9 at W9 ⊢
            walk_at "z"
            refine Z.appW W9 0 rfl (fun H10 W10 => ?_) (by omega)
            walk_at "z"
            refine ⟨⟨_, rfl⟩, F8, _, _, os ++ [o], rest.eraseIdx kk, W10, s7.trans s8, ?_, ?_, ?_, by rw [List.length_append]; show os.length + 1 ≤ _; omega⟩
            · rw [List.map_append]
              exact Z.dpa_snoc (Z.dpa_same s8 ho7) hd0
            · have := Z.dpa_eraseIdx kk (Z.dpa_same s8 hs7)
              rw [erase_map] at this
              exact this
            · rw [List.append_assoc]
              exact (List.Perm.append_left os (erase_perm ho)).trans pm
          · walk_at "z"
            exact ⟨⟨_, rfl⟩, F8, vo, vs7, os, rest, W8, s7.trans s8, Z.dpa_same s8 ho7, Z.dpa_same s8 hs7, pm, by omega⟩
      · rintro σ H7 ⟨⟨v4, rfl⟩, F7, vo, vs7, os, rest, W7, s7, ho7, hs7, pm, hol⟩
        walk_at "z"
        obtain ⟨F8, W8, s8, g8⟩ := W7.frz 0 rfl
        obtain ⟨F9, W9, s9, g9⟩ := W8.frz 1 rfl
        refine Z.tupD (K := K) W9 (.cons (.lst (SqL.of g9) (Z.dpa_same (s7.trans (s8.trans s9)) ht)) (.cons (.lst (SqL.of (s9 _ _ g8)) (Z.dpa_same (s8.trans s9) ho7)) .nil)) fun r F10 H10 W10 s10 hr => ?_
        have nd : (os ++ rest).Nodup := pm.nodup_iff.mpr snd
        exact k F10 H10 r ts os tok ⟨by omega, fun o h => some_mem (pm.subset (List.mem_append_left _ h)), (List.nodup_append.mp nd).1⟩ W10.g hr

def sp_NoTable___init__ (K : PySem.W.Frag) (A : Adr) : Sp := Z.spX K A.NoTable ["table"]
theorem ok_NoTable___init__ (T : Txt K mg A) : ∃ fd, FnOk P w K mg base CX0 1 A.f_NoTable___init__ fd ["self", "table"] (sp_NoTable___init__ K A) ∧ Binds K fd ["self", "table"] [] := by
  have ⟨fd, F, b⟩ := T.d_NoTable___init__
  refine ⟨fd, F.ok sc_NoTable___init__ (fun vs H Q E h => ?_) (fun cdv Ar outer s H vs Q E hr h => ?_), b⟩
  · obtain ⟨a, ws, rfl, hl, _⟩ := h
    rw [List.length_cons, hl]
    rfl
  · obtain ⟨a, ws, rfl, hl, ha, k⟩ := h
    obtain ⟨w0, rfl⟩ : ∃ w0, ws = [w0] := by
      match ws, hl with
      | [w0], _ => exact ⟨_, rfl⟩
    have nd := sc_NoTable___init__.nd
    have hu := hu_of hr
    refine ⟨_, (pss_cons (ps_expr (Z.pe_oeinit (by rfl) T.g_StoreError T.xr_StoreError T.xs_StoreError T.xi_StoreError (pa_cons (pv 0) (pa_cons pe_str pa_nil))))
      (pss_one (ps_ost (pv 0) (pv 1)))), ?_⟩
    simp only [cxOf, Cx.nox, L2.start, List.map_cons, List.map_nil, List.length_cons, List.length_nil, Nat.reduceAdd, Nat.reduceSub, List.replicate, List.cons_append, List.nil_append]
    walk_at "z"
    refine ⟨a, A.NoTable, _, rfl, by simp, T.oex_NoTable, ha, ?_⟩
    walk_at "z"
    refine ⟨a, A.NoTable, rfl, T.oex_NoTable, T.xf_NoTable_table, .inl ⟨ha, fun d hd hne => ?_⟩⟩
    have ha1 : ∀ {H' : Hp} {x : HO}, (upd (upd H' d x) a (exo a A.NoTable (some d))) a = some (exo a A.NoTable (some d)) := upd_same
    have hd1 : (upd (upd H d (exd d [("table", w0)])) a (exo a A.NoTable (some d))) d = some (exd d [("table", w0)]) := by rw [upd_ne hne, upd_same]
    walk_at "z"
    exact k d _ hd hne ha1 hd1 fun b h1 h2 => by rw [upd_ne h1, upd_ne h2]
def sp_NoOrder___init__ (K : PySem.W.Frag) (A : Adr) : Sp := Z.spX K A.NoOrder ["table", "column"]
theorem ok_NoOrder___init__ (T : Txt K mg A) : ∃ fd, FnOk P w K mg base CX0 1 A.f_NoOrder___init__ fd ["self", "table", "column"] (sp_NoOrder___init__ K A) ∧ Binds K fd ["self", "table", "column"] [] := by
  have ⟨fd, F, b⟩ := T.d_NoOrder___init__
  refine ⟨fd, F.ok sc_NoOrder___init__ (fun vs H Q E h => ?_) (fun cdv Ar outer s H vs Q E hr h => ?_), b⟩
  · obtain ⟨a, ws, rfl, hl, _⟩ := h
    rw [List.length_cons, hl]
    rfl
  · obtain ⟨a, ws, rfl, hl, ha, k⟩ := h
    obtain ⟨w0, w1, rfl⟩ : ∃ w0 w1, ws = [w0, w1] := by
      match ws, hl with
      | [w0, w1], _ => exact ⟨_, _, rfl⟩
    have nd := sc_NoOrder___init__.nd
    have hu := hu_of hr
    refine ⟨_, (pss_cons (ps_expr (Z.pe_oeinit (by rfl) T.g_StoreError T.xr_StoreError T.xs_StoreError T.xi_StoreError (pa_cons (pv 0) (pa_cons pe_str pa_nil))))
      (pss_cons (ps_ost (pv 0) (pv 1))
      (pss_one (ps_ost (pv 0) (pv 2))))), ?_⟩
    simp only [cxOf, Cx.nox, L2.start, List.map_cons, List.map_nil, List.length_cons, List.length_nil, Nat.reduceAdd, Nat.reduceSub, List.replicate, List.cons_append, List.nil_append]
    walk_at "z"
    refine ⟨a, A.NoOrder, _, rfl, by simp, T.oex_NoOrder, ha, ?_⟩
    walk_at "z"
    refine ⟨a, A.NoOrder, rfl, T.oex_NoOrder, T.xf_NoOrder_table, .inl ⟨ha, fun d hd hne => ?_⟩⟩
    have ha1 : ∀ {H' : Hp} {x : HO}, (upd (upd H' d x) a (exo a A.NoOrder (some d))) a = some (exo a A.NoOrder (some d)) := upd_same
    have hd1 : (upd (upd H d (exd d [("table", w0)])) a (exo a A.NoOrder (some d))) d = some (exd d [("table", w0)]) := by rw [upd_ne hne, upd_same]
    walk_at "z"
    refine ⟨a, A.NoOrder, rfl, T.oex_NoOrder, T.xf_NoOrder_column, .inr ⟨d, _, by first | exact ha1 | (rw [upd_ne (Ne.symm hne)]; exact ha1), by first | exact hd1 | exact upd_same, by simp only [List.length_cons, List.length_nil]; omega, ?_⟩⟩
    walk_at "z"
    exact k d _ hd hne (by rw [upd_ne (Ne.symm hne)]; exact ha1) upd_same fun b h1 h2 => by rw [upd_ne h2, upd_ne h1, upd_ne h2]
def sp_BadRow___init__ (K : PySem.W.Frag) (A : Adr) : Sp := Z.spX K A.BadRow ["table"]
theorem ok_BadRow___init__ (T : Txt K mg A) : ∃ fd, FnOk P w K mg base CX0 1 A.f_BadRow___init__ fd ["self", "table"] (sp_BadRow___init__ K A) ∧ Binds K fd ["self", "table"] [] := by
  have ⟨fd, F, b⟩ := T.d_BadRow___init__
  refine ⟨fd, F.ok sc_BadRow___init__ (fun vs H Q E h => ?_) (fun cdv Ar outer s H vs Q E hr h => ?_), b⟩
  · obtain ⟨a, ws, rfl, hl, _⟩ := h
    rw [List.length_cons, hl]
    rfl
  · obtain ⟨a, ws, rfl, hl, ha, k⟩ := h
    obtain ⟨w0, rfl⟩ : ∃ w0, ws = [w0] := by
      match ws, hl with
      | [w0], _ => exact ⟨_, rfl⟩
    have nd := sc_BadRow___init__.nd
    have hu := hu_of hr
    refine ⟨_, (pss_cons (ps_expr (Z.pe_oeinit (by rfl) T.g_StoreError T.xr_StoreError T.xs_StoreError T.xi_StoreError (pa_cons (pv 0) (pa_cons pe_str pa_nil))))
      (pss_one (ps_ost (pv 0) (pv 1)))), ?_⟩
    simp only [cxOf, Cx.nox, L2.start, List.map_cons, List.map_nil, List.length_cons, List.length_nil, Nat.reduceAdd, Nat.reduceSub, List.replicate, List.cons_append, List.nil_append]
    walk_at "z"
    refine ⟨a, A.BadRow, _, rfl, by simp, T.oex_BadRow, ha, ?_⟩
    walk_at "z"
    refine ⟨a, A.BadRow, rfl, T.oex_BadRow, T.xf_BadRow_table, .inl ⟨ha, fun d hd hne => ?_⟩⟩
    have ha1 : ∀ {H' : Hp} {x : HO}, (upd (upd H' d x) a (exo a A.BadRow (some d))) a = some (exo a A.BadRow (some d)) := upd_same
    have hd1 : (upd (upd H d (exd d [("table", w0)])) a (exo a A.BadRow (some d))) d = some (exd d [("table", w0)]) := by rw [upd_ne hne, upd_same]
    walk_at "z"
    exact k d _ hd hne ha1 hd1 fun b h1 h2 => by rw [upd_ne h1, upd_ne h2]
def sp_NoRow___init__ (K : PySem.W.Frag) (A : Adr) : Sp := Z.spX K A.NoRow ["table", "key"]
theorem ok_NoRow___init__ (T : Txt K mg A) : ∃ fd, FnOk P w K mg base CX0 1 A.f_NoRow___init__ fd ["self", "table", "key"] (sp_NoRow___init__ K A) ∧ Binds K fd ["self", "table", "key"] [] := by
  have ⟨fd, F, b⟩ := T.d_NoRow___init__
  refine ⟨fd, F.ok sc_NoRow___init__ (fun vs H Q E h => ?_) (fun cdv Ar outer s H vs Q E hr h => ?_), b⟩
  · obtain ⟨a, ws, rfl, hl, _⟩ := h
    rw [List.length_cons, hl]
    rfl
  · obtain ⟨a, ws, rfl, hl, ha, k⟩ := h
    obtain ⟨w0, w1, rfl⟩ : ∃ w0 w1, ws = [w0, w1] := by
      match ws, hl with
      | [w0, w1], _ => exact ⟨_, _, rfl⟩
    have nd := sc_NoRow___init__.nd
    have hu := hu_of hr
    refine ⟨_, (pss_cons (ps_expr (Z.pe_oeinit (by rfl) T.g_StoreError T.xr_StoreError T.xs_StoreError T.xi_StoreError (pa_cons (pv 0) (pa_cons pe_str pa_nil))))
      (pss_cons (ps_ost (pv 0) (pv 1))
      (pss_one (ps_ost (pv 0) (pv 2))))), ?_⟩
    simp only [cxOf, Cx.nox, L2.start, List.map_cons, List.map_nil, List.length_cons, List.length_nil, Nat.reduceAdd, Nat.reduceSub, List.replicate, List.cons_append, List.nil_append]
    walk_at "z"
    refine ⟨a, A.NoRow, _, rfl, by simp, T.oex_NoRow, ha, ?_⟩
    walk_at "z"
    refine ⟨a, A.NoRow, rfl, T.oex_NoRow, T.xf_NoRow_table, .inl ⟨ha, fun d hd hne => ?_⟩⟩
    have ha1 : ∀ {H' : Hp} {x : HO}, (upd (upd H' d x) a (exo a A.NoRow (some d))) a = some (exo a A.NoRow (some d)) := upd_same
    have hd1 : (upd (upd H d (exd d [("table", w0)])) a (exo a A.NoRow (some d))) d = some (exd d [("table", w0)]) := by rw [upd_ne hne, upd_same]
    walk_at "z"
    refine ⟨a, A.NoRow, rfl, T.oex_NoRow, T.xf_NoRow_key, .inr ⟨d, _, by first | exact ha1 | (rw [upd_ne (Ne.symm hne)]; exact ha1), by first | exact hd1 | exact upd_same, by simp only [List.length_cons, List.length_nil]; omega, ?_⟩⟩
    walk_at "z"
    exact k d _ hd hne (by rw [upd_ne (Ne.symm hne)]; exact ha1) upd_same fun b h1 h2 => by rw [upd_ne h2, upd_ne h1, upd_ne h2]
def sp_NoMake___init__ (K : PySem.W.Frag) (A : Adr) : Sp := Z.spX K A.NoMake ["number"]
theorem ok_NoMake___init__ (T : Txt K mg A) : ∃ fd, FnOk P w K mg base CX0 1 A.f_NoMake___init__ fd ["self", "number"] (sp_NoMake___init__ K A) ∧ Binds K fd ["self", "number"] [] := by
  have ⟨fd, F, b⟩ := T.d_NoMake___init__
  refine ⟨fd, F.ok sc_NoMake___init__ (fun vs H Q E h => ?_) (fun cdv Ar outer s H vs Q E hr h => ?_), b⟩
  · obtain ⟨a, ws, rfl, hl, _⟩ := h
    rw [List.length_cons, hl]
    rfl
  · obtain ⟨a, ws, rfl, hl, ha, k⟩ := h
    obtain ⟨w0, rfl⟩ : ∃ w0, ws = [w0] := by
      match ws, hl with
      | [w0], _ => exact ⟨_, rfl⟩
    have nd := sc_NoMake___init__.nd
    have hu := hu_of hr
    refine ⟨_, (pss_cons (ps_expr (Z.pe_oeinit (by rfl) T.g_StoreError T.xr_StoreError T.xs_StoreError T.xi_StoreError (pa_cons (pv 0) (pa_cons pe_str pa_nil))))
      (pss_one (ps_ost (pv 0) (pv 1)))), ?_⟩
    simp only [cxOf, Cx.nox, L2.start, List.map_cons, List.map_nil, List.length_cons, List.length_nil, Nat.reduceAdd, Nat.reduceSub, List.replicate, List.cons_append, List.nil_append]
    walk_at "z"
    refine ⟨a, A.NoMake, _, rfl, by simp, T.oex_NoMake, ha, ?_⟩
    walk_at "z"
    refine ⟨a, A.NoMake, rfl, T.oex_NoMake, T.xf_NoMake_number, .inl ⟨ha, fun d hd hne => ?_⟩⟩
    have ha1 : ∀ {H' : Hp} {x : HO}, (upd (upd H' d x) a (exo a A.NoMake (some d))) a = some (exo a A.NoMake (some d)) := upd_same
    have hd1 : (upd (upd H d (exd d [("number", w0)])) a (exo a A.NoMake (some d))) d = some (exd d [("number", w0)]) := by rw [upd_ne hne, upd_same]
    walk_at "z"
    exact k d _ hd hne ha1 hd1 fun b h1 h2 => by rw [upd_ne h1, upd_ne h2]
def sp_Over___init__ (K : PySem.W.Frag) (A : Adr) : Sp := Z.spX K A.Over ["number"]
theorem ok_Over___init__ (T : Txt K mg A) : ∃ fd, FnOk P w K mg base CX0 1 A.f_Over___init__ fd ["self", "number"] (sp_Over___init__ K A) ∧ Binds K fd ["self", "number"] [] := by
  have ⟨fd, F, b⟩ := T.d_Over___init__
  refine ⟨fd, F.ok sc_Over___init__ (fun vs H Q E h => ?_) (fun cdv Ar outer s H vs Q E hr h => ?_), b⟩
  · obtain ⟨a, ws, rfl, hl, _⟩ := h
    rw [List.length_cons, hl]
    rfl
  · obtain ⟨a, ws, rfl, hl, ha, k⟩ := h
    obtain ⟨w0, rfl⟩ : ∃ w0, ws = [w0] := by
      match ws, hl with
      | [w0], _ => exact ⟨_, rfl⟩
    have nd := sc_Over___init__.nd
    have hu := hu_of hr
    refine ⟨_, (pss_cons (ps_expr (Z.pe_oeinit (by rfl) T.g_StoreError T.xr_StoreError T.xs_StoreError T.xi_StoreError (pa_cons (pv 0) (pa_cons pe_str pa_nil))))
      (pss_one (ps_ost (pv 0) (pv 1)))), ?_⟩
    simp only [cxOf, Cx.nox, L2.start, List.map_cons, List.map_nil, List.length_cons, List.length_nil, Nat.reduceAdd, Nat.reduceSub, List.replicate, List.cons_append, List.nil_append]
    walk_at "z"
    refine ⟨a, A.Over, _, rfl, by simp, T.oex_Over, ha, ?_⟩
    walk_at "z"
    refine ⟨a, A.Over, rfl, T.oex_Over, T.xf_Over_number, .inl ⟨ha, fun d hd hne => ?_⟩⟩
    have ha1 : ∀ {H' : Hp} {x : HO}, (upd (upd H' d x) a (exo a A.Over (some d))) a = some (exo a A.Over (some d)) := upd_same
    have hd1 : (upd (upd H d (exd d [("number", w0)])) a (exo a A.Over (some d))) d = some (exd d [("number", w0)]) := by rw [upd_ne hne, upd_same]
    walk_at "z"
    exact k d _ hd hne ha1 hd1 fun b h1 h2 => by rw [upd_ne h1, upd_ne h2]
def sp_Beaten___init__ (K : PySem.W.Frag) (A : Adr) : Sp := Z.spX K A.Beaten ["table", "key", "by"]
theorem ok_Beaten___init__ (T : Txt K mg A) : ∃ fd, FnOk P w K mg base CX0 1 A.f_Beaten___init__ fd ["self", "table", "key", "by"] (sp_Beaten___init__ K A) ∧ Binds K fd ["self", "table", "key", "by"] [] := by
  have ⟨fd, F, b⟩ := T.d_Beaten___init__
  refine ⟨fd, F.ok sc_Beaten___init__ (fun vs H Q E h => ?_) (fun cdv Ar outer s H vs Q E hr h => ?_), b⟩
  · obtain ⟨a, ws, rfl, hl, _⟩ := h
    rw [List.length_cons, hl]
    rfl
  · obtain ⟨a, ws, rfl, hl, ha, k⟩ := h
    obtain ⟨w0, w1, w2, rfl⟩ : ∃ w0 w1 w2, ws = [w0, w1, w2] := by
      match ws, hl with
      | [w0, w1, w2], _ => exact ⟨_, _, _, rfl⟩
    have nd := sc_Beaten___init__.nd
    have hu := hu_of hr
    refine ⟨_, (pss_cons (ps_expr (Z.pe_oeinit (by rfl) T.g_StoreError T.xr_StoreError T.xs_StoreError T.xi_StoreError (pa_cons (pv 0) (pa_cons pe_str pa_nil))))
      (pss_cons (ps_ost (pv 0) (pv 1))
      (pss_cons (ps_ost (pv 0) (pv 2))
      (pss_one (ps_ost (pv 0) (pv 3)))))), ?_⟩
    simp only [cxOf, Cx.nox, L2.start, List.map_cons, List.map_nil, List.length_cons, List.length_nil, Nat.reduceAdd, Nat.reduceSub, List.replicate, List.cons_append, List.nil_append]
    walk_at "z"
    refine ⟨a, A.Beaten, _, rfl, by simp, T.oex_Beaten, ha, ?_⟩
    walk_at "z"
    refine ⟨a, A.Beaten, rfl, T.oex_Beaten, T.xf_Beaten_table, .inl ⟨ha, fun d hd hne => ?_⟩⟩
    have ha1 : ∀ {H' : Hp} {x : HO}, (upd (upd H' d x) a (exo a A.Beaten (some d))) a = some (exo a A.Beaten (some d)) := upd_same
    have hd1 : (upd (upd H d (exd d [("table", w0)])) a (exo a A.Beaten (some d))) d = some (exd d [("table", w0)]) := by rw [upd_ne hne, upd_same]
    walk_at "z"
    refine ⟨a, A.Beaten, rfl, T.oex_Beaten, T.xf_Beaten_key, .inr ⟨d, _, by first | exact ha1 | (rw [upd_ne (Ne.symm hne)]; exact ha1), by first | exact hd1 | exact upd_same, by simp only [List.length_cons, List.length_nil]; omega, ?_⟩⟩
    walk_at "z"
    refine ⟨a, A.Beaten, rfl, T.oex_Beaten, T.xf_Beaten_by, .inr ⟨d, _, by first | exact ha1 | (rw [upd_ne (Ne.symm hne)]; exact ha1), by first | exact hd1 | exact upd_same, by simp only [List.length_cons, List.length_nil]; omega, ?_⟩⟩
    walk_at "z"
    exact k d _ hd hne (by rw [upd_ne (Ne.symm hne), upd_ne (Ne.symm hne)]; exact ha1) upd_same fun b h1 h2 => by rw [upd_ne h2, upd_ne h2, upd_ne h1, upd_ne h2]
def sp_NoQuestion___init__ (K : PySem.W.Frag) (A : Adr) : Sp := Z.spX K A.NoQuestion ["place"]
theorem ok_NoQuestion___init__ (T : Txt K mg A) : ∃ fd, FnOk P w K mg base CX0 1 A.f_NoQuestion___init__ fd ["self", "place"] (sp_NoQuestion___init__ K A) ∧ Binds K fd ["self", "place"] [] := by
  have ⟨fd, F, b⟩ := T.d_NoQuestion___init__
  refine ⟨fd, F.ok sc_NoQuestion___init__ (fun vs H Q E h => ?_) (fun cdv Ar outer s H vs Q E hr h => ?_), b⟩
  · obtain ⟨a, ws, rfl, hl, _⟩ := h
    rw [List.length_cons, hl]
    rfl
  · obtain ⟨a, ws, rfl, hl, ha, k⟩ := h
    obtain ⟨w0, rfl⟩ : ∃ w0, ws = [w0] := by
      match ws, hl with
      | [w0], _ => exact ⟨_, rfl⟩
    have nd := sc_NoQuestion___init__.nd
    have hu := hu_of hr
    refine ⟨_, (pss_cons (ps_expr (Z.pe_oeinit (by rfl) T.g_StoreError T.xr_StoreError T.xs_StoreError T.xi_StoreError (pa_cons (pv 0) (pa_cons pe_str pa_nil))))
      (pss_one (ps_ost (pv 0) (pv 1)))), ?_⟩
    simp only [cxOf, Cx.nox, L2.start, List.map_cons, List.map_nil, List.length_cons, List.length_nil, Nat.reduceAdd, Nat.reduceSub, List.replicate, List.cons_append, List.nil_append]
    walk_at "z"
    refine ⟨a, A.NoQuestion, _, rfl, by simp, T.oex_NoQuestion, ha, ?_⟩
    walk_at "z"
    refine ⟨a, A.NoQuestion, rfl, T.oex_NoQuestion, T.xf_NoQuestion_place, .inl ⟨ha, fun d hd hne => ?_⟩⟩
    have ha1 : ∀ {H' : Hp} {x : HO}, (upd (upd H' d x) a (exo a A.NoQuestion (some d))) a = some (exo a A.NoQuestion (some d)) := upd_same
    have hd1 : (upd (upd H d (exd d [("place", w0)])) a (exo a A.NoQuestion (some d))) d = some (exd d [("place", w0)]) := by rw [upd_ne hne, upd_same]
    walk_at "z"
    exact k d _ hd hne ha1 hd1 fun b h1 h2 => by rw [upd_ne h1, upd_ne h2]
def sp_NoColumn___init__ (K : PySem.W.Frag) (A : Adr) : Sp := Z.spX K A.NoColumn ["name"]
theorem ok_NoColumn___init__ (T : Txt K mg A) : ∃ fd, FnOk P w K mg base CX0 1 A.f_NoColumn___init__ fd ["self", "name"] (sp_NoColumn___init__ K A) ∧ Binds K fd ["self", "name"] [] := by
  have ⟨fd, F, b⟩ := T.d_NoColumn___init__
  refine ⟨fd, F.ok sc_NoColumn___init__ (fun vs H Q E h => ?_) (fun cdv Ar outer s H vs Q E hr h => ?_), b⟩
  · obtain ⟨a, ws, rfl, hl, _⟩ := h
    rw [List.length_cons, hl]
    rfl
  · obtain ⟨a, ws, rfl, hl, ha, k⟩ := h
    obtain ⟨w0, rfl⟩ : ∃ w0, ws = [w0] := by
      match ws, hl with
      | [w0], _ => exact ⟨_, rfl⟩
    have nd := sc_NoColumn___init__.nd
    have hu := hu_of hr
    refine ⟨_, (pss_cons (ps_expr (Z.pe_oeinit (by rfl) T.g_StoreError T.xr_StoreError T.xs_StoreError T.xi_StoreError (pa_cons (pv 0) (pa_cons pe_str pa_nil))))
      (pss_one (ps_ost (pv 0) (pv 1)))), ?_⟩
    simp only [cxOf, Cx.nox, L2.start, List.map_cons, List.map_nil, List.length_cons, List.length_nil, Nat.reduceAdd, Nat.reduceSub, List.replicate, List.cons_append, List.nil_append]
    walk_at "z"
    refine ⟨a, A.NoColumn, _, rfl, by simp, T.oex_NoColumn, ha, ?_⟩
    walk_at "z"
    refine ⟨a, A.NoColumn, rfl, T.oex_NoColumn, T.xf_NoColumn_name, .inl ⟨ha, fun d hd hne => ?_⟩⟩
    have ha1 : ∀ {H' : Hp} {x : HO}, (upd (upd H' d x) a (exo a A.NoColumn (some d))) a = some (exo a A.NoColumn (some d)) := upd_same
    have hd1 : (upd (upd H d (exd d [("name", w0)])) a (exo a A.NoColumn (some d))) d = some (exd d [("name", w0)]) := by rw [upd_ne hne, upd_same]
    walk_at "z"
    exact k d _ hd hne ha1 hd1 fun b h1 h2 => by rw [upd_ne h1, upd_ne h2]
def sp_Alike___init__ (K : PySem.W.Frag) (A : Adr) : Sp := Z.spX K A.Alike ["name"]
theorem ok_Alike___init__ (T : Txt K mg A) : ∃ fd, FnOk P w K mg base CX0 1 A.f_Alike___init__ fd ["self", "name"] (sp_Alike___init__ K A) ∧ Binds K fd ["self", "name"] [] := by
  have ⟨fd, F, b⟩ := T.d_Alike___init__
  refine ⟨fd, F.ok sc_Alike___init__ (fun vs H Q E h => ?_) (fun cdv Ar outer s H vs Q E hr h => ?_), b⟩
  · obtain ⟨a, ws, rfl, hl, _⟩ := h
    rw [List.length_cons, hl]
    rfl
  · obtain ⟨a, ws, rfl, hl, ha, k⟩ := h
    obtain ⟨w0, rfl⟩ : ∃ w0, ws = [w0] := by
      match ws, hl with
      | [w0], _ => exact ⟨_, rfl⟩
    have nd := sc_Alike___init__.nd
    have hu := hu_of hr
    refine ⟨_, (pss_cons (ps_expr (Z.pe_oeinit (by rfl) T.g_StoreError T.xr_StoreError T.xs_StoreError T.xi_StoreError (pa_cons (pv 0) (pa_cons pe_str pa_nil))))
      (pss_one (ps_ost (pv 0) (pv 1)))), ?_⟩
    simp only [cxOf, Cx.nox, L2.start, List.map_cons, List.map_nil, List.length_cons, List.length_nil, Nat.reduceAdd, Nat.reduceSub, List.replicate, List.cons_append, List.nil_append]
    walk_at "z"
    refine ⟨a, A.Alike, _, rfl, by simp, T.oex_Alike, ha, ?_⟩
    walk_at "z"
    refine ⟨a, A.Alike, rfl, T.oex_Alike, T.xf_Alike_name, .inl ⟨ha, fun d hd hne => ?_⟩⟩
    have ha1 : ∀ {H' : Hp} {x : HO}, (upd (upd H' d x) a (exo a A.Alike (some d))) a = some (exo a A.Alike (some d)) := upd_same
    have hd1 : (upd (upd H d (exd d [("name", w0)])) a (exo a A.Alike (some d))) d = some (exd d [("name", w0)]) := by rw [upd_ne hne, upd_same]
    walk_at "z"
    exact k d _ hd hne ha1 hd1 fun b h1 h2 => by rw [upd_ne h1, upd_ne h2]
def sp_WrongKind___init__ (K : PySem.W.Frag) (A : Adr) : Sp := Z.spX K A.WrongKind ["name"]
theorem ok_WrongKind___init__ (T : Txt K mg A) : ∃ fd, FnOk P w K mg base CX0 1 A.f_WrongKind___init__ fd ["self", "name"] (sp_WrongKind___init__ K A) ∧ Binds K fd ["self", "name"] [] := by
  have ⟨fd, F, b⟩ := T.d_WrongKind___init__
  refine ⟨fd, F.ok sc_WrongKind___init__ (fun vs H Q E h => ?_) (fun cdv Ar outer s H vs Q E hr h => ?_), b⟩
  · obtain ⟨a, ws, rfl, hl, _⟩ := h
    rw [List.length_cons, hl]
    rfl
  · obtain ⟨a, ws, rfl, hl, ha, k⟩ := h
    obtain ⟨w0, rfl⟩ : ∃ w0, ws = [w0] := by
      match ws, hl with
      | [w0], _ => exact ⟨_, rfl⟩
    have nd := sc_WrongKind___init__.nd
    have hu := hu_of hr
    refine ⟨_, (pss_cons (ps_expr (Z.pe_oeinit (by rfl) T.g_StoreError T.xr_StoreError T.xs_StoreError T.xi_StoreError (pa_cons (pv 0) (pa_cons pe_str pa_nil))))
      (pss_one (ps_ost (pv 0) (pv 1)))), ?_⟩
    simp only [cxOf, Cx.nox, L2.start, List.map_cons, List.map_nil, List.length_cons, List.length_nil, Nat.reduceAdd, Nat.reduceSub, List.replicate, List.cons_append, List.nil_append]
    walk_at "z"
    refine ⟨a, A.WrongKind, _, rfl, by simp, T.oex_WrongKind, ha, ?_⟩
    walk_at "z"
    refine ⟨a, A.WrongKind, rfl, T.oex_WrongKind, T.xf_WrongKind_name, .inl ⟨ha, fun d hd hne => ?_⟩⟩
    have ha1 : ∀ {H' : Hp} {x : HO}, (upd (upd H' d x) a (exo a A.WrongKind (some d))) a = some (exo a A.WrongKind (some d)) := upd_same
    have hd1 : (upd (upd H d (exd d [("name", w0)])) a (exo a A.WrongKind (some d))) d = some (exd d [("name", w0)]) := by rw [upd_ne hne, upd_same]
    walk_at "z"
    exact k d _ hd hne ha1 hd1 fun b h1 h2 => by rw [upd_ne h1, upd_ne h2]
def sp_NoStep___init__ (K : PySem.W.Frag) (A : Adr) : Sp := Z.spX K A.NoStep ["place"]
theorem ok_NoStep___init__ (T : Txt K mg A) : ∃ fd, FnOk P w K mg base CX0 1 A.f_NoStep___init__ fd ["self", "place"] (sp_NoStep___init__ K A) ∧ Binds K fd ["self", "place"] [] := by
  have ⟨fd, F, b⟩ := T.d_NoStep___init__
  refine ⟨fd, F.ok sc_NoStep___init__ (fun vs H Q E h => ?_) (fun cdv Ar outer s H vs Q E hr h => ?_), b⟩
  · obtain ⟨a, ws, rfl, hl, _⟩ := h
    rw [List.length_cons, hl]
    rfl
  · obtain ⟨a, ws, rfl, hl, ha, k⟩ := h
    obtain ⟨w0, rfl⟩ : ∃ w0, ws = [w0] := by
      match ws, hl with
      | [w0], _ => exact ⟨_, rfl⟩
    have nd := sc_NoStep___init__.nd
    have hu := hu_of hr
    refine ⟨_, (pss_cons (ps_expr (Z.pe_oeinit (by rfl) T.g_StoreError T.xr_StoreError T.xs_StoreError T.xi_StoreError (pa_cons (pv 0) (pa_cons pe_str pa_nil))))
      (pss_one (ps_ost (pv 0) (pv 1)))), ?_⟩
    simp only [cxOf, Cx.nox, L2.start, List.map_cons, List.map_nil, List.length_cons, List.length_nil, Nat.reduceAdd, Nat.reduceSub, List.replicate, List.cons_append, List.nil_append]
    walk_at "z"
    refine ⟨a, A.NoStep, _, rfl, by simp, T.oex_NoStep, ha, ?_⟩
    walk_at "z"
    refine ⟨a, A.NoStep, rfl, T.oex_NoStep, T.xf_NoStep_place, .inl ⟨ha, fun d hd hne => ?_⟩⟩
    have ha1 : ∀ {H' : Hp} {x : HO}, (upd (upd H' d x) a (exo a A.NoStep (some d))) a = some (exo a A.NoStep (some d)) := upd_same
    have hd1 : (upd (upd H d (exd d [("place", w0)])) a (exo a A.NoStep (some d))) d = some (exd d [("place", w0)]) := by rw [upd_ne hne, upd_same]
    walk_at "z"
    exact k d _ hd hne ha1 hd1 fun b h1 h2 => by rw [upd_ne h1, upd_ne h2]
/-! ### a schema's questions, refused where there is no such table -/
/-- the refusal C with one field -/
def NoX (E : XK) (C : Addr) (f : Str) (u : V) (H : Hp) : Prop := ∀ a H', Same H H' → H' a = some (.xd [(f, u)]) → E (.ref C) (some a) H'
theorem NoX.later {E : XK} {C : Addr} {f : Str} {u : V} {H H1 : Hp} (h : NoX E C f u H) (s : Same H H1) : NoX E C f u H1 := fun a H' s' e => h a H' (s.trans s') e
def NoTab (ts : List Tab) (d : PyData) : Prop := ∀ t ∈ ts, d ≠ .str t.1
def sp_Schema_need_table (K : PySem.W.Frag) (A : Adr) : Sp := fun vs H Q E => ∃ (F : Hp) (v u : V) (d : PyData) (ts : List Tab) (os : List (Str × Str)), vs = [v, u] ∧ Same F H ∧ IsSch K A F v ts os ∧ Z.DX K F u d ∧ SmallS d ∧ (∀ t ∈ ts, d = .str t.1 → Q .non H) ∧ (NoTab ts d → NoX E A.NoTable "table" u H)
theorem ok_Schema_need_table (T : Txt K mg A) : ∃ fd, FnOk P w K mg base (L2.CX P w) 3 A.f_Schema_need_table fd ["self", "table"] (sp_Schema_need_table K A) ∧ Binds K fd ["self", "table"] [] := by
  have ⟨fd, F, b⟩ := T.d_Schema_need_table
  refine ⟨fd, F.okX sc_Schema_need_table (fun vs H Q E h => ?_) (fun cdv Ar outer s H vs Q E hr h => ?_), b⟩
  · obtain ⟨F0, v, u, d, ts, os, rfl, _⟩ := h
    rfl
  · obtain ⟨F0, v, u, d, ts, os, rfl, sm, hs, hu', hz, k, kx⟩ := h
    have nd := sc_Schema_need_table.nd
    have hu := hu_of hr
    have ⟨fd_is_name, G_is_name, b_is_name⟩ := ok_is_name (P := P) (w := w) (base := base) T
    have ⟨fd_NoTable___init__, G_NoTable___init__, b_NoTable___init__⟩ := ok_NoTable___init__ (P := P) (w := w) (base := base) T
    refine ⟨_, (pss_one (ps_if (PW.pt (pw_or (pt_not (pt_val (pe_call G_is_name (hr.mono (by decide)) (by rfl) T.g_is_name T.d_is_name.kp b_is_name .nil pass0 (pa_cons (pv 1) pa_nil)))) (pw_or1 (pt_cmp (pc_dnotin hu (pv 1) (pe_fld (pv 0) rfl)))))) (pss_one (ps_raise rfl (takes_of rfl rfl rfl rfl) (pmk_oex T.oex_NoTable T.iC_NoTable T.tI_NoTable G_NoTable___init__ (hr.mono (by decide)) b_NoTable___init__ .nil pass0 (by rfl) T.g_NoTable (pa_cons (pv 1) pa_nil)))) pss_nil)), ?_⟩
    simp only [cxOf, Cx.nox, L2.start, List.map_cons, List.map_nil, List.length_cons, List.length_nil, Nat.reduceAdd, Nat.reduceSub, List.replicate, List.cons_append, List.nil_append]
    obtain ⟨x, dx, dd, kvs, ko, rfl, hx, hd, kv, hk, tk, ok⟩ := hs
    have hx' := sm _ _ hx
    have hd' := sm _ _ hd
    walk_at "z"
    refine ⟨_, _, rfl, Z.dx_same sm hu', hz, ?_⟩
    cases hn : named d with
    | false =>
      walk_at "z"
      refine Z.raiseX (K := K) rfl (by decide) fun a ha => ?_
      exact kx (fun t ht e => by rw [e] at hn; exact absurd (tk.nm t ht).1 (of_decide_eq_false hn)) a _ (Z.same_new ha) upd_same
    | true =>
      obtain ⟨z, rfl, hzn⟩ := named_str hn
      cases Z.dx_str hu'
      by_cases hm : z ∈ ts.map (·.1)
      · obtain ⟨t, ht, rfl⟩ := List.mem_map.mp hm
        obtain ⟨w, ew, hw⟩ := kv.some tk.nd ht
        walk_at "z"
        refine dinS hd' ?_
        rw [ew]
        walk_at "z"
        exact k t ht rfl
      · walk_at "z"
        refine dinS hd' ?_
        rw [kv.none hm]
        walk_at "z"
        refine Z.raiseX (K := K) rfl (by decide) fun a ha => ?_
        exact kx (fun t ht e => hm (by cases e; exact List.mem_map.mpr ⟨t, ht, rfl⟩)) a _ (Z.same_new ha) upd_same
def sp_Schema_columns_of (K : PySem.W.Frag) (A : Adr) : Sp := fun vs H Q E => ∃ (F : Hp) (v u : V) (d : PyData) (ts : List Tab) (os : List (Str × Str)), vs = [v, u] ∧ Same F H ∧ IsSch K A F v ts os ∧ Z.DX K F u d ∧ SmallS d ∧
  (∀ t ∈ ts, d = .str t.1 → ∀ H' p xs, Z.Ws [(p, .lst xs)] F H F H' → DpAll K F xs (t.2.map pairD) → Q (.ref p) H') ∧ (NoTab ts d → NoX E A.NoTable "table" u H)
theorem ok_Schema_columns_of (T : Txt K mg A) : ∃ fd, FnOk P w K mg base (L2.CX P w) 4 A.f_Schema_columns_of fd ["self", "table"] (sp_Schema_columns_of K A) ∧ Binds K fd ["self", "table"] [] := by
  have ⟨fd, F, b⟩ := T.d_Schema_columns_of
  refine ⟨fd, F.okX sc_Schema_columns_of (fun vs H Q E h => ?_) (fun cdv Ar outer s H vs Q E hr h => ?_), b⟩
  · obtain ⟨F0, v, u, d, ts, os, rfl, _⟩ := h
    rfl
  · obtain ⟨F0, v, u, d, ts, os, rfl, sm, hs, hu', hz, k, kx⟩ := h
    have nd := sc_Schema_columns_of.nd
    have hu := hu_of hr
    have ⟨fd_Schema_need_table, G_Schema_need_table, b_Schema_need_table⟩ := ok_Schema_need_table (P := P) (w := w) (base := base) T
    refine ⟨_, (pss_cons (ps_expr (pe_meth (pv 0) T.c_Schema T.m_Schema_need_table G_Schema_need_table (hr.mono (by decide)) b_Schema_need_table .nil (passes_call (takes_of rfl rfl rfl rfl) (fun _ _ _ _ h => h)) (pa_cons (pv 1) pa_nil)))
      (pss_one (ps_ret (pe_callTy call_list_of (by rfl) T.b_list (by decide +kernel) (pa_cons (pe_dget hu (pe_fld (pv 0) rfl) (pv 1) (fun _ _ => rfl)) pa_nil))))), ?_⟩
    simp only [cxOf, Cx.nox, L2.start, List.map_cons, List.map_nil, List.length_cons, List.length_nil, Nat.reduceAdd, Nat.reduceSub, List.replicate, List.cons_append, List.nil_append]
    have hs0 := hs
    obtain ⟨x, dx, dd, kvs, ko, rfl, hx, hd, kv, hk, tk, ok⟩ := hs
    have hx' := sm _ _ hx
    have hd' := sm _ _ hd
    walk_at "z"
    refine ⟨F0, _, u, d, ts, os, rfl, sm, hs0, hu', hz, fun t ht e => ?_, kx⟩
    subst e
    cases Z.dx_str hu'
    obtain ⟨w, ew, hw⟩ := kv.some tk.nd ht
    walk_at "z"
    refine dgetS hd' ew ?_
    walk_at "z"
    obtain ⟨a, xs, rfl, h1, h2⟩ := Z.dp_tup hw
    refine ⟨a, xs, rfl, .inr (Z.seqT sm h1), fun p hp => ?_⟩
    exact k t ht rfl _ p xs ((Z.Ws.init sm).new hp) h2
def NoCol (t : Tab) (d : PyData) : Prop := ∀ c ∈ t.2, d ≠ .str c.1
def sp_Schema_kind_of (K : PySem.W.Frag) (A : Adr) : Sp := fun vs H Q E => ∃ (F : Hp) (v u w : V) (d e : PyData) (ts : List Tab) (os : List (Str × Str)), vs = [v, u, w] ∧ Same F H ∧ IsSch K A F v ts os ∧ Z.DX K F u d ∧ SmallS d ∧ Z.DX K F w e ∧ SmallS e ∧
  (∀ t ∈ ts, d = .str t.1 → (∀ c ∈ t.2, e = .str c.1 → Q (.str c.2) H) ∧ (NoCol t e → NoX E A.NoColumn "name" w H)) ∧ (NoTab ts d → NoX E A.NoTable "table" u H)
theorem ok_Schema_kind_of (T : Txt K mg A) : ∃ fd, FnOk P w K mg base (L2.CX P w) 4 A.f_Schema_kind_of fd ["self", "table", "column"] (sp_Schema_kind_of K A) ∧ Binds K fd ["self", "table", "column"] [] := by
  have ⟨fd, F, b⟩ := T.d_Schema_kind_of
  refine ⟨fd, F.okX sc_Schema_kind_of (fun vs H Q E h => ?_) (fun cdv Ar outer s H vs Q E hr h => ?_), b⟩
  · obtain ⟨F0, v, u, wv, d, e, ts, os, rfl, _⟩ := h
    rfl
  · obtain ⟨F0, v, u, wv, d, e, ts, os, rfl, sm, hs, hu', hz, hw', hze, k, kx⟩ := h
    have nd := sc_Schema_kind_of.nd
    have hu := hu_of hr
    have ⟨fd_Schema_need_table, G_Schema_need_table, b_Schema_need_table⟩ := ok_Schema_need_table (P := P) (w := w) (base := base) T
    have ⟨fd_is_name, G_is_name, b_is_name⟩ := ok_is_name (P := P) (w := w) (base := base) T
    have ⟨fd_NoColumn___init__, G_NoColumn___init__, b_NoColumn___init__⟩ := ok_NoColumn___init__ (P := P) (w := w) (base := base) T
    refine ⟨_, (pss_cons (ps_expr (pe_meth (pv 0) T.c_Schema T.m_Schema_need_table G_Schema_need_table (hr.mono (by decide)) b_Schema_need_table .nil (passes_call (takes_of rfl rfl rfl rfl) (fun _ _ _ _ h => h)) (pa_cons (pv 1) pa_nil)))
      (pss_cons (ps_for (passes_of rfl) rfl (pi_tup (pe_dget hu (pe_fld (pv 0) rfl) (pv 1) (fun _ _ => rfl))) (pg_tup rfl (pgs_cons (pg_name (i := 3) nd rfl (Or.inl rfl)) (pgs_cons (pg_name (i := 4) nd rfl (Or.inl rfl)) pgs_nil))) (pss_one (ps_if (PW.pt (pw_and (pt_val (pe_call G_is_name (hr.mono (by decide)) (by rfl) T.g_is_name T.d_is_name.kp b_is_name .nil pass0 (pa_cons (pv 2) pa_nil))) (pw_and1 (pt_cmpR op_eq (pv 3) (pv 2) (nomark _))))) (pss_one (ps_ret (pv 4))) pss_nil)))
      (pss_one (ps_raise rfl (takes_of rfl rfl rfl rfl) (pmk_oex T.oex_NoColumn T.iC_NoColumn T.tI_NoColumn G_NoColumn___init__ (hr.mono (by decide)) b_NoColumn___init__ .nil pass0 (by rfl) T.g_NoColumn (pa_cons (pv 2) pa_nil)))))), ?_⟩
    simp only [cxOf, Cx.nox, L2.start, List.map_cons, List.map_nil, List.length_cons, List.length_nil, Nat.reduceAdd, Nat.reduceSub, List.replicate, List.cons_append, List.nil_append]
    have hs0 := hs
    obtain ⟨x, dx, dd, kvs, ko, rfl, hx, hd, kv, hk, tk, ok⟩ := hs
    have hx' := sm _ _ hx
    have hd' := sm _ _ hd
    walk_at "z"
    refine ⟨F0, _, u, d, ts, os, rfl, sm, hs0, hu', hz, fun t ht ed => ?_, kx⟩
    subst ed
    cases Z.dx_str hu'
    obtain ⟨k1, k2⟩ := k t ht rfl
    obtain ⟨y, ew, hw⟩ := kv.some tk.nd ht
    have cok := (tk.nm t ht).2
    walk_at "z"
    refine Z.forE ?_
    walk_at "z"
    refine dgetS hd' ew ?_
    obtain ⟨a, xs, rfl, h1, h2⟩ := Z.dp_tup hw
    have hxl := Z.dpa_len h2
    rw [List.length_map] at hxl
    refine ⟨a, rfl, ⟨xs, Z.seqT sm h1⟩, for_it walk_tup (fun i σ H' => (∃ v3 v4, σ = [some (.ref x), some (.str t.1), some wv, v3, v4]) ∧ H' = H ∧ ∀ j c', j < i → t.2[j]? = some c' → e ≠ .str c'.1) ⟨⟨_, _, rfl⟩, rfl, fun j c' hj => absurd hj (Nat.not_lt_zero _)⟩ (fun i σ H' hi P => by rw [P.2.1]; exact Z.seqT sm h1) ?_ ?_⟩
    · rintro i y σ H' H'' hi ⟨⟨v3, v4, rfl⟩, rfl, hno⟩ ⟨rfl, hy⟩
      obtain ⟨dd, e1, e2⟩ := Z.dpa_ix h2 hy
      rw [List.getElem?_map] at e1
      obtain ⟨c', hc', rfl⟩ := Option.map_eq_some_iff.mp e1
      have hcm := List.mem_of_getElem? hc'
      refine Z.gtupD e2 sm fun ys hys => ?_
      obtain ⟨x1, x2, rfl, hx1, hx2⟩ := Z.dpa2 hys
      cases Z.dp_str hx1
      cases Z.dp_str hx2
      have step : e ≠ .str c'.1 → ∀ j c2, j < i + 1 → t.2[j]? = some c2 → e ≠ .str c2.1 := fun hne j c2 hj hc2 => by
        by_cases ej : j = i
        · subst ej
          rw [hc'] at hc2
          cases hc2
          exact hne
        · exact hno j c2 (by omega) hc2
      walk_at "z"
      refine ⟨_, _, rfl, Z.dx_same sm hw', hze, ?_⟩
      cases hn : named e with
      | false =>
        walk_at "z"
        exact ⟨⟨_, _, rfl⟩, rfl, step fun h => by rw [h] at hn; exact absurd (cok.nm c' hcm).1 (of_decide_eq_false hn)⟩
      | true =>
        obtain ⟨z, rfl, hzn⟩ := named_str hn
        cases Z.dx_str hw'
        walk_at "z"
        refine Z.iteD (fun h => ?_) (fun h => ?_)
        · have e : c'.1 = z := V.str.inj h
          subst e
          walk_at "z"
          exact k1 c' hcm rfl
        · walk_at "z"
          exact ⟨⟨_, _, rfl⟩, rfl, step fun h' => h (by cases h'; rfl)⟩
    · rintro σ H' ⟨⟨v3, v4, rfl⟩, rfl, hno⟩
      walk_at "z"
      refine Z.raiseX (K := K) rfl (by decide) fun a ha => ?_
      refine k2 (fun c hc => ?_) a _ (Z.same_new ha) upd_same
      obtain ⟨j, hj⟩ := List.mem_iff_getElem?.mp hc
      exact hno j c (by have := (List.getElem?_eq_some_iff.mp hj).1; omega) hj

/-- which orders there are -/
def ordAns (t : Tab) (os : List (Str × Str)) : PyData → Bool
  | .str z => decide (Name z) && (decide (some z = t.2.head?.map (·.1)) || decide ((t.1, z) ∈ os))
  | _ => false
def sp_Schema_has_order (K : PySem.W.Frag) (A : Adr) : Sp := fun vs H Q E => ∃ (F : Hp) (v u0 u : V) (d0 d : PyData) (ts : List Tab) (os : List (Str × Str)), vs = [v, u0, u] ∧ Same F H ∧ IsSch K A F v ts os ∧ Z.DX K F u0 d0 ∧ SmallS d0 ∧ Z.DX K F u d ∧ SmallS d ∧ (∀ t ∈ ts, d0 = .str t.1 → ∀ H', Same H H' → Q (.bl (ordAns t os d)) H') ∧ (NoTab ts d0 → NoX E A.NoTable "table" u0 H)
theorem ok_Schema_has_order (T : Txt K mg A) : ∃ fd, FnOk P w K mg base (L2.CX P w) 4 A.f_Schema_has_order fd ["self", "table", "column"] (sp_Schema_has_order K A) ∧ Binds K fd ["self", "table", "column"] [] := by
  have ⟨fd, F, b⟩ := T.d_Schema_has_order
  refine ⟨fd, F.okX sc_Schema_has_order (fun vs H Q E h => ?_) (fun cdv Ar outer s H vs Q E hr h => ?_), b⟩
  · obtain ⟨F0, v, u0, u, d0, dd, ts, os, rfl, _⟩ := h
    rfl
  · obtain ⟨F0, v, u0, u, d0, dd, ts, os, rfl, sm, hs, hu0, hz0, hu', hz, k, kx⟩ := h
    have nd := sc_Schema_has_order.nd
    have hu := hu_of hr
    have ⟨fd_Schema_need_table, G_Schema_need_table, b_Schema_need_table⟩ := ok_Schema_need_table (P := P) (w := w) (base := base) T
    have ⟨fd_is_name, G_is_name, b_is_name⟩ := ok_is_name (P := P) (w := w) (base := base) T
    refine ⟨_, (pss_cons (ps_expr (pe_meth (pv 0) T.c_Schema T.m_Schema_need_table G_Schema_need_table (hr.mono (by decide)) b_Schema_need_table .nil (passes_call (takes_of rfl rfl rfl rfl) (fun _ _ _ _ h => h)) (pa_cons (pv 1) pa_nil)))
      (pss_cons (ps_if (pt_not (pt_val (pe_call G_is_name (hr.mono (by decide)) (by rfl) T.g_is_name T.d_is_name.kp b_is_name .nil pass0 (pa_cons (pv 2) pa_nil)))) (pss_one (ps_ret pe_bl)) pss_nil)
      (pss_one (ps_ret (pe_or (pe_cmpR op_eq (pv 2) (pe_ix ix_tup (pe_ix ix_tup (pe_dget hu (pe_fld (pv 0) rfl) (pv 1) (fun _ _ => rfl)) pe_int (fun _ _ => rfl)) pe_int (fun _ _ => rfl)) (nomark _)) (pe_one (pe_cmpR (Z.op_inDT (Z.hu65 hr)) (pe_tup (pa_cons (pv 1) (pa_cons (pv 2) pa_nil))) (pe_fld (pv 0) rfl) (by rfl)))))))), ?_⟩
    simp only [cxOf, Cx.nox, L2.start, List.map_cons, List.map_nil, List.length_cons, List.length_nil, Nat.reduceAdd, Nat.reduceSub, List.replicate, List.cons_append, List.nil_append]
    have hs0 := hs
    obtain ⟨x, dx, d, kvs, ko, rfl, hx, hd, kv, hk, tk, ok⟩ := hs
    have hx' := sm _ _ hx
    have hd' := sm _ _ hd
    walk_at "z"
    refine ⟨F0, _, u0, d0, ts, os, rfl, sm, hs0, hu0, hz0, fun t ht ed => ?_, kx⟩
    subst ed
    cases Z.dx_str hu0
    replace k := k t ht rfl
    obtain ⟨y, ew, hw⟩ := kv.some tk.nd ht
    obtain ⟨tn, cok⟩ := tk.nm t ht
    walk_at "z"
    refine ⟨u, dd, rfl, Z.dx_same sm hu', hz, ?_⟩
    walk_at "z"
    cases hnm : named dd with
    | false =>
      have : ordAns t os dd = false := by
        cases dd <;> first | rfl | (rename_i z; show (decide (Name z) && _) = false; rw [show decide (Name z) = false from hnm]; rfl)
      rw [this] at k
      walk_at "z"
      exact k _ (Same.refl _)
    | true =>
      obtain ⟨z, rfl, hn⟩ : ∃ z, dd = .str z ∧ Name z := by
        cases dd <;> first | exact ⟨_, rfl, of_decide_eq_true hnm⟩ | exact absurd hnm (by simp [named])
      cases Z.dx_str hu'
      obtain ⟨c, r, e2⟩ : ∃ c r, t.2 = c :: r := by
        cases h : t.2 with
        | nil => have := cok.lo; rw [h] at this; exact absurd this (by decide)
        | cons c r => exact ⟨c, r, rfl⟩
      have ea : ordAns t os (.str z) = (decide (z = c.1) || decide ((t.1, z) ∈ os)) := by
        show (decide (Name z) && (decide (some z = t.2.head?.map (·.1)) || _)) = _
        rw [decide_eq_true hn, e2]
        simp
      rw [ea] at k
      walk_at "z"
      refine dgetS hd' ew ?_
      rw [e2] at hw
      walk_at "z"
      refine Z.ixT hw sm 0 rfl fun w1 hw1 => ?_
      walk_at "z"
      refine Z.ixT hw1 sm 0 rfl fun w2 hw2 => ?_
      cases Z.dp_str hw2
      walk_at "z"
      by_cases e : z = c.1
      · rw [decide_eq_true (show V.str z = V.str c.1 by rw [e])]
        walk_at "z"
        rw [decide_eq_true e] at k
        exact k _ (Same.refl _)
      · rw [decide_eq_false (show ¬ V.str z = V.str c.1 from fun h => e (V.str.inj h))]
        rw [decide_eq_false e] at k
        walk_at "z"
        refine ⟨by simp only [List.length_cons, List.length_nil]; decide, fun p hp => ?_⟩
        have sp := Z.same_new (o := .tup [.str t.1, .str z]) hp
        have gp : upd H p (.tup [.str t.1, .str z]) p = _ := upd_same
        generalize upd H p (.tup [.str t.1, .str z]) = H1 at sp gp ⊢
        have hx1 := sp _ _ hx'
        walk_at "z"
        refine ⟨pairD (t.1, z), _, .tup (SqT.of gp) (.cons (.str _) (.cons (.str _) .nil)), Z.dp_same (sm.trans sp) hk, shaped_pair (pairOk_of ⟨tn, hn⟩), shaped_pairsT (fun o h => pairOk_of (ok.pair tk o h)), ?_⟩
        rw [any_pair]
        exact k _ sp
def fitsD (cs : List Col) : PyData → Bool
  | .tuple ds => decide (ds.length = cs.length) && ((cs.zip ds).all fun p => valOk p.1.2 p.2)
  | _ => false
def AllSmall : PyData → Prop
  | .tuple ds => ds.length ≤ 1000 ∧ ∀ d ∈ ds, SmallS d
  | _ => True
theorem isTup {d : PyData} (h : Z.isTy "tuple" d = true) : ∃ ds, d = .tuple ds := by cases d <;> first | exact ⟨_, rfl⟩ | exact absurd h (by simp [Z.isTy, Z.tyN])
theorem notTup {d : PyData} {cs : List Col} (h : Z.isTy "tuple" d = false) : fitsD cs d = false := by cases d <;> first | rfl | exact absurd h (by simp [Z.isTy, Z.tyN])
def sp_Schema_fits (K : PySem.W.Frag) (A : Adr) : Sp := fun vs H Q E => ∃ (F : Hp) (v u0 u : V) (d0 d : PyData) (ts : List Tab) (os : List (Str × Str)), vs = [v, u0, u] ∧ Same F H ∧ IsSch K A F v ts os ∧ Z.DX K F u0 d0 ∧ SmallS d0 ∧ Z.DX K F u d ∧ AllSmall d ∧ (∀ t ∈ ts, d0 = .str t.1 → ∀ H', Same H H' → Q (.bl (fitsD t.2 d)) H') ∧ (NoTab ts d0 → NoX E A.NoTable "table" u0 H)
theorem ok_Schema_fits (T : Txt K mg A) : ∃ fd, FnOk P w K mg base (L2.CX P w) 4 A.f_Schema_fits fd ["self", "table", "row"] (sp_Schema_fits K A) ∧ Binds K fd ["self", "table", "row"] [] := by
  have ⟨fd, F, b⟩ := T.d_Schema_fits
  refine ⟨fd, F.okX sc_Schema_fits (fun vs H Q E h => ?_) (fun cdv Ar outer s H vs Q E hr h => ?_), b⟩
  · obtain ⟨F0, v, u0, u, d0, dd, ts, os, rfl, _⟩ := h
    rfl
  · obtain ⟨F0, v, u0, u, d0, dd, ts, os, rfl, sm, hs, hu0, hz0, hu', hz, k, kx⟩ := h
    have nd := sc_Schema_fits.nd
    have hu := hu_of hr
    have ⟨fd_Schema_need_table, G_Schema_need_table, b_Schema_need_table⟩ := ok_Schema_need_table (P := P) (w := w) (base := base) T
    have ⟨fd_is_value, G_is_value, b_is_value⟩ := ok_is_value (P := P) (w := w) (base := base) T
    refine ⟨_, (pss_cons (ps_expr (pe_meth (pv 0) T.c_Schema T.m_Schema_need_table G_Schema_need_table (hr.mono (by decide)) b_Schema_need_table .nil (passes_call (takes_of rfl rfl rfl rfl) (fun _ _ _ _ h => h)) (pa_cons (pv 1) pa_nil)))
      (pss_cons (ps_if (PW.pt (pw_or (pt_not (pt_val (pe_callB call_isi (by rfl) T.b_isinstance (by decide +kernel) (pa_cons (pv 2) (pa_cons (pe_bltn (v := .ty "tuple") (u := .type "tuple") (by rfl) T.b_tuple (by decide +kernel) rfl) pa_nil))))) (pw_or1 (pt_cmpR op_ne (pe_callB call_len_seq (by rfl) T.b_len PySem.boot_len (pa_cons (pv 2) pa_nil)) (pe_callB call_len_seq (by rfl) T.b_len PySem.boot_len (pa_cons (pe_dget hu (pe_fld (pv 0) rfl) (pv 1) (fun _ _ => rfl)) pa_nil)) (nomark _))))) (pss_one (ps_ret pe_bl)) pss_nil)
      (pss_cons (ps_for (passes_of rfl) rfl (RZ.pi_zipA (by rfl) T.b_zip (pa_cons (pe_dget hu (pe_fld (pv 0) rfl) (pv 1) (fun _ _ => rfl)) (pa_cons (pv 2) pa_nil))) (pg_tup rfl (pgs_cons (pg_name (i := 3) nd rfl (Or.inl rfl)) (pgs_cons (pg_name (i := 4) nd rfl (Or.inl rfl)) pgs_nil))) (pss_one (ps_if (pt_not (pt_val (pe_call G_is_value (hr.mono (by decide)) (by rfl) T.g_is_value T.d_is_value.kp b_is_value .nil pass0 (pa_cons (pe_ix ix_tup (pv 3) pe_int (fun _ _ => rfl)) (pa_cons (pv 4) pa_nil))))) (pss_one (ps_ret pe_bl)) pss_nil)))
      (pss_one (ps_ret pe_bl))))), ?_⟩
    simp only [cxOf, Cx.nox, L2.start, List.map_cons, List.map_nil, List.length_cons, List.length_nil, Nat.reduceAdd, Nat.reduceSub, List.replicate, List.cons_append, List.nil_append]
    have hs0 := hs
    obtain ⟨x, dx, d, kvs, ko, rfl, hx, hd, kv, hk, tk, ok⟩ := hs
    have hx' := sm _ _ hx
    have hd' := sm _ _ hd
    walk_at "z"
    refine ⟨F0, _, u0, d0, ts, os, rfl, sm, hs0, hu0, hz0, fun t ht ed => ?_, kx⟩
    subst ed
    cases Z.dx_str hu0
    replace k := k t ht rfl
    obtain ⟨y, ew, hw⟩ := kv.some tk.nd ht
    obtain ⟨a, xs, rfl, h1, h2⟩ := Z.dp_tup hw
    have hlen := Z.dpa_len h2
    rw [List.length_map] at hlen
    walk_at "z"
    refine Z.isiX hu' sm (by simp) ?_
    walk_at "z"
    cases hty : Z.isTy "tuple" dd with
    | false =>
      rw [notTup hty] at k
      walk_at "z"
      exact k _ (Same.refl _)
    | true =>
      obtain ⟨ds, rfl⟩ := isTup hty
      obtain ⟨b, ys, rfl, g1, g2⟩ := Z.dx_tup hu'
      have glen := Z.dxs_len g2
      walk_at "z"
      refine seqOf_len (Q := Q) (.inr (Z.seqT sm g1)) ?_
      walk_at "z"
      refine dgetS hd' ew ?_
      refine seqOf_len (Q := Q) (.inr (Z.seqT sm h1)) ?_
      walk_at "z"
      have ef : fitsD t.2 (.tuple ds) = (decide (ds.length = t.2.length) && ((t.2.zip ds).all fun p => valOk p.1.2 p.2)) := rfl
      refine Z.iteN (fun hne => ?_) (fun heq => ?_)
      · walk_at "z"
        rw [ef, decide_eq_false (fun e => hne (by rw [glen, hlen, e]))] at k
        exact k _ (Same.refl _)
      · have heq : ys.length = xs.length := by have := V.int.inj heq; omega
        rw [ef, decide_eq_true (show ds.length = t.2.length by omega)] at k
        walk_at "z"
        refine Z.forE ?_
        walk_at "z"
        refine dgetS hd' ew ?_
        walk_at "z"
        refine ⟨a, b, xs, ys, rfl, .inr ⟨Z.seqT sm h1, Z.seqT sm g1, ?_⟩⟩
        refine RZ.for_zipT heq.symm (fun i σ H' => (∃ v3 v4, σ = [some (.ref x), some (.str t.1), some (.ref b), v3, v4]) ∧ Same H H' ∧ ((t.2.zip ds).take i).all (fun p => valOk p.1.2 p.2) = true) ⟨⟨_, _, rfl⟩, Same.refl _, rfl⟩ (fun i σ H' P => ⟨Z.seqT (sm.trans P.2.1) h1, Z.seqT (sm.trans P.2.1) g1⟩) ?_ ?_
        · rintro i x1 y1 T σ H1 hx1 hy1 ⟨⟨v3, v4, rfl⟩, s1, hall⟩ hT
          have s2 := Z.same_new (o := .tup [x1, y1]) hT
          have gT : upd H1 T (.tup [x1, y1]) T = _ := upd_same
          generalize upd H1 T (.tup [x1, y1]) = H2 at s2 gT ⊢
          refine ⟨T, _, rfl, SqT.of gT, rfl, ?_⟩
          obtain ⟨c0, e1, hx2⟩ := Z.dpa_ix h2 hx1
          rw [List.getElem?_map] at e1
          obtain ⟨c, hc, rfl⟩ := Option.map_eq_some_iff.mp e1
          obtain ⟨d1, e2, hy2⟩ := Z.dxs_ix g2 hy1
          have hzip : (t.2.zip ds)[i]? = some (c, d1) := by
            rw [List.getElem?_zip_eq_some]
            exact ⟨hc, e2⟩
          walk_at "z"
          refine Z.ixT hx2 (sm.trans (s1.trans s2)) 1 rfl fun w2 hw2 => ?_
          cases Z.dp_str hw2
          walk_at "z"
          refine ⟨c.2, y1, d1, rfl, Z.dx_same (sm.trans (s1.trans s2)) hy2, hz.2 d1 (List.mem_of_getElem? e2), ?_⟩
          walk_at "z"
          cases hv : valOk c.2 d1 with
          | false =>
            have : ((t.2.zip ds).all fun p => valOk p.1.2 p.2) = false := by
              rw [Bool.eq_false_iff]
              intro h
              have := List.all_eq_true.mp h _ (List.mem_of_getElem? hzip)
              simp only [hv] at this
              cases this
            rw [this] at k
            walk_at "z"
            exact k _ (s1.trans s2)
          | true =>
            walk_at "z"
            refine ⟨⟨_, _, rfl⟩, s1.trans s2, ?_⟩
            rw [List.take_add_one, hzip, List.all_append, hall]
            simp [hv]
        · rintro σ H1 ⟨⟨v3, v4, rfl⟩, s1, hall⟩
          rw [List.take_of_length_le (by rw [List.length_zip]; omega)] at hall
          rw [hall] at k
          walk_at "z"
          exact k _ s1

/-! ### exceptions that are held, in a row -/
inductive Exs (F : Hp) : List V → List (Addr × Option (List (Str × V))) → Prop
  | nil : Exs F [] []
  | cons {a C : Addr} {fs : Option (List (Str × V))} {vs : List V} {qs : List (Addr × Option (List (Str × V)))} : Z.Exv F a C fs → Exs F vs qs → Exs F (.ref a :: vs) ((C, fs) :: qs)
theorem Exs.same {F F' : Hp} (s : Same F F') : ∀ {vs : List V} {qs : List (Addr × Option (List (Str × V)))}, Exs F vs qs → Exs F' vs qs
  | _, _, .nil => .nil
  | _, _, .cons h r => .cons (h.same s) (r.same s)
theorem Exs.len {F : Hp} : ∀ {vs : List V} {qs : List (Addr × Option (List (Str × V)))}, Exs F vs qs → vs.length = qs.length
  | _, _, .nil => rfl
  | _, _, .cons _ r => by rw [List.length_cons, List.length_cons, r.len]
theorem Exs.app {F : Hp} : ∀ {vs ws : List V} {qs rs : List (Addr × Option (List (Str × V)))}, Exs F vs qs → Exs F ws rs → Exs F (vs ++ ws) (qs ++ rs)
  | _, _, _, _, .nil, k => k
  | _, _, _, _, .cons h r, k => .cons h (r.app k)
theorem Exs.at {F : Hp} : ∀ {vs : List V} {qs : List (Addr × Option (List (Str × V)))} {i : Nat} {v : V}, Exs F vs qs → vs[i]? = some v → ∃ a q, qs[i]? = some q ∧ v = .ref a ∧ Z.Exv F a q.1 q.2
  | _, _, i, _, .nil, e => by simp at e
  | _, _, 0, _, .cons h _, e => by cases e; exact ⟨_, _, rfl, rfl, h⟩
  | _, _, i + 1, _, .cons _ r, e => by
    obtain ⟨a, q, e1, e2, e3⟩ := r.at (i := i) (by simpa using e)
    exact ⟨a, q, by simpa using e1, e2, e3⟩
theorem Exs.get {F : Hp} {vs : List V} {qs : List (Addr × Option (List (Str × V)))} {i : Nat} {q : Addr × Option (List (Str × V))} (h : Exs F vs qs) (e : qs[i]? = some q) : ∃ a, vs[i]? = some (.ref a) ∧ Z.Exv F a q.1 q.2 := by
  have hi := (List.getElem?_eq_some_iff.mp e).1
  have hl := h.len
  have ev : vs[i]? = some (vs[i]'(by omega)) := List.getElem?_eq_getElem _
  obtain ⟨a, q', e1, e2, e3⟩ := h.at ev
  rw [e] at e1
  cases e1
  exact ⟨a, by rw [ev, e2], e3⟩
section
variable {K : PySem.W.Frag} {L : List (Addr × HO)} {F0 H0 F H : Hp} {C : Addr} {Q : VK}
theorem exv0N (W : Z.Ws L F0 H0 F H) {a : Addr} (ha : H a = none) : ∃ F', Z.Ws L F0 H0 F' (upd H a (exo a C none)) ∧ Same F F' ∧ Z.Exv F' a C none := ⟨_, W.dat ha, Z.same_new (W.freeF ha), upd_same⟩
theorem exvN (W : Z.Ws L F0 H0 F H) {a d : Addr} {H' : Hp} {fs : List (Str × V)} (ha : H a = none) (hd : H d = none) (hne : d ≠ a) (e : H' = upd (upd H a (exo a C (some d))) d (exd d fs)) : ∃ F', Z.Ws L F0 H0 F' H' ∧ Same F F' ∧ Z.Exv F' a C (some fs) := by
  subst e
  have W1 := W.dat (o := exo a C (some d)) ha
  have hd1 : upd H a (exo a C (some d)) d = none := by rw [upd_ne hne]; exact hd
  have W2 := W1.dat (o := exd d fs) hd1
  have s1 := Z.same_new (o := exo a C (some d)) (W.freeF ha)
  have s2 := Z.same_new (o := exd d fs) (W1.freeF hd1)
  exact ⟨_, W2, s1.trans s2, d, s2 _ _ upd_same, upd_same⟩
theorem spX_go {R : VK} {E : XK} {fs : List Str} {ws : List V} {a : Addr} (ha : H a = none) (hl : ws.length = fs.length) (h : ∀ d H', H d = none → d ≠ a → H' = upd (upd H a (exo a C (some d))) d (exd d (fs.zip ws).reverse) → R .non H') :
    Z.spX K C fs (.ref a :: ws) (upd H a (exo a C none)) R E := by
  refine ⟨a, ws, rfl, hl, upd_same, fun d H' hd hne h1 h2 h3 => ?_⟩
  rw [upd_ne hne] at hd
  refine h d H' hd hne ?_
  funext b
  by_cases hb : b = d
  · rw [hb, upd_same, h2]
  · rw [upd_ne hb]
    by_cases hba : b = a
    · rw [hba, upd_same, h1]
    · rw [upd_ne hba, h3 b hba hb, upd_ne hba]
end
def excs17 (A : Adr) (v1 v2 v3 : V) : List (Addr × Option (List (Str × V))) :=
  ([(A.NoSchema, none), (A.TooMany, none), (A.Fell, none), (A.NoTable, some [("table", v1)]), (A.NoOrder, some [("column", v2), ("table", v1)]), (A.BadRow, some [("table", v1)]), (A.NoRow, some [("key", v2), ("table", v1)]), (A.NoMake, some [("number", v1)])] : List (Addr × Option (List (Str × V)))) ++
  ([(A.Over, some [("number", v1)]), (A.Beaten, some [("by", v3), ("key", v2), ("table", v1)]), (A.NoQuestion, some [("place", v1)]), (A.NoColumn, some [("name", v1)]), (A.Alike, some [("name", v1)]), (A.WrongKind, some [("name", v1)])] : List (Addr × Option (List (Str × V)))) ++
  ([(A.NoStep, some [("place", v1)]), (A.NoPlan, none), (A.NoLine, none)] : List (Addr × Option (List (Str × V))))
def sp_law_made (K : PySem.W.Frag) (A : Adr) : Sp := fun vs H Q _ => ∃ (F : Hp) (v1 v2 v3 : V), vs = [v1, v2, v3] ∧ Same F H ∧ ∀ F' H' p es, Z.Gr F H F' H' → F' p = some (.lst es) → Exs F' es (excs17 A v1 v2 v3) → Q (.ref p) H'
theorem ok_law_made (T : Txt K mg A) : ∃ fd, FnOk P w K mg base CX0 3 A.f_law_made fd ["_law_one", "_law_two", "_law_three"] (sp_law_made K A) ∧ Binds K fd ["_law_one", "_law_two", "_law_three"] [] := by
  have ⟨fd, F, b⟩ := T.d_law_made
  refine ⟨fd, F.ok sc_law_made (fun vs H Q E h => ?_) (fun cdv Ar outer s H vs Q E hr h => ?_), b⟩
  · obtain ⟨F0, v1, v2, v3, rfl, _⟩ := h
    rfl
  · obtain ⟨F0, v1, v2, v3, rfl, sm, k⟩ := h
    have nd := sc_law_made.nd
    have hu := hu_of hr
    have ⟨fd_NoMake___init__, G_NoMake___init__, b_NoMake___init__⟩ := ok_NoMake___init__ (P := P) (w := w) (base := base) T
    have ⟨fd_NoRow___init__, G_NoRow___init__, b_NoRow___init__⟩ := ok_NoRow___init__ (P := P) (w := w) (base := base) T
    have ⟨fd_BadRow___init__, G_BadRow___init__, b_BadRow___init__⟩ := ok_BadRow___init__ (P := P) (w := w) (base := base) T
    have ⟨fd_NoOrder___init__, G_NoOrder___init__, b_NoOrder___init__⟩ := ok_NoOrder___init__ (P := P) (w := w) (base := base) T
    have ⟨fd_NoTable___init__, G_NoTable___init__, b_NoTable___init__⟩ := ok_NoTable___init__ (P := P) (w := w) (base := base) T
    have ⟨fd_WrongKind___init__, G_WrongKind___init__, b_WrongKind___init__⟩ := ok_WrongKind___init__ (P := P) (w := w) (base := base) T
    have ⟨fd_Alike___init__, G_Alike___init__, b_Alike___init__⟩ := ok_Alike___init__ (P := P) (w := w) (base := base) T
    have ⟨fd_NoColumn___init__, G_NoColumn___init__, b_NoColumn___init__⟩ := ok_NoColumn___init__ (P := P) (w := w) (base := base) T
    have ⟨fd_NoQuestion___init__, G_NoQuestion___init__, b_NoQuestion___init__⟩ := ok_NoQuestion___init__ (P := P) (w := w) (base := base) T
    have ⟨fd_Beaten___init__, G_Beaten___init__, b_Beaten___init__⟩ := ok_Beaten___init__ (P := P) (w := w) (base := base) T
    have ⟨fd_Over___init__, G_Over___init__, b_Over___init__⟩ := ok_Over___init__ (P := P) (w := w) (base := base) T
    have ⟨fd_NoStep___init__, G_NoStep___init__, b_NoStep___init__⟩ := ok_NoStep___init__ (P := P) (w := w) (base := base) T
    refine ⟨_, (pss_cons (ps_set (i := 3) nd rfl (Or.inl rfl) (pe_lst (pa_cons (Z.pe_exv0 PySem.F.excBase_ValueError T.xF_NoSchema T.g_NoSchema T.kc_NoSchema) (pa_cons (Z.pe_exv0 PySem.F.excBase_ValueError T.xF_TooMany T.g_TooMany T.kc_TooMany) (pa_cons (Z.pe_exv0 PySem.F.excBase_ValueError T.xF_Fell T.g_Fell T.kc_Fell) (pa_cons (Z.pe_exv T.oex_NoTable T.iC_NoTable T.tI_NoTable G_NoTable___init__ (hr.mono (by decide)) b_NoTable___init__ pass0 (by rfl) T.g_NoTable (pa_cons (pv 0) pa_nil)) (pa_cons (Z.pe_exv T.oex_NoOrder T.iC_NoOrder T.tI_NoOrder G_NoOrder___init__ (hr.mono (by decide)) b_NoOrder___init__ pass0 (by rfl) T.g_NoOrder (pa_cons (pv 0) (pa_cons (pv 1) pa_nil))) (pa_cons (Z.pe_exv T.oex_BadRow T.iC_BadRow T.tI_BadRow G_BadRow___init__ (hr.mono (by decide)) b_BadRow___init__ pass0 (by rfl) T.g_BadRow (pa_cons (pv 0) pa_nil)) (pa_cons (Z.pe_exv T.oex_NoRow T.iC_NoRow T.tI_NoRow G_NoRow___init__ (hr.mono (by decide)) b_NoRow___init__ pass0 (by rfl) T.g_NoRow (pa_cons (pv 0) (pa_cons (pv 1) pa_nil))) (pa_cons (Z.pe_exv T.oex_NoMake T.iC_NoMake T.tI_NoMake G_NoMake___init__ (hr.mono (by decide)) b_NoMake___init__ pass0 (by rfl) T.g_NoMake (pa_cons (pv 0) pa_nil)) pa_nil))))))))))
      (pss_cons (ps_set (i := 3) nd rfl (Or.inl rfl) (pe_op op_cat (pv 3) (pe_lst (pa_cons (Z.pe_exv T.oex_Over T.iC_Over T.tI_Over G_Over___init__ (hr.mono (by decide)) b_Over___init__ pass0 (by rfl) T.g_Over (pa_cons (pv 0) pa_nil)) (pa_cons (Z.pe_exv T.oex_Beaten T.iC_Beaten T.tI_Beaten G_Beaten___init__ (hr.mono (by decide)) b_Beaten___init__ pass0 (by rfl) T.g_Beaten (pa_cons (pv 0) (pa_cons (pv 1) (pa_cons (pv 2) pa_nil)))) (pa_cons (Z.pe_exv T.oex_NoQuestion T.iC_NoQuestion T.tI_NoQuestion G_NoQuestion___init__ (hr.mono (by decide)) b_NoQuestion___init__ pass0 (by rfl) T.g_NoQuestion (pa_cons (pv 0) pa_nil)) (pa_cons (Z.pe_exv T.oex_NoColumn T.iC_NoColumn T.tI_NoColumn G_NoColumn___init__ (hr.mono (by decide)) b_NoColumn___init__ pass0 (by rfl) T.g_NoColumn (pa_cons (pv 0) pa_nil)) (pa_cons (Z.pe_exv T.oex_Alike T.iC_Alike T.tI_Alike G_Alike___init__ (hr.mono (by decide)) b_Alike___init__ pass0 (by rfl) T.g_Alike (pa_cons (pv 0) pa_nil)) (pa_cons (Z.pe_exv T.oex_WrongKind T.iC_WrongKind T.tI_WrongKind G_WrongKind___init__ (hr.mono (by decide)) b_WrongKind___init__ pass0 (by rfl) T.g_WrongKind (pa_cons (pv 0) pa_nil)) pa_nil)))))))))
      (pss_one (ps_ret (pe_op op_cat (pv 3) (pe_lst (pa_cons (Z.pe_exv T.oex_NoStep T.iC_NoStep T.tI_NoStep G_NoStep___init__ (hr.mono (by decide)) b_NoStep___init__ pass0 (by rfl) T.g_NoStep (pa_cons (pv 0) pa_nil)) (pa_cons (Z.pe_exv0 PySem.F.excBase_ValueError T.xF_NoPlan T.g_NoPlan T.kc_NoPlan) (pa_cons (Z.pe_exv0 PySem.F.excBase_ValueError T.xF_NoLine T.g_NoLine T.kc_NoLine) pa_nil))))))))), ?_⟩
    simp only [cxOf, Cx.nox, L2.start, List.map_cons, List.map_nil, List.length_cons, List.length_nil, Nat.reduceAdd, Nat.reduceSub, List.replicate, List.cons_append, List.nil_append]
    walk_at "z"
    intro a1 ha1
    obtain ⟨F1, W1, s1, e1⟩ := exv0N (Z.Ws.init sm) ha1
    generalize upd _ a1 _ = H1 at W1 ⊢
    walk_at "z"
    intro a2 ha2
    obtain ⟨F2, W2, s2, e2⟩ := exv0N W1 ha2
    generalize upd _ a2 _ = H2 at W2 ⊢
    walk_at "z"
    intro a3 ha3
    obtain ⟨F3, W3, s3, e3⟩ := exv0N W2 ha3
    generalize upd _ a3 _ = H3 at W3 ⊢
    walk_at "z"
    refine ⟨by simp only [List.length_cons, List.length_nil]; decide, fun a4 ha4 => spX_go ha4 rfl fun d H4 hd hne eh => ⟨rfl, ?_⟩⟩
    obtain ⟨F4, W4, s4, e4⟩ := exvN W3 ha4 hd hne eh
    clear hd hne eh
    walk_at "z"
    refine ⟨by simp only [List.length_cons, List.length_nil]; decide, fun a5 ha5 => spX_go ha5 rfl fun d H5 hd hne eh => ⟨rfl, ?_⟩⟩
    obtain ⟨F5, W5, s5, e5⟩ := exvN W4 ha5 hd hne eh
    clear hd hne eh
    walk_at "z"
    refine ⟨by simp only [List.length_cons, List.length_nil]; decide, fun a6 ha6 => spX_go ha6 rfl fun d H6 hd hne eh => ⟨rfl, ?_⟩⟩
    obtain ⟨F6, W6, s6, e6⟩ := exvN W5 ha6 hd hne eh
    clear hd hne eh
    walk_at "z"
    refine ⟨by simp only [List.length_cons, List.length_nil]; decide, fun a7 ha7 => spX_go ha7 rfl fun d H7 hd hne eh => ⟨rfl, ?_⟩⟩
    obtain ⟨F7, W7, s7, e7⟩ := exvN W6 ha7 hd hne eh
    clear hd hne eh
    walk_at "z"
    refine ⟨by simp only [List.length_cons, List.length_nil]; decide, fun a8 ha8 => spX_go ha8 rfl fun d H8 hd hne eh => ⟨rfl, ?_⟩⟩
    obtain ⟨F8, W8, s8, e8⟩ := exvN W7 ha8 hd hne eh
    clear hd hne eh
    walk_at "z"
    refine Z.lstW W8 fun q1 G1 X1 => ?_
    have x1 : Exs F8 [.ref a1, .ref a2, .ref a3, .ref a4, .ref a5, .ref a6, .ref a7, .ref a8] _ :=
      .cons (e1.same (s2.trans (s3.trans (s4.trans (s5.trans (s6.trans (s7.trans s8))))))) (.cons (e2.same (s3.trans (s4.trans (s5.trans (s6.trans (s7.trans s8)))))) (.cons (e3.same (s4.trans (s5.trans (s6.trans (s7.trans s8)))))
        (.cons (e4.same (s5.trans (s6.trans (s7.trans s8)))) (.cons (e5.same (s6.trans (s7.trans s8))) (.cons (e6.same (s7.trans s8)) (.cons (e7.same s8) (.cons e8 .nil)))))))
    walk_at "z"
    refine ⟨by simp only [List.length_cons, List.length_nil]; decide, fun b1 hb1 => spX_go hb1 rfl fun d J1 hd hne eh => ⟨rfl, ?_⟩⟩
    obtain ⟨I1, Y1, t1, f1⟩ := exvN X1 hb1 hd hne eh
    clear hd hne eh
    walk_at "z"
    refine ⟨by simp only [List.length_cons, List.length_nil]; decide, fun b2 hb2 => spX_go hb2 rfl fun d J2 hd hne eh => ⟨rfl, ?_⟩⟩
    obtain ⟨I2, Y2, t2, f2⟩ := exvN Y1 hb2 hd hne eh
    clear hd hne eh
    walk_at "z"
    refine ⟨by simp only [List.length_cons, List.length_nil]; decide, fun b3 hb3 => spX_go hb3 rfl fun d J3 hd hne eh => ⟨rfl, ?_⟩⟩
    obtain ⟨I3, Y3, t3, f3⟩ := exvN Y2 hb3 hd hne eh
    clear hd hne eh
    walk_at "z"
    refine ⟨by simp only [List.length_cons, List.length_nil]; decide, fun b4 hb4 => spX_go hb4 rfl fun d J4 hd hne eh => ⟨rfl, ?_⟩⟩
    obtain ⟨I4, Y4, t4, f4⟩ := exvN Y3 hb4 hd hne eh
    clear hd hne eh
    walk_at "z"
    refine ⟨by simp only [List.length_cons, List.length_nil]; decide, fun b5 hb5 => spX_go hb5 rfl fun d J5 hd hne eh => ⟨rfl, ?_⟩⟩
    obtain ⟨I5, Y5, t5, f5⟩ := exvN Y4 hb5 hd hne eh
    clear hd hne eh
    walk_at "z"
    refine ⟨by simp only [List.length_cons, List.length_nil]; decide, fun b6 hb6 => spX_go hb6 rfl fun d J6 hd hne eh => ⟨rfl, ?_⟩⟩
    obtain ⟨I6, Y6, t6, f6⟩ := exvN Y5 hb6 hd hne eh
    clear hd hne eh
    walk_at "z"
    refine Z.lstW Y6 fun q2 G2 X2 => ?_
    have x2 : Exs I6 [.ref b1, .ref b2, .ref b3, .ref b4, .ref b5, .ref b6] _ :=
      .cons (f1.same (t2.trans (t3.trans (t4.trans (t5.trans t6))))) (.cons (f2.same (t3.trans (t4.trans (t5.trans t6)))) (.cons (f3.same (t4.trans (t5.trans t6))) (.cons (f4.same (t5.trans t6)) (.cons (f5.same t6) (.cons f6 .nil)))))
    refine Z.catW X2 (X2.at 1 rfl) (X2.at 0 rfl) (by simp only [List.length_cons, List.length_nil]; omega) fun q3 G3 X3 => ?_
    have x3 := (x1.same (t1.trans (t2.trans (t3.trans (t4.trans (t5.trans t6)))))).app x2
    have X3 := X3.pick [0] (L' := [_]) (by decide) rfl
    walk_at "z"
    refine ⟨by simp only [List.length_cons, List.length_nil]; decide, fun c1 hc1 => spX_go hc1 rfl fun d N1 hd hne eh => ⟨rfl, ?_⟩⟩
    obtain ⟨M1, Z1, u1, g1⟩ := exvN X3 hc1 hd hne eh
    clear hd hne eh
    walk_at "z"
    intro c2 hc2
    obtain ⟨M2, Z2, u2, g2⟩ := exv0N Z1 hc2
    generalize upd _ c2 _ = N2 at Z2 ⊢
    walk_at "z"
    intro c3 hc3
    obtain ⟨M3, Z3, u3, g3⟩ := exv0N Z2 hc3
    generalize upd _ c3 _ = N3 at Z3 ⊢
    walk_at "z"
    refine Z.lstW Z3 fun q4 G4 X4 => ?_
    have x4 : Exs M3 [.ref c1, .ref c2, .ref c3] _ := .cons (g1.same (u2.trans u3)) (.cons (g2.same u3) (.cons g3 .nil))
    refine Z.catW X4 (X4.at 1 rfl) (X4.at 0 rfl) (by simp only [List.length_append, List.length_cons, List.length_nil]; omega) fun q5 G5 X5 => ?_
    have x5 := (x3.same (u1.trans (u2.trans u3))).app x4
    obtain ⟨F9, W9, s9, g9⟩ := X5.frz 0 rfl
    exact k F9 _ q5 _ W9.g g9 (x5.same s9)
def Cs17 (A : Adr) : List Addr := [A.NoSchema, A.TooMany, A.Fell, A.NoTable, A.NoOrder, A.BadRow, A.NoRow, A.NoMake, A.Over, A.Beaten, A.NoQuestion, A.NoColumn, A.Alike, A.WrongKind, A.NoStep, A.NoPlan, A.NoLine]
theorem exc_all {mg : Str → Option Value} (T : Txt K mg A) : ∀ D ∈ Cs17 A, ExcC K D := by
  intro D hD
  simp only [Cs17, List.mem_cons, List.not_mem_nil, or_false] at hD
  rcases hD with rfl | rfl | rfl | rfl | rfl | rfl | rfl | rfl | rfl | rfl | rfl | rfl | rfl | rfl | rfl | rfl | rfl
  · exact T.exc_NoSchema
  · exact T.exc_TooMany
  · exact T.exc_Fell
  · exact T.exc_NoTable
  · exact T.exc_NoOrder
  · exact T.exc_BadRow
  · exact T.exc_NoRow
  · exact T.exc_NoMake
  · exact T.exc_Over
  · exact T.exc_Beaten
  · exact T.exc_NoQuestion
  · exact T.exc_NoColumn
  · exact T.exc_Alike
  · exact T.exc_WrongKind
  · exact T.exc_NoStep
  · exact T.exc_NoPlan
  · exact T.exc_NoLine
def sp_law_kinds (K : PySem.W.Frag) (A : Adr) : Sp := fun vs H Q _ => ∃ (F : Hp) (a D : Addr) (fs : Option (List (Str × V))), vs = [.ref a] ∧ Same F H ∧ Z.Exv F a D fs ∧ D ∈ Cs17 A ∧ ∀ F' H' r, Z.Gr F H F' H' → Dp K F' r (.list ((Cs17 A).map fun C => .bool (D == C))) → Q r H'
theorem ok_law_kinds (T : Txt K mg A) : ∃ fd, FnOk P w K mg base CX0 1 A.f_law_kinds fd ["_law_e"] (sp_law_kinds K A) ∧ Binds K fd ["_law_e"] [] := by
  have ⟨fd, F, b⟩ := T.d_law_kinds
  refine ⟨fd, F.ok sc_law_kinds (fun vs H Q E h => ?_) (fun cdv Ar outer s H vs Q E hr h => ?_), b⟩
  · obtain ⟨F0, a, D, fs, rfl, _⟩ := h
    rfl
  · obtain ⟨F0, a, D, fs, rfl, sm, he, hD, k⟩ := h
    have nd := sc_law_kinds.nd
    have hu := hu_of hr
    refine ⟨_, (pss_cons (ps_set (i := 1) nd rfl (Or.inl rfl) (pe_lst (pa_cons (pe_callB Z.call_isV (by rfl) T.b_isinstance (by decide +kernel) (pa_cons (pv 0) (pa_cons (pe_glob (v := .ref A.NoSchema) rfl T.g_NoSchema rfl) pa_nil))) (pa_cons (pe_callB Z.call_isV (by rfl) T.b_isinstance (by decide +kernel) (pa_cons (pv 0) (pa_cons (pe_glob (v := .ref A.TooMany) rfl T.g_TooMany rfl) pa_nil))) (pa_cons (pe_callB Z.call_isV (by rfl) T.b_isinstance (by decide +kernel) (pa_cons (pv 0) (pa_cons (pe_glob (v := .ref A.Fell) rfl T.g_Fell rfl) pa_nil))) (pa_cons (pe_callB Z.call_isV (by rfl) T.b_isinstance (by decide +kernel) (pa_cons (pv 0) (pa_cons (pe_glob (v := .ref A.NoTable) rfl T.g_NoTable rfl) pa_nil))) pa_nil))))))
      (pss_cons (ps_set (i := 1) nd rfl (Or.inl rfl) (pe_op op_cat (pv 1) (pe_lst (pa_cons (pe_callB Z.call_isV (by rfl) T.b_isinstance (by decide +kernel) (pa_cons (pv 0) (pa_cons (pe_glob (v := .ref A.NoOrder) rfl T.g_NoOrder rfl) pa_nil))) (pa_cons (pe_callB Z.call_isV (by rfl) T.b_isinstance (by decide +kernel) (pa_cons (pv 0) (pa_cons (pe_glob (v := .ref A.BadRow) rfl T.g_BadRow rfl) pa_nil))) (pa_cons (pe_callB Z.call_isV (by rfl) T.b_isinstance (by decide +kernel) (pa_cons (pv 0) (pa_cons (pe_glob (v := .ref A.NoRow) rfl T.g_NoRow rfl) pa_nil))) (pa_cons (pe_callB Z.call_isV (by rfl) T.b_isinstance (by decide +kernel) (pa_cons (pv 0) (pa_cons (pe_glob (v := .ref A.NoMake) rfl T.g_NoMake rfl) pa_nil))) pa_nil)))))))
      (pss_cons (ps_set (i := 1) nd rfl (Or.inl rfl) (pe_op op_cat (pv 1) (pe_lst (pa_cons (pe_callB Z.call_isV (by rfl) T.b_isinstance (by decide +kernel) (pa_cons (pv 0) (pa_cons (pe_glob (v := .ref A.Over) rfl T.g_Over rfl) pa_nil))) (pa_cons (pe_callB Z.call_isV (by rfl) T.b_isinstance (by decide +kernel) (pa_cons (pv 0) (pa_cons (pe_glob (v := .ref A.Beaten) rfl T.g_Beaten rfl) pa_nil))) (pa_cons (pe_callB Z.call_isV (by rfl) T.b_isinstance (by decide +kernel) (pa_cons (pv 0) (pa_cons (pe_glob (v := .ref A.NoQuestion) rfl T.g_NoQuestion rfl) pa_nil))) (pa_cons (pe_callB Z.call_isV (by rfl) T.b_isinstance (by decide +kernel) (pa_cons (pv 0) (pa_cons (pe_glob (v := .ref A.NoColumn) rfl T.g_NoColumn rfl) pa_nil))) pa_nil)))))))
      (pss_cons (ps_set (i := 1) nd rfl (Or.inl rfl) (pe_op op_cat (pv 1) (pe_lst (pa_cons (pe_callB Z.call_isV (by rfl) T.b_isinstance (by decide +kernel) (pa_cons (pv 0) (pa_cons (pe_glob (v := .ref A.Alike) rfl T.g_Alike rfl) pa_nil))) (pa_cons (pe_callB Z.call_isV (by rfl) T.b_isinstance (by decide +kernel) (pa_cons (pv 0) (pa_cons (pe_glob (v := .ref A.WrongKind) rfl T.g_WrongKind rfl) pa_nil))) (pa_cons (pe_callB Z.call_isV (by rfl) T.b_isinstance (by decide +kernel) (pa_cons (pv 0) (pa_cons (pe_glob (v := .ref A.NoStep) rfl T.g_NoStep rfl) pa_nil))) (pa_cons (pe_callB Z.call_isV (by rfl) T.b_isinstance (by decide +kernel) (pa_cons (pv 0) (pa_cons (pe_glob (v := .ref A.NoPlan) rfl T.g_NoPlan rfl) pa_nil))) pa_nil)))))))
      (pss_one (ps_ret (pe_op op_cat (pv 1) (pe_lst (pa_cons (pe_callB Z.call_isV (by rfl) T.b_isinstance (by decide +kernel) (pa_cons (pv 0) (pa_cons (pe_glob (v := .ref A.NoLine) rfl T.g_NoLine rfl) pa_nil))) pa_nil))))))))), ?_⟩
    simp only [cxOf, Cx.nox, L2.start, List.map_cons, List.map_nil, List.length_cons, List.length_nil, Nat.reduceAdd, Nat.reduceSub, List.replicate, List.cons_append, List.nil_append]
    have EC := exc_all T D hD
    have KT := (Z.excTab_at (Cs := Cs17 A) T.xtab).2 D hD
    have KC := KT.2.2
    have go : ∀ {H' : Hp} {Q : VK} (C : Addr), Same F0 H' → C ∈ Cs17 A → Q (.bl (D == C)) H' → Z.rIsV K [.ref a, .ref C] H' Q := fun C s hC q => ⟨a, D, fs, .ref C, .ref C, _, rfl, he.same s, EC, .own C, KC C hC, q⟩
    walk_at "z"
    refine go _ sm (by simp [Cs17]) ?_
    walk_at "z"
    refine go _ sm (by simp [Cs17]) ?_
    walk_at "z"
    refine go _ sm (by simp [Cs17]) ?_
    walk_at "z"
    refine go _ sm (by simp [Cs17]) ?_
    walk_at "z"
    refine Z.lstW (Z.Ws.init sm) fun q1 H1 W1 => ?_
    walk_at "z"
    refine go _ W1.fh (by simp [Cs17]) ?_
    walk_at "z"
    refine go _ W1.fh (by simp [Cs17]) ?_
    walk_at "z"
    refine go _ W1.fh (by simp [Cs17]) ?_
    walk_at "z"
    refine go _ W1.fh (by simp [Cs17]) ?_
    walk_at "z"
    refine Z.lstW W1 fun q2 H2 W2 => ?_
    refine Z.catW W2 (W2.at 1 rfl) (W2.at 0 rfl) (by simp only [List.length_cons, List.length_nil]; omega) fun q3 H3 W3 => ?_
    have W3 := W3.pick [0] (L' := [_]) (by decide) rfl
    walk_at "z"
    refine go _ W3.fh (by simp [Cs17]) ?_
    walk_at "z"
    refine go _ W3.fh (by simp [Cs17]) ?_
    walk_at "z"
    refine go _ W3.fh (by simp [Cs17]) ?_
    walk_at "z"
    refine go _ W3.fh (by simp [Cs17]) ?_
    walk_at "z"
    refine Z.lstW W3 fun q4 H4 W4 => ?_
    refine Z.catW W4 (W4.at 1 rfl) (W4.at 0 rfl) (by simp only [List.length_append, List.length_cons, List.length_nil]; omega) fun q5 H5 W5 => ?_
    have W5 := W5.pick [0] (L' := [_]) (by decide) rfl
    walk_at "z"
    refine go _ W5.fh (by simp [Cs17]) ?_
    walk_at "z"
    refine go _ W5.fh (by simp [Cs17]) ?_
    walk_at "z"
    refine go _ W5.fh (by simp [Cs17]) ?_
    walk_at "z"
    refine go _ W5.fh (by simp [Cs17]) ?_
    walk_at "z"
    refine Z.lstW W5 fun q6 H6 W6 => ?_
    refine Z.catW W6 (W6.at 1 rfl) (W6.at 0 rfl) (by simp only [List.length_append, List.length_cons, List.length_nil]; omega) fun q7 H7 W7 => ?_
    have W7 := W7.pick [0] (L' := [_]) (by decide) rfl
    walk_at "z"
    refine go _ W7.fh (by simp [Cs17]) ?_
    walk_at "z"
    refine Z.lstW W7 fun q8 H8 W8 => ?_
    refine Z.catW W8 (W8.at 1 rfl) (W8.at 0 rfl) (by simp only [List.length_append, List.length_cons, List.length_nil]; omega) fun q9 H9 W9 => ?_
    obtain ⟨F9, W10, s9, g9⟩ := W9.frz 0 rfl
    refine k F9 _ _ W10.g (.lst (SqL.of g9) ?_)
    exact .cons (.bl _) (.cons (.bl _) (.cons (.bl _) (.cons (.bl _) (.cons (.bl _) (.cons (.bl _) (.cons (.bl _) (.cons (.bl _) (.cons (.bl _) (.cons (.bl _) (.cons (.bl _) (.cons (.bl _) (.cons (.bl _) (.cons (.bl _) (.cons (.bl _) (.cons (.bl _) (.cons (.bl _) .nil))))))))))))))))

def flatOk : PyData → Prop
  | .int _ => True
  | .bool _ => True
  | .none => True
  | .str z => PyData.strOk z = true
  | _ => False
theorem lay_flats : ∀ {ds : List PyData}, (∀ d ∈ ds, flatOk d) → PyData.canLayAll0 ds = true
  | [], _ => by simp [PyData.canLayAll0]
  | d :: r, h => by
    rw [PyData.canLayAll0, lay_flats fun y hy => h y (List.mem_cons_of_mem _ hy), Bool.and_true]
    have := h d List.mem_cons_self
    cases d <;> first | exact this | (simp [PyData.canLay0]; done) | exact this.elim
theorem depth_flats : ∀ {ds : List PyData}, (∀ d ∈ ds, flatOk d) → PyData.depthAll ds = 0
  | [], _ => by simp [PyData.depthAll]
  | d :: r, h => by
    rw [PyData.depthAll, depth_flats fun y hy => h y (List.mem_cons_of_mem _ hy)]
    have := h d List.mem_cons_self
    cases d <;> first | (simp [PyData.depth]; done) | exact this.elim
theorem shaped_flats {ds : List PyData} (h : ∀ d ∈ ds, flatOk d) : SeqAt.shaped (.list ds) = true := by
  unfold SeqAt.shaped
  rw [Bool.and_eq_true]
  refine ⟨by rw [PyData.canLay0]; exact lay_flats h, decide_eq_true ?_⟩
  rw [PyData.depth, depth_flats h]
  decide
def due16 (d1 d2 d3 : PyData) : List PyData := [d1, d1, d2, d1, d1, d2, d1] ++ [d1, d1, d2, d3, d1, d1] ++ [d1, d1, d1]
def sp_law_due (K : PySem.W.Frag) (A : Adr) : Sp := fun vs H Q _ => ∃ (F : Hp) (v1 v2 v3 : V) (d1 d2 d3 : PyData), vs = [v1, v2, v3] ∧ Same F H ∧ Dp K F v1 d1 ∧ Dp K F v2 d2 ∧ Dp K F v3 d3 ∧ ∀ F' H' r, Z.Gr F H F' H' → Dp K F' r (.list (due16 d1 d2 d3)) → Q r H'
theorem ok_law_due (T : Txt K mg A) : ∃ fd, FnOk P w K mg base CX0 1 A.f_law_due fd ["_law_one", "_law_two", "_law_three"] (sp_law_due K A) ∧ Binds K fd ["_law_one", "_law_two", "_law_three"] [] := by
  have ⟨fd, F, b⟩ := T.d_law_due
  refine ⟨fd, F.ok sc_law_due (fun vs H Q E h => ?_) (fun cdv Ar outer s H vs Q E hr h => ?_), b⟩
  · obtain ⟨F0, v1, v2, v3, d1, d2, d3, rfl, _⟩ := h
    rfl
  · obtain ⟨F0, v1, v2, v3, d1, d2, d3, rfl, sm, h1, h2, h3, k⟩ := h
    have nd := sc_law_due.nd
    have hu := hu_of hr
    refine ⟨_, (pss_one (ps_ret (pe_lst (pa_cons (pv 0) (pa_cons (pv 0) (pa_cons (pv 1) (pa_cons (pv 0) (pa_cons (pv 0) (pa_cons (pv 1) (pa_cons (pv 0) (pa_cons (pv 0) (pa_cons (pv 0) (pa_cons (pv 1) (pa_cons (pv 2) (pa_cons (pv 0) (pa_cons (pv 0) (pa_cons (pv 0) (pa_cons (pv 0) (pa_cons (pv 0) pa_nil))))))))))))))))))), ?_⟩
    simp only [cxOf, Cx.nox, L2.start, List.map_cons, List.map_nil, List.length_cons, List.length_nil, Nat.reduceAdd, Nat.reduceSub, List.replicate, List.cons_append, List.nil_append]
    walk_at "z"
    refine Z.lstD (K := K) (Z.Ws.init sm) (.cons h1 (.cons h1 (.cons h2 (.cons h1 (.cons h1 (.cons h2 (.cons h1 (.cons h1 (.cons h1 (.cons h2 (.cons h3 (.cons h1 (.cons h1 (.cons h1 (.cons h1 (.cons h1 .nil)))))))))))))))) fun r F' H' W s hr => ?_
    exact k F' H' r W.g hr
def sp_law_values (K : PySem.W.Frag) (A : Adr) : Sp := fun vs H Q _ => ∃ (F : Hp) (p : Addr) (es : List V) (v1 v2 v3 : V) (d1 d2 d3 : PyData), vs = [.ref p] ∧ Same F H ∧ F p = some (.lst es) ∧ Exs F es (excs17 A v1 v2 v3) ∧ Dp K F v1 d1 ∧ Dp K F v2 d2 ∧ Dp K F v3 d3 ∧ ∀ F' H' r, Z.Gr F H F' H' → Dp K F' r (.list (due16 d1 d2 d3)) → Q r H'
theorem ok_law_values (T : Txt K mg A) : ∃ fd, FnOk P w K mg base CX0 1 A.f_law_values fd ["_law_some"] (sp_law_values K A) ∧ Binds K fd ["_law_some"] [] := by
  have ⟨fd, F, b⟩ := T.d_law_values
  refine ⟨fd, F.ok sc_law_values (fun vs H Q E h => ?_) (fun cdv Ar outer s H vs Q E hr h => ?_), b⟩
  · obtain ⟨F0, p, es, v1, v2, v3, d1, d2, d3, rfl, _⟩ := h
    rfl
  · obtain ⟨F0, p, es, v1, v2, v3, d1, d2, d3, rfl, sm, hp, hes, h1, h2, h3, k⟩ := h
    have nd := sc_law_values.nd
    have hu := hu_of hr
    refine ⟨_, (pss_cons (ps_set (i := 1) nd rfl (Or.inl rfl) (pe_lst (pa_cons (Z.pe_xv (pe_ix ix_list (pv 0) pe_int (fun _ _ => rfl))) (pa_cons (Z.pe_xv (pe_ix ix_list (pv 0) pe_int (fun _ _ => rfl))) (pa_cons (Z.pe_xv (pe_ix ix_list (pv 0) pe_int (fun _ _ => rfl))) (pa_cons (Z.pe_xv (pe_ix ix_list (pv 0) pe_int (fun _ _ => rfl))) (pa_cons (Z.pe_xv (pe_ix ix_list (pv 0) pe_int (fun _ _ => rfl))) (pa_cons (Z.pe_xv (pe_ix ix_list (pv 0) pe_int (fun _ _ => rfl))) (pa_cons (Z.pe_xv (pe_ix ix_list (pv 0) pe_int (fun _ _ => rfl))) pa_nil)))))))))
      (pss_cons (ps_set (i := 1) nd rfl (Or.inl rfl) (pe_op op_cat (pv 1) (pe_lst (pa_cons (Z.pe_xv (pe_ix ix_list (pv 0) pe_int (fun _ _ => rfl))) (pa_cons (Z.pe_xv (pe_ix ix_list (pv 0) pe_int (fun _ _ => rfl))) (pa_cons (Z.pe_xv (pe_ix ix_list (pv 0) pe_int (fun _ _ => rfl))) (pa_cons (Z.pe_xv (pe_ix ix_list (pv 0) pe_int (fun _ _ => rfl))) (pa_cons (Z.pe_xv (pe_ix ix_list (pv 0) pe_int (fun _ _ => rfl))) (pa_cons (Z.pe_xv (pe_ix ix_list (pv 0) pe_int (fun _ _ => rfl))) pa_nil)))))))))
      (pss_one (ps_ret (pe_op op_cat (pv 1) (pe_lst (pa_cons (Z.pe_xv (pe_ix ix_list (pv 0) pe_int (fun _ _ => rfl))) (pa_cons (Z.pe_xv (pe_ix ix_list (pv 0) pe_int (fun _ _ => rfl))) (pa_cons (Z.pe_xv (pe_ix ix_list (pv 0) pe_int (fun _ _ => rfl))) pa_nil))))))))), ?_⟩
    simp only [cxOf, Cx.nox, L2.start, List.map_cons, List.map_nil, List.length_cons, List.length_nil, Nat.reduceAdd, Nat.reduceSub, List.replicate, List.cons_append, List.nil_append]
    have go : ∀ {H' : Hp} {Q : VK} (i : Nat) {C : Addr} {fs : List (Str × V)} {f : Str} {v : V}, Same F0 H' → (excs17 A v1 v2 v3)[i]? = some (C, some fs) → XfC K C → PySem.W.findIn K (.ref C) f = some none → fs.lookup f = some v → Q v H' →
        rIxL K (.ref p) (.int (i : Int)) H' fun x H1 => ∃ (a C : Addr) (fs : List (Str × V)) (v : V), x = .ref a ∧ XfC K C ∧ PySem.W.findIn K (.ref C) f = some none ∧ Z.Exv H1 a C (some fs) ∧ fs.lookup f = some v ∧ Q v H1 := by
      intro H' Q i C fs f v s e T1 T2 l q
      obtain ⟨a, e1, e2⟩ := hes.get e
      exact Z.ixL (SqL.of (s _ _ hp)) e1 ⟨a, _, _, _, rfl, T1, T2, e2.same s, l, q⟩
    walk_at "z"
    refine go 3 sm rfl T.xfc_NoTable T.xf_NoTable_table (by first | exact Z.look_eq | (rw [Z.look_ne (by decide +kernel)]; exact Z.look_eq) | (rw [Z.look_ne (by decide +kernel), Z.look_ne (by decide +kernel)]; exact Z.look_eq)) ?_
    walk_at "z"
    refine go 4 sm rfl T.xfc_NoOrder T.xf_NoOrder_table (by first | exact Z.look_eq | (rw [Z.look_ne (by decide +kernel)]; exact Z.look_eq) | (rw [Z.look_ne (by decide +kernel), Z.look_ne (by decide +kernel)]; exact Z.look_eq)) ?_
    walk_at "z"
    refine go 4 sm rfl T.xfc_NoOrder T.xf_NoOrder_column (by first | exact Z.look_eq | (rw [Z.look_ne (by decide +kernel)]; exact Z.look_eq) | (rw [Z.look_ne (by decide +kernel), Z.look_ne (by decide +kernel)]; exact Z.look_eq)) ?_
    walk_at "z"
    refine go 5 sm rfl T.xfc_BadRow T.xf_BadRow_table (by first | exact Z.look_eq | (rw [Z.look_ne (by decide +kernel)]; exact Z.look_eq) | (rw [Z.look_ne (by decide +kernel), Z.look_ne (by decide +kernel)]; exact Z.look_eq)) ?_
    walk_at "z"
    refine go 6 sm rfl T.xfc_NoRow T.xf_NoRow_table (by first | exact Z.look_eq | (rw [Z.look_ne (by decide +kernel)]; exact Z.look_eq) | (rw [Z.look_ne (by decide +kernel), Z.look_ne (by decide +kernel)]; exact Z.look_eq)) ?_
    walk_at "z"
    refine go 6 sm rfl T.xfc_NoRow T.xf_NoRow_key (by first | exact Z.look_eq | (rw [Z.look_ne (by decide +kernel)]; exact Z.look_eq) | (rw [Z.look_ne (by decide +kernel), Z.look_ne (by decide +kernel)]; exact Z.look_eq)) ?_
    walk_at "z"
    refine go 7 sm rfl T.xfc_NoMake T.xf_NoMake_number (by first | exact Z.look_eq | (rw [Z.look_ne (by decide +kernel)]; exact Z.look_eq) | (rw [Z.look_ne (by decide +kernel), Z.look_ne (by decide +kernel)]; exact Z.look_eq)) ?_
    walk_at "z"
    refine Z.lstW (Z.Ws.init sm) fun q1 H1 W1 => ?_
    walk_at "z"
    refine go 8 W1.fh rfl T.xfc_Over T.xf_Over_number (by first | exact Z.look_eq | (rw [Z.look_ne (by decide +kernel)]; exact Z.look_eq) | (rw [Z.look_ne (by decide +kernel), Z.look_ne (by decide +kernel)]; exact Z.look_eq)) ?_
    walk_at "z"
    refine go 9 W1.fh rfl T.xfc_Beaten T.xf_Beaten_table (by first | exact Z.look_eq | (rw [Z.look_ne (by decide +kernel)]; exact Z.look_eq) | (rw [Z.look_ne (by decide +kernel), Z.look_ne (by decide +kernel)]; exact Z.look_eq)) ?_
    walk_at "z"
    refine go 9 W1.fh rfl T.xfc_Beaten T.xf_Beaten_key (by first | exact Z.look_eq | (rw [Z.look_ne (by decide +kernel)]; exact Z.look_eq) | (rw [Z.look_ne (by decide +kernel), Z.look_ne (by decide +kernel)]; exact Z.look_eq)) ?_
    walk_at "z"
    refine go 9 W1.fh rfl T.xfc_Beaten T.xf_Beaten_by (by first | exact Z.look_eq | (rw [Z.look_ne (by decide +kernel)]; exact Z.look_eq) | (rw [Z.look_ne (by decide +kernel), Z.look_ne (by decide +kernel)]; exact Z.look_eq)) ?_
    walk_at "z"
    refine go 10 W1.fh rfl T.xfc_NoQuestion T.xf_NoQuestion_place (by first | exact Z.look_eq | (rw [Z.look_ne (by decide +kernel)]; exact Z.look_eq) | (rw [Z.look_ne (by decide +kernel), Z.look_ne (by decide +kernel)]; exact Z.look_eq)) ?_
    walk_at "z"
    refine go 11 W1.fh rfl T.xfc_NoColumn T.xf_NoColumn_name (by first | exact Z.look_eq | (rw [Z.look_ne (by decide +kernel)]; exact Z.look_eq) | (rw [Z.look_ne (by decide +kernel), Z.look_ne (by decide +kernel)]; exact Z.look_eq)) ?_
    walk_at "z"
    refine Z.lstW W1 fun q2 H2 W2 => ?_
    refine Z.catW W2 (W2.at 1 rfl) (W2.at 0 rfl) (by simp only [List.length_cons, List.length_nil]; omega) fun q3 H3 W3 => ?_
    have W3 := W3.pick [0] (L' := [_]) (by decide) rfl
    walk_at "z"
    refine go 12 W3.fh rfl T.xfc_Alike T.xf_Alike_name (by first | exact Z.look_eq | (rw [Z.look_ne (by decide +kernel)]; exact Z.look_eq) | (rw [Z.look_ne (by decide +kernel), Z.look_ne (by decide +kernel)]; exact Z.look_eq)) ?_
    walk_at "z"
    refine go 13 W3.fh rfl T.xfc_WrongKind T.xf_WrongKind_name (by first | exact Z.look_eq | (rw [Z.look_ne (by decide +kernel)]; exact Z.look_eq) | (rw [Z.look_ne (by decide +kernel), Z.look_ne (by decide +kernel)]; exact Z.look_eq)) ?_
    walk_at "z"
    refine go 14 W3.fh rfl T.xfc_NoStep T.xf_NoStep_place (by first | exact Z.look_eq | (rw [Z.look_ne (by decide +kernel)]; exact Z.look_eq) | (rw [Z.look_ne (by decide +kernel), Z.look_ne (by decide +kernel)]; exact Z.look_eq)) ?_
    walk_at "z"
    refine Z.lstW W3 fun q4 H4 W4 => ?_
    refine Z.catW W4 (W4.at 1 rfl) (W4.at 0 rfl) (by simp only [List.length_append, List.length_cons, List.length_nil]; omega) fun q5 H5 W5 => ?_
    obtain ⟨F9, W9, s9, g9⟩ := W5.frz 0 rfl
    have h1 := Z.dp_same s9 h1
    have h2 := Z.dp_same s9 h2
    have h3 := Z.dp_same s9 h3
    exact k F9 _ _ W9.g (.lst (SqL.of g9) (.cons h1 (.cons h1 (.cons h2 (.cons h1 (.cons h1 (.cons h2 (.cons h1 (.cons h1 (.cons h1 (.cons h2 (.cons h3 (.cons h1 (.cons h1 (.cons h1 (.cons h1 (.cons h1 .nil)))))))))))))))))

theorem callSE {sp : Sp} {E : L2.St → XK} {t : TA} {σ : L2.St} {H : Hp} {Q : VK} (h : t σ H fun vs H1 => sp vs H1 Q (E σ)) : tCallS sp E t σ H Q := h
local macro_rules | `(tactic| walk_at "z1") => `(tactic| (with_reducible refine callSE ?_))
/-! ### refused, and told -/
def sp_law_asked (K : PySem.W.Frag) (A : Adr) : Sp := fun vs H Q E => ∃ (F : Hp) (v u w : V) (way : Nat) (d e : PyData) (ts : List Tab) (os : List (Str × Str)), vs = [v, .int way, u, w] ∧ way < 4 ∧ Same F H ∧ IsSch K A F v ts os ∧ Z.DX K F u d ∧ SmallS d ∧ Z.DX K F w e ∧ SmallS e ∧ AllSmall e ∧
  (NoTab ts d → NoX E A.NoTable "table" u H) ∧ (∀ t ∈ ts, d = .str t.1 → (way = 1 ∧ NoCol t e ∧ NoX E A.NoColumn "name" w H) ∨ ((way = 2 ∨ way = 3) ∧ ∀ H', Same H H' → Q .non H'))
theorem ok_law_asked (T : Txt K mg A) : ∃ fd, FnOk P w K mg base (L2.CX P w) 5 A.f_law_asked fd ["_law_schema_here", "_law_way", "_law_table", "_law_thing"] (sp_law_asked K A) ∧ Binds K fd ["_law_schema_here", "_law_way", "_law_table", "_law_thing"] [] := by
  have ⟨fd, F, b⟩ := T.d_law_asked
  refine ⟨fd, F.okX sc_law_asked (fun vs H Q E h => ?_) (fun cdv Ar outer s H vs Q E hr h => ?_), b⟩
  · obtain ⟨F0, v, u, wv, way, d, e, ts, os, rfl, _⟩ := h
    rfl
  · obtain ⟨F0, v, u, wv, way, d, e, ts, os, rfl, wlt, sm, hs, hu', hz, hw', hze, hza, kx, k⟩ := h
    have nd := sc_law_asked.nd
    have hu := hu_of hr
    have ⟨fd_Schema_columns_of, G_Schema_columns_of, b_Schema_columns_of⟩ := ok_Schema_columns_of (P := P) (w := w) (base := base) T
    have ⟨fd_Schema_kind_of, G_Schema_kind_of, b_Schema_kind_of⟩ := ok_Schema_kind_of (P := P) (w := w) (base := base) T
    have ⟨fd_Schema_has_order, G_Schema_has_order, b_Schema_has_order⟩ := ok_Schema_has_order (P := P) (w := w) (base := base) T
    have ⟨fd_Schema_fits, G_Schema_fits, b_Schema_fits⟩ := ok_Schema_fits (P := P) (w := w) (base := base) T
    refine ⟨_, (pss_one (ps_if (pt_cmpR op_eq (pv 1) pe_int (nomark _)) (pss_one (ps_expr (pe_meth (pv 0) T.c_Schema T.m_Schema_columns_of G_Schema_columns_of (hr.mono (by decide)) b_Schema_columns_of .nil (passes_call (takes_of rfl rfl rfl rfl) (fun _ _ _ _ h => h)) (pa_cons (pv 2) pa_nil)))) (pss_one (ps_if (pt_cmpR op_eq (pv 1) pe_int (nomark _)) (pss_one (ps_expr (pe_meth (pv 0) T.c_Schema T.m_Schema_kind_of G_Schema_kind_of (hr.mono (by decide)) b_Schema_kind_of .nil (passes_call (takes_of rfl rfl rfl rfl) (fun _ _ _ _ h => h)) (pa_cons (pv 2) (pa_cons (pv 3) pa_nil))))) (pss_one (ps_if (pt_cmpR op_eq (pv 1) pe_int (nomark _)) (pss_one (ps_expr (pe_meth (pv 0) T.c_Schema T.m_Schema_has_order G_Schema_has_order (hr.mono (by decide)) b_Schema_has_order .nil (passes_call (takes_of rfl rfl rfl rfl) (fun _ _ _ _ h => h)) (pa_cons (pv 2) (pa_cons (pv 3) pa_nil))))) (pss_one (ps_expr (pe_meth (pv 0) T.c_Schema T.m_Schema_fits G_Schema_fits (hr.mono (by decide)) b_Schema_fits .nil (passes_call (takes_of rfl rfl rfl rfl) (fun _ _ _ _ h => h)) (pa_cons (pv 2) (pa_cons (pv 3) pa_nil))))))))))), ?_⟩
    simp only [cxOf, Cx.nox, L2.start, List.map_cons, List.map_nil, List.length_cons, List.length_nil, Nat.reduceAdd, Nat.reduceSub, List.replicate, List.cons_append, List.nil_append]
    have hs0 := hs
    obtain ⟨x, dx, dd, kvs, ko, rfl, hx, hd, kv, hk, tk, ok⟩ := hs
    have hx' := sm _ _ hx
    obtain rfl | rfl | rfl | rfl : way = 0 ∨ way = 1 ∨ way = 2 ∨ way = 3 := by omega
    · walk_at "z"
      refine ⟨F0, _, u, d, ts, os, rfl, sm, hs0, hu', hz, fun t ht ed => ?_, kx⟩
      rcases k t ht ed with ⟨h, _⟩ | ⟨h, _⟩ <;> omega
    · walk_at "z"
      refine ⟨F0, _, u, wv, d, e, ts, os, rfl, sm, hs0, hu', hz, hw', hze, fun t ht ed => ?_, kx⟩
      rcases k t ht ed with ⟨_, h2, h3⟩ | ⟨h, _⟩
      · exact ⟨fun c hc he => absurd he (h2 c hc), fun _ => h3⟩
      · omega
    · walk_at "z"
      refine ⟨F0, _, u, wv, d, e, ts, os, rfl, sm, hs0, hu', hz, hw', hze, fun t ht ed H' s' => ?_, kx⟩
      rcases k t ht ed with ⟨h, _⟩ | ⟨_, h⟩
      · omega
      · walk_at "z"
        exact h _ s'
    · walk_at "z"
      refine ⟨F0, _, u, wv, d, e, ts, os, rfl, sm, hs0, hu', hz, hw', hza, fun t ht ed H' s' => ?_, kx⟩
      rcases k t ht ed with ⟨h, _⟩ | ⟨_, h⟩
      · omega
      · walk_at "z"
        exact h _ s'
def sp_law_told (K : PySem.W.Frag) (A : Adr) : Sp := fun vs H Q _ => ∃ (F : Hp) (v u w : V) (way : Nat) (d e : PyData) (ts : List Tab) (os : List (Str × Str)), vs = [v, .int way, u, w] ∧ way < 4 ∧ Same F H ∧ IsSch K A F v ts os ∧ Z.DX K F u d ∧ SmallS d ∧ Z.DX K F w e ∧ SmallS e ∧ AllSmall e ∧
  (NoTab ts d → ∀ p H', Same H H' → H' p = some (.tup [.str "table", u, .bl (Z.isTy "bool" d)]) → Q (.ref p) H') ∧
  (∀ t ∈ ts, d = .str t.1 → (way = 1 ∧ NoCol t e ∧ ∀ p H', Same H H' → H' p = some (.tup [.str "column", w, .bl (Z.isTy "bool" e)]) → Q (.ref p) H') ∨ ((way = 2 ∨ way = 3) ∧ ∀ H', Same H H' → Q .non H'))
theorem ok_law_told (T : Txt K mg A) : ∃ fd, FnOk P w K mg base CX0 6 A.f_law_told fd ["_law_schema_here", "_law_way", "_law_table", "_law_thing"] (sp_law_told K A) ∧ Binds K fd ["_law_schema_here", "_law_way", "_law_table", "_law_thing"] [] := by
  have ⟨fd, F, b⟩ := T.d_law_told
  refine ⟨fd, F.ok sc_law_told (fun vs H Q E h => ?_) (fun cdv Ar outer s H vs Q E hr h => ?_), b⟩
  · obtain ⟨F0, v, u, wv, way, d, e, ts, os, rfl, _⟩ := h
    rfl
  · obtain ⟨F0, v, u, wv, way, d, e, ts, os, rfl, wlt, sm, hs, hu', hz, hw', hze, hza, kx, k⟩ := h
    have nd := sc_law_told.nd
    have hu := hu_of hr
    have ⟨fd_law_asked, G_law_asked, b_law_asked⟩ := ok_law_asked (P := P) (w := w) (base := base) T
    refine ⟨_, (pss_cons (ps_set (i := 4) nd rfl (Or.inl rfl) pe_non)
      (pss_cons (Z.ps_try_ma (Wout := fun _ _ _ _ => False) rfl rfl nd takes0
      (fun W pn xe tk _ => (pss_one (ps_expr (pe_callS G_law_asked (hr.mono (by decide)) (by rfl) T.g_law_asked T.d_law_asked.kp b_law_asked (fun σ => passAt tk σ) (pa_cons (pv 0) (pa_cons (pv 1) (pa_cons (pv 2) (pa_cons (pv 3) pa_nil))))))))
      (.as (i := 5) rfl rfl ⟨rfl, by decide, .inl T.g_NoTable⟩ (fun a oe cls d pn hz hf => (pss_one (ps_set (i := 4) nd rfl (Or.inl rfl) (pe_tup (pa_cons pe_str (pa_cons (pe_xf T.xfc_NoTable T.xf_NoTable_table hz hf (pv 5)) (pa_cons (pe_callB (call_isiK (K := K) rfl) (by rfl) T.b_isinstance (by decide +kernel) (pa_cons (pe_xf T.xfc_NoTable T.xf_NoTable_table hz hf (pv 5)) (pa_cons (pe_bltn (v := .ty "bool") (u := .type "bool") (by rfl) T.b_bool (by decide +kernel) rfl) pa_nil))) pa_nil)))))))
      (.as (i := 5) rfl rfl ⟨rfl, by decide, .inl T.g_NoColumn⟩ (fun a oe cls d pn hz hf => (pss_one (ps_set (i := 4) nd rfl (Or.inl rfl) (pe_tup (pa_cons pe_str (pa_cons (pe_xf T.xfc_NoColumn T.xf_NoColumn_name hz hf (pv 5)) (pa_cons (pe_callB (call_isiK (K := K) rfl) (by rfl) T.b_isinstance (by decide +kernel) (pa_cons (pe_xf T.xfc_NoColumn T.xf_NoColumn_name hz hf (pv 5)) (pa_cons (pe_bltn (v := .ty "bool") (u := .type "bool") (by rfl) T.b_bool (by decide +kernel) rfl) pa_nil))) pa_nil)))))))
      .nil)))
      (pss_one (ps_ret (pv 4))))), ?_⟩
    simp only [cxOf, Cx.nox, L2.start, List.map_cons, List.map_nil, List.length_cons, List.length_nil, Nat.reduceAdd, Nat.reduceSub, List.replicate, List.cons_append, List.nil_append]
    walk_at "z"
    refine ⟨F0, _, u, wv, way, d, e, ts, os, rfl, wlt, sm, hs, hu', hz, hw', hze, hza, fun hno a1 H1 s1 he => ?_, fun t ht ed => ?_⟩
    · refine ⟨true, Z.exm_of T.sb_NoTable T.cb_NoTable T.tb_NoTable T.sub_NoTable_NoTable, fun _ a ha => ?_, (fun q => Bool.noConfusion q)⟩
      simp only [Z.endsAs, Z.slotAs]
      walk_at "z"
      refine ⟨rfl, rfl, a1, _, u, rfl, he, Z.look_eq, ?_⟩
      walk_at "z"
      refine ⟨rfl, rfl, a1, _, u, rfl, he, Z.look_eq, ?_⟩
      walk_at "z"
      refine Z.isiX hu' (sm.trans s1) (by simp) ?_
      walk_at "z"
      refine ⟨by simp only [List.length_cons, List.length_nil]; decide, fun p hp => ?_⟩
      walk_at "z"
      exact kx hno p _ (s1.trans (Z.same_new hp)) upd_same
    · rcases k t ht ed with ⟨h1, h2, h3⟩ | ⟨h1, h3⟩
      · refine .inl ⟨h1, h2, fun a1 H1 s1 he => ?_⟩
        refine ⟨false, Z.exm_of T.sb_NoTable T.cb_NoTable T.tb_NoTable T.sub_NoColumn_NoTable, (fun q => Bool.noConfusion q), fun _ => ?_⟩
        refine ⟨true, Z.exm_of T.sb_NoColumn T.cb_NoColumn T.tb_NoColumn T.sub_NoColumn_NoColumn, fun _ a ha => ?_, (fun q => Bool.noConfusion q)⟩
        simp only [Z.endsAs, Z.slotAs]
        walk_at "z"
        refine ⟨rfl, rfl, a1, _, wv, rfl, he, Z.look_eq, ?_⟩
        walk_at "z"
        refine ⟨rfl, rfl, a1, _, wv, rfl, he, Z.look_eq, ?_⟩
        walk_at "z"
        refine Z.isiX hw' (sm.trans s1) (by simp) ?_
        walk_at "z"
        refine ⟨by simp only [List.length_cons, List.length_nil]; decide, fun p hp => ?_⟩
        walk_at "z"
        exact h3 p _ (s1.trans (Z.same_new hp)) upd_same
      · refine .inr ⟨h1, fun H1 s1 => ?_⟩
        walk_at "z"
        exact h3 _ s1

theorem op_notIn_seqK {X : Cx} {K : PySem.W.Frag} (h : X.K = K) : OpR X (compareOp .NotIn) (rIn K true) := by subst h; exact op_notIn_seq
theorem pi_listK {X : Cx} {K : PySem.W.Frag} {tg l : Expr} {tl : TE} (h : X.K = K) (hl : PE X l tl) : PI X tg l (iList K tl) := by subst h; exact pi_list hl
theorem notInS {K : PySem.W.Frag} {H : Hp} {Q : VK} {z : Str} {zs : List Str} {p : Addr} (h : SqL K H p (zs.map V.str)) (k : Q (.bl (!decide (z ∈ zs))) H) : rIn K true (.str z) (.ref p) H Q := by
  refine ⟨p, _, rfl, .inl h, rfl, flat_str zs, ?_⟩
  rw [if_pos rfl, inV_str]
  exact k
theorem filt_step {zs us : List Str} {i : Nat} {z : Str} (h : zs[i]? = some z) : ((zs.take (i + 1)).filter fun z => !decide (z ∈ us)) = ((zs.take i).filter fun z => !decide (z ∈ us)) ++ if z ∈ us then [] else [z] := by
  rw [List.take_add_one, h, List.filter_append]
  by_cases e : z ∈ us <;> simp [e]
theorem one_left {zs us : List Str} (nd : zs.Nodup) (hl : us.length < zs.length) : ∃ z r, (zs.filter fun z => !decide (z ∈ us)) = z :: r ∧ z ∈ zs ∧ z ∉ us := by
  cases h : zs.filter fun z => !decide (z ∈ us) with
  | cons z r =>
    have m : z ∈ zs.filter fun z => !decide (z ∈ us) := by rw [h]; exact List.mem_cons_self
    have m := List.mem_filter.mp m
    exact ⟨z, r, rfl, m.1, by simpa using m.2⟩
  | nil =>
    have all : ∀ z ∈ zs, z ∈ us := fun z hz => Classical.byContradiction fun hn => by
      have m : z ∈ zs.filter fun z => !decide (z ∈ us) := List.mem_filter.mpr ⟨hz, by simp [hn]⟩
      rw [h] at m
      cases m
    have := (List.subset_def.mpr fun {a} h => all a h : zs ⊆ us)
    have := List.Nodup.length_le_of_subset nd this
    omega
theorem ixXa {K : PySem.W.Frag} {F H : Hp} {Q : VK} {v : V} {ds : List PyData} {z : Int} (h : Z.DX K F v (.list ds)) (s : Same F H) (h0 : 0 ≤ z) (h1 : z < ds.length) (k : ∀ w d, d ∈ ds → Z.DX K F w d → Q w H) : rIxL K v (.int z) H Q := by
  obtain ⟨a, vs, rfl, g1, g2⟩ := Z.dx_lst h
  have hl := Z.dxs_len g2
  have e : vs[z.toNat]? = some (vs[z.toNat]'(by omega)) := List.getElem?_eq_getElem _
  obtain ⟨d, e1, e2⟩ := Z.dxs_ix g2 e
  refine ⟨a, vs, z, _, rfl, rfl, s.seq g1, ?_, k _ d (List.mem_of_getElem? e1) e2⟩
  have := atI_nat e
  rwa [show ((z.toNat : Nat) : Int) = z by omega] at this
theorem not_blank {z : Str} : ¬ Name (z ++ " ") := fun n => by
  have m : 32 ∈ (z ++ " " : Str).cps.toList := by
    show 32 ∈ (z.cps ++ (" " : Str).cps).toList
    rw [Array.toList_append]
    exact List.mem_append_right _ (by decide +kernel)
  have := n.2.2 32 m
  exact absurd this (by decide +kernel)
theorem app_len2 (a b : Str) : (a ++ b).length = a.length + b.length := Array.size_append
theorem not_long {z : Str} (h : 1 ≤ z.length) : ¬ Name (z ++ "abcdefgh") := fun n => by
  have h1 := n.2.1
  have h2 : ("abcdefgh" : Str).length = 8 := by decide +kernel
  rw [app_len2, h2] at h1
  omega
def Stray (us : List Str) (d : PyData) : Prop := (∀ z ∈ us, d ≠ .str z) ∧ SmallS d ∧ AllSmall d
def sp_law_strange (K : PySem.W.Frag) (A : Adr) : Sp := fun vs H Q _ => ∃ (F : Hp) (c : Int) (u : V) (us : List Str), vs = [.int c, u] ∧ Same F H ∧ 0 ≤ c ∧ Dp K F u (.list (us.map .str)) ∧ 1 ≤ us.length ∧ us.length ≤ 4 ∧ (∀ z ∈ us, Name z) ∧ ∀ F' H' v d, Z.Gr F H F' H' → Z.DX K F' v d → Stray us d → Q v H'
theorem ok_law_strange (T : Txt K mg A) : ∃ fd, FnOk P w K mg base CX0 3 A.f_law_strange fd ["_law_draw", "_law_names_here"] (sp_law_strange K A) ∧ Binds K fd ["_law_draw", "_law_names_here"] [] := by
  have ⟨fd, F, b⟩ := T.d_law_strange
  refine ⟨fd, F.ok sc_law_strange (fun vs H Q E h => ?_) (fun cdv Ar outer s H vs Q E hr h => ?_), b⟩
  · obtain ⟨F0, c, u, us, rfl, _⟩ := h
    rfl
  · obtain ⟨F0, c, u, us, rfl, sm, h0, hu', ul, uh, un, k⟩ := h
    have nd := sc_law_strange.nd
    have hu := hu_of hr
    have ⟨fd_law_names, G_law_names, b_law_names⟩ := ok_law_names (P := P) (w := w) (base := base) T
    refine ⟨_, (pss_cons (ps_set (i := 2) nd rfl (Or.inl rfl) (pe_ix ix_list (pe_lc (own := [("_law_name", 4)]) rfl nd (pi_list (pe_call G_law_names (hr.mono (by decide)) (by rfl) T.g_law_names T.d_law_names.kp b_law_names .nil pass0 (pa_cons (pv 0) (pa_cons pe_int pa_nil)))) (blkOk_by (own := [("_law_name", 4)]) (N := ["_law_draw", "_law_names_here", "_law_other", "_law_some", "_law_name"]) (sc := defScope s_law_strange) (by decide +kernel)) (fun _ _ _ _ _ => pg_name (i := 4) nd rfl (Or.inl rfl)) (fun _ _ _ _ _ => pts_one (pt_cmpR (op_notIn_seqK (K := K) rfl) (pv 4) (pv 1) (by rfl))) (fun _ _ _ _ _ => (pv 4))) pe_int (fun _ _ => rfl)))
      (pss_cons (ps_set (i := 3) nd rfl (Or.inl rfl) (pe_lst (pa_cons (pv 2) (pa_cons pe_str (pa_cons pe_str (pa_cons pe_non (pa_cons pe_int (pa_cons pe_bl (pa_cons (pe_tup (pa_cons (pe_ix ix_list (pv 1) pe_int (fun _ _ => rfl)) pa_nil)) (pa_cons (pe_lst (pa_cons (pe_ix ix_list (pv 1) pe_int (fun _ _ => rfl)) pa_nil)) (pa_cons pe_dnewK (pa_cons (pe_op op_add_str (pe_ix ix_list (pv 1) pe_int (fun _ _ => rfl)) pe_str) (pa_cons (pe_op op_add_str (pe_ix ix_list (pv 1) pe_int (fun _ _ => rfl)) pe_str) pa_nil)))))))))))))
      (pss_one (ps_ret (pe_ix ix_list (pv 3) (pe_op op_mod (pv 0) pe_int) (fun _ _ => rfl)))))), ?_⟩
    simp only [cxOf, Cx.nox, L2.start, List.map_cons, List.map_nil, List.length_cons, List.length_nil, Nat.reduceAdd, Nat.reduceSub, List.replicate, List.cons_append, List.nil_append]
    obtain ⟨ua, ux, rfl, hua, hux⟩ := Z.dp_lst hu'
    cases Z.dpa_strs hux
    have hu0 : us[0]? = some (us[0]'(by omega)) := List.getElem?_eq_getElem _
    generalize us[0]'(by omega) = n0 at hu0
    have n0n := un n0 (List.mem_of_getElem? hu0)
    have n08 := n0n.2.1
    have n01 := n0n.1
    walk_at "z"
    refine ⟨F0, c, 6, rfl, sm, by decide, fun F1 H1 nv zs hzl hzn hznd g1 hnv => ?_⟩
    obtain ⟨za, zx, rfl, hza, hzx⟩ := Z.dp_lst hnv
    cases Z.dpa_strs hzx
    have W1 := (Z.Ws.init sm).ext g1
    walk_at "z"
    refine ⟨za, rfl, ⟨_, W1.fh.seq hza⟩, fun D hD => ?_⟩
    refine lc_it walk_list (fun i H' => Z.Ws [(D, .lst (((zs.take i).filter fun z => !decide (z ∈ us)).map .str))] F0 H F1 H') (W1.new hD) (fun i H' hi W => W.fh.seq hza) ?_ ?_
    · rintro i x H2 H3 hi W2 ⟨rfl, hx⟩
      rw [List.getElem?_map] at hx
      obtain ⟨z, hzi, rfl⟩ := Option.map_eq_some_iff.mp hx
      refine ⟨rfl, ?_⟩
      walk_at "z"
      refine notInS (W2.fh.seq (g1.f.seq hua)) ?_
      refine ⟨_, rfl, ?_⟩
      have el := filt_step (us := us) hzi
      refine Z.iteN (fun h => ?_) (fun h => ?_)
      · walk_at "z"
        refine ⟨_, W2.at 0 rfl, ?_, ?_⟩
        · rw [List.length_map]
          exact Nat.lt_of_le_of_lt (Nat.le_trans (List.length_filter_le _ _) (show _ ≤ 1000 by rw [List.length_take]; omega)) (by decide)
        · rw [el, if_neg h, List.map_append]
          exact W2.set 0 rfl _
      · rw [el, if_pos h, List.append_nil]
        exact W2
    · rintro H2 W2
      rw [List.length_map, List.take_length] at W2
      obtain ⟨nz, nr, en, nz1, nz2⟩ := one_left (us := us) hznd (by omega)
      have nz8 := (hzn nz nz1).2.1
      walk_at "z"
      refine Z.ixL (i := 0) (v := .str nz) (SqL.of (W2.at 0 rfl)) (by rw [en]; rfl) ?_
      have W2 := W2.pick [] (L' := []) List.nodup_nil rfl
      walk_at "z"
      refine Z.ixL (i := 0) (v := .str n0) (W2.fh.seq (g1.f.seq hua)) (by rw [List.getElem?_map, hu0]; rfl) ?_
      walk_at "z"
      refine Z.tupX (K := K) W2 (.cons (.str n0) .nil) fun a1 F3 H3 W3 s3 e1 => ?_
      walk_at "z"
      refine Z.ixL (i := 0) (v := .str n0) (W3.fh.seq ((g1.f.trans s3).seq hua)) (by rw [List.getElem?_map, hu0]; rfl) ?_
      walk_at "z"
      refine Z.lstX (K := K) W3 (.cons (.str n0) .nil) fun a2 F4 H4 W4 s4 e2 => ?_
      walk_at "z"
      intro p5 hp5
      have W5 := W4.dat (o := .dK []) hp5
      have s5 := Z.same_new (o := .dK []) (W4.freeF hp5)
      have h5 : Z.DX K (upd F4 p5 (.dK [])) (.ref p5) (.dict []) := .dic upd_same
      generalize upd H4 p5 (.dK []) = H5 at W5 ⊢
      generalize upd F4 p5 (.dK []) = F5 at W5 s5 h5
      have s15 := g1.f.trans (s3.trans (s4.trans s5))
      walk_at "z"
      refine Z.ixL (i := 0) (v := .str n0) (W5.fh.seq (s15.seq hua)) (by rw [List.getElem?_map, hu0]; rfl) ?_
      walk_at "z"
      have l1 : (" " : Str).length = 1 := by decide +kernel
      have l8 : ("abcdefgh" : Str).length = 8 := by decide +kernel
      refine Z.addS (by omega) ?_
      walk_at "z"
      refine Z.ixL (i := 0) (v := .str n0) (W5.fh.seq (s15.seq hua)) (by rw [List.getElem?_map, hu0]; rfl) ?_
      walk_at "z"
      refine Z.addS (by omega) ?_
      walk_at "z"
      refine Z.lstX (K := K) W5 (.cons (.str _) (.cons (.str _) (.cons (.str _) (.cons .non (.cons (.int _) (.cons (.bl _) (.cons (Z.dx_same (s4.trans s5) e1) (.cons (Z.dx_same s5 e2) (.cons h5 (.cons (.str _) (.cons (.str _) .nil))))))))))) fun a6 F6 H6 W6 s6 e6 => ?_
      walk_at "z"
      refine ixXa e6 W6.fh (by omega) (by simp only [List.length_cons, List.length_nil]; omega) fun v d hd hv => ?_
      refine k F6 H6 v d W6.g hv ?_
      have nm : ∀ {y : Str}, ¬ Name y → ∀ z ∈ us, PyData.str y ≠ .str z := fun hy z hz e => by
        cases e
        exact hy (un _ hz)
      simp only [List.mem_cons, List.not_mem_nil, or_false] at hd
      rcases hd with rfl | rfl | rfl | rfl | rfl | rfl | rfl | rfl | rfl | rfl | rfl
      · refine ⟨fun z hz e => ?_, by show Str.length _ ≤ _; omega, trivial⟩
        cases e
        exact nz2 hz
      · exact ⟨nm (by decide +kernel), by show Str.length _ ≤ _; decide +kernel, trivial⟩
      · exact ⟨nm (by decide +kernel), by show Str.length _ ≤ _; decide +kernel, trivial⟩
      · exact ⟨fun z hz e => (by cases e), trivial, trivial⟩
      · exact ⟨fun z hz e => (by cases e), trivial, trivial⟩
      · exact ⟨fun z hz e => (by cases e), trivial, trivial⟩
      · refine ⟨fun z hz e => (by cases e), trivial, by simp, fun d hd => ?_⟩
        rw [List.mem_singleton.mp hd]
        show Str.length _ ≤ _
        omega
      · exact ⟨fun z hz e => (by cases e), trivial, trivial⟩
      · exact ⟨fun z hz e => (by cases e), trivial, trivial⟩
      · exact ⟨nm not_blank, by show Str.length _ ≤ _; rw [app_len2]; omega, trivial⟩
      · exact ⟨nm (not_long n01), by show Str.length _ ≤ _; rw [app_len2]; omega, trivial⟩

/-! ### schemas made: what fits -/
theorem ws_make {F B : Hp} {x dx C : Addr} (s : Same F B) (nx : B x = none) (ndx : B dx = none) (ne : dx ≠ x) : Z.Ws [(x, .ins C dx [])] F B F (upd (upd B dx (.own x)) x (.ins C dx [])) :=
  ((Z.Ws.init s).exts (Z.same_new ndx)).new (by rw [upd_ne (Ne.symm ne)]; exact nx)
theorem fit_cols {cs : List Col} (ok : ColsOk cs) : Fit3 (.list (cs.map pairD)) := fun d hd => by
  obtain ⟨c, hc, rfl⟩ := List.mem_map.mp hd
  obtain ⟨n, kd⟩ := ok.nm c hc
  refine ⟨trivial, fun x hx => ?_⟩
  simp only [List.mem_cons, List.not_mem_nil, or_false] at hx
  rcases hx with rfl | rfl
  · show Str.length _ ≤ _
    have := n.2.1
    omega
  · show Str.length _ ≤ _
    rcases kd with e | e <;> rw [e] <;> decide +kernel
theorem fit_tab {t : Tab} (n : Name t.1) (ok : ColsOk t.2) : Fit4 (tabD t) := fun d hd => by
  simp only [List.mem_cons, List.not_mem_nil, or_false] at hd
  rcases hd with rfl | rfl
  · have := n.2.1
    exact ⟨by show Str.length _ ≤ _; omega, trivial⟩
  · exact ⟨trivial, fit_cols ok⟩
theorem fit_ords {ts : List Tab} {os : List (Str × Str)} (tk : TabsOk ts) (ok : OrdsOk ts os) : ∀ e ∈ os.map pairD, Fit1 e ∧ Fit2 e := fun e he => by
  obtain ⟨o, ho, rfl⟩ := List.mem_map.mp he
  obtain ⟨t, ht, e1, c, hc, e2⟩ := ok.nm o ho
  obtain ⟨tn, ck⟩ := tk.nm t ht
  have cn := (ck.nm c (List.mem_of_mem_drop hc)).1.2.1
  have tn8 := tn.2.1
  refine ⟨trivial, fun d hd => ?_⟩
  simp only [List.mem_cons, List.not_mem_nil, or_false] at hd
  rcases hd with rfl | rfl
  · show Str.length _ ≤ _
    rw [← e1]
    omega
  · show Str.length _ ≤ _
    rw [← e2]
    omega
theorem same_tab {ts : List Tab} {t t' : Tab} (tk : TabsOk ts) (h : t ∈ ts) (h' : t' ∈ ts) (e : t'.1 = t.1) : t' = t := by
  obtain ⟨i, hi⟩ := List.mem_iff_getElem?.mp h
  obtain ⟨j, hj⟩ := List.mem_iff_getElem?.mp h'
  have n1 : (ts.map (·.1))[i]? = some t.1 := by rw [List.getElem?_map, hi]; rfl
  have n2 : (ts.map (·.1))[j]? = some t.1 := by rw [List.getElem?_map, hj]; exact congrArg some e
  have := nd_ix tk.nd n1 n2
  subst this
  rw [hi] at hj
  exact (Option.some.inj hj).symm
theorem tabs_acc {ts : List Tab} (tk : TabsOk ts) : AccT (.list (ts.map tabD)) ts :=
  ⟨_, .inl rfl, by rw [List.length_map], fun i e t he ht => by
    rw [List.getElem?_map, ht] at he
    cases he
    exact ⟨_, rfl, .inl rfl, (tk.nm t (List.mem_of_getElem? ht)).2⟩, tk⟩
theorem fit_tabs {ts : List Tab} (tk : TabsOk ts) : Fit5 (.list (ts.map tabD)) := fun e he => by
  obtain ⟨t, ht, rfl⟩ := List.mem_map.mp he
  exact fit_tab (tk.nm t ht).1 (tk.nm t ht).2
theorem cutV_int (xs : List Int) (lo hi : Option Int) : ∃ ys : List Int, cutV (xs.map V.int) lo hi = ys.map V.int ∧ ys.length ≤ xs.length := by
  refine ⟨(xs.drop (HT.sIx xs.length 0 lo)).take (HT.sIx xs.length xs.length hi - HT.sIx xs.length 0 lo), ?_, ?_⟩
  · unfold cutV
    rw [List.length_map, List.map_take, List.map_drop]
  · rw [List.length_take, List.length_drop]
    omega
theorem ixDa {K : PySem.W.Frag} {F H : Hp} {Q : VK} {v : V} {ds : List PyData} {z : Int} (h : Dp K F v (.list ds)) (s : Same F H) (h0 : 0 ≤ z) (h1 : z < ds.length) (k : ∀ w d, d ∈ ds → ds[z.toNat]? = some d → Dp K F w d → Q w H) : rIxL K v (.int z) H Q := by
  have e : ds[z.toNat]? = some (ds[z.toNat]'(by omega)) := List.getElem?_eq_getElem _
  have := Z.ixD h s z.toNat e fun w hw => k w _ (List.getElem_mem _) e hw
  rwa [show ((z.toNat : Nat) : Int) = z by omega] at this

theorem num_lt {d : Int} (h0 : 0 ≤ d) (h1 : d < 10 ^ 10) : d.natAbs.log2 < 1920 := by
  have : d.natAbs < 2 ^ 64 := by omega
  by_cases hz : d.natAbs = 0
  · rw [hz]; decide
  · exact Nat.lt_of_lt_of_le ((Nat.log2_lt hz).mpr this) (by decide)
theorem a_num {d : Int} (h0 : 0 ≤ d) (h1 : d < 10 ^ 10) : ("a" : Str).length + (Str.ofString (toString d)).length ≤ 100000 ∧ PyData.strOk (("a" : Str) ++ Str.ofString (toString d)) = true := by
  have e : ((d.natAbs : Nat) : Int) = d := by omega
  have t := TL.tl_num d.natAbs
  rw [e] at t
  have hl : (TL.numL d.natAbs).length ≤ 10 := TL.numL_len (by decide) (by omega)
  have hd := TL.numL_digits d.natAbs
  have l1 : ("a" : Str).length = 1 := by decide +kernel
  have l2 : (Str.ofString (toString d)).length = (TL.numL d.natAbs).length := by
    rw [← t]
    exact (Array.length_toList).symm
  refine ⟨by omega, Z.ok_app (by decide +kernel) ?_⟩
  unfold PyData.strOk
  rw [← Array.all_toList, show (Str.ofString (toString d)).cps.toList = TL.numL d.natAbs from t, List.all_eq_true]
  intro c hc
  have := hd c hc
  exact decide_eq_true (by omega)
theorem kinds_eq (nd : (Cs17 A).Nodup) {i : Nat} {D : Addr} (hi : (Cs17 A)[i]? = some D) : (Cs17 A).map (fun C => PyData.bool (D == C)) = (List.range 17).map fun j : Nat => PyData.bool (decide (V.int (i : Int) = V.int (0 + (j : Int)))) := by
  refine List.ext_getElem (by rfl) fun j h1 h2 => ?_
  rw [List.getElem_map, List.getElem_map, List.getElem_range]
  have hj : (Cs17 A)[j]? = some ((Cs17 A)[j]'(by simpa using h1)) := List.getElem?_eq_getElem _
  by_cases e : i = j
  · subst e
    rw [hi] at hj
    rw [← Option.some.inj hj, decide_eq_true (show V.int (i : Int) = V.int (0 + (i : Int)) by rw [Int.zero_add])]
    simp
  · rw [decide_eq_false (fun h => e (by have := V.int.inj h; omega))]
    have : D ≠ (Cs17 A)[j]'(by simpa using h1) := fun h => e (by rw [← h] at hj; exact nd_ix nd hi hj)
    simp [this]
theorem excs_Cs (A : Adr) (v1 v2 v3 : V) : (excs17 A v1 v2 v3).map (·.1) = Cs17 A := rfl
theorem shaped_bools (bs : List Bool) : SeqAt.shaped (.list (bs.map .bool)) = true := shaped_flats fun d hd => by
  obtain ⟨b, _, rfl⟩ := List.mem_map.mp hd
  exact trivial
theorem due_flat {d1 d2 d3 : PyData} (h1 : flatOk d1) (h2 : flatOk d2) (h3 : flatOk d3) : SeqAt.shaped (.list (due16 d1 d2 d3)) = true := shaped_flats fun d hd => by
  simp only [due16, List.cons_append, List.nil_append, List.mem_cons, List.not_mem_nil, or_false] at hd
  rcases hd with rfl | rfl | rfl | rfl | rfl | rfl | rfl | rfl | rfl | rfl | rfl | rfl | rfl | rfl | rfl | rfl <;> assumption
theorem dx_samev {K : PySem.W.Frag} {F : Hp} {v : V} {d : PyData} (h : Z.DX K F v d) : Z.SameV v := by
  cases h <;> first | exact .inl rfl | exact .inr ⟨_, rfl⟩
def spLaw (K : PySem.W.Frag) : Sp := fun vs H Q _ => ∃ (a : Addr) (ns : List Int), vs = [.ref a] ∧ SqL K H a (ns.map V.int) ∧ ns.length ≤ 63 ∧ ∀ H', Q (.bl true) H'
theorem ok_law {f : Addr} {fd : FuncData} (F : Fun K "law" "law" s_law f fd) (T : Txt K mg A) : FnOk P w K mg base CX0 7 f fd ["_law_script"] (spLaw K) := by
  refine F.ok sc_law (fun vs H Q E h => ?_) (fun cdv Ar outer s H vs Q E hr h => ?_)
  · obtain ⟨a, ns, rfl, _⟩ := h
    rfl
  · obtain ⟨a, ns, rfl, hS, hlen, k⟩ := h
    have nd := sc_law.nd
    have hu := hu_of hr
    have ⟨fd_law_draws, G_law_draws, b_law_draws⟩ := ok_law_draws (P := P) (w := w) (base := base) T
    have ⟨fd_law_cell, G_law_cell, b_law_cell⟩ := ok_law_cell (P := P) (w := w) (base := base) T
    have ⟨fd_law_made, G_law_made, b_law_made⟩ := ok_law_made (P := P) (w := w) (base := base) T
    have ⟨fd_law_kinds, G_law_kinds, b_law_kinds⟩ := ok_law_kinds (P := P) (w := w) (base := base) T
    have ⟨fd_law_values, G_law_values, b_law_values⟩ := ok_law_values (P := P) (w := w) (base := base) T
    have ⟨fd_law_due, G_law_due, b_law_due⟩ := ok_law_due (P := P) (w := w) (base := base) T
    have ⟨fd_law_schema, G_law_schema, b_law_schema⟩ := ok_law_schema (P := P) (w := w) (base := base) T
    have ⟨fd_Schema___init__, G_Schema___init__, b_Schema___init__, ds_Schema___init__, vd_Schema___init__, bd_Schema___init__⟩ := ok_Schema___init__ (P := P) (w := w) (base := base) T
    have ⟨fd_law_strange, G_law_strange, b_law_strange⟩ := ok_law_strange (P := P) (w := w) (base := base) T
    have ⟨fd_law_told, G_law_told, b_law_told⟩ := ok_law_told (P := P) (w := w) (base := base) T
    have ⟨fd_Schema_table_names, G_Schema_table_names, b_Schema_table_names⟩ := ok_Schema_table_names (P := P) (w := w) (base := base) T
    refine ⟨_, (pss_cons (ps_set (i := 1) nd rfl (Or.inl rfl) (pe_call G_law_draws (hr.mono (by decide)) (by rfl) T.g_law_draws T.d_law_draws.kp b_law_draws .nil pass0 (pa_cons (pe_call G_law_cell (hr.mono (by decide)) (by rfl) T.g_law_cell T.d_law_cell.kp b_law_cell .nil pass0 (pa_cons (pv 0) (pa_cons pe_int pa_nil))) (pa_cons pe_int pa_nil))))
      (pss_cons (ps_set (i := 2) nd rfl (Or.inl rfl) (pe_call G_law_made (hr.mono (by decide)) (by rfl) T.g_law_made T.d_law_made.kp b_law_made .nil pass0 (pa_cons (pe_ix ix_list (pv 1) pe_int (fun _ _ => rfl)) (pa_cons (pe_ix ix_list (pv 1) pe_int (fun _ _ => rfl)) (pa_cons (pe_ix ix_list (pv 1) pe_int (fun _ _ => rfl)) pa_nil)))))
      (pss_cons (ps_set (i := 3) nd rfl (Or.inl rfl) (pe_call G_law_made (hr.mono (by decide)) (by rfl) T.g_law_made T.d_law_made.kp b_law_made .nil pass0 (pa_cons (pe_op op_add_str pe_str (pe_callTy call_str_int (by rfl) T.b_str (by decide +kernel) (pa_cons (pe_ix ix_list (pv 1) pe_int (fun _ _ => rfl)) pa_nil))) (pa_cons (pe_ix ix_list (pv 1) pe_int (fun _ _ => rfl)) (pa_cons (pe_ix ix_list (pv 1) pe_int (fun _ _ => rfl)) pa_nil)))))
      (pss_cons (ps_for PassesOwn.never rfl (pi_enum (by rfl) T.b_enumerate (pa_cons (pv 2) pa_nil)) (pg_tup rfl (pgs_cons (pg_name (i := 4) nd rfl (Or.inr rfl)) (pgs_cons (pg_name (i := 5) nd rfl (Or.inl rfl)) pgs_nil))) (pss_cons (ps_if (PW.pt (pw_or (pt_not (pt_val (pe_callB Z.call_isV (by rfl) T.b_isinstance (by decide +kernel) (pa_cons (pv 5) (pa_cons (pe_glob (v := .ref A.StoreError) rfl T.g_StoreError rfl) pa_nil))))) (pw_or1 (pt_not (pt_val (pe_callB Z.call_isV (by rfl) T.b_isinstance (by decide +kernel) (pa_cons (pv 5) (pa_cons (pe_bltn (v := .ty "ValueError") (u := .type "ValueError") (by rfl) T.b_ValueError (by decide +kernel) rfl) pa_nil)))))))) (pss_one (ps_ret pe_bl)) pss_nil)
      (pss_one (ps_if (pt_cmpR (op_neD hr.units) (pe_call G_law_kinds (hr.mono (by decide)) (by rfl) T.g_law_kinds T.d_law_kinds.kp b_law_kinds .nil pass0 (pa_cons (pv 5) pa_nil)) (pe_lc (own := [("_law_j", 19)]) rfl nd (pi_range1 rfl T.b_range (pa_cons pe_int pa_nil)) (blkOk_by (own := [("_law_j", 19)]) (N := ["_law_script", "_law_draws_here", "_law_some", "_law_others", "_law_k", "_law_e", "_law_tables", "_law_orders", "_law_schema_here", "_law_cell_here", "_law_more", "_law_name", "_law_columns", "_law_bad", "_law_thing", "_law_way", "_law_told_here", "_law_table", "_law_rows", "_law_j", "_law_column", "_law_kind"]) (sc := defScope s_law) (by decide +kernel)) (fun _ _ _ _ _ => pg_name (i := 19) nd rfl (Or.inl rfl)) (fun _ _ _ _ _ => pts_nil) (fun _ _ _ _ _ => (pe_cmpR op_eq (pv 4) (pv 19) (nomark _)))) (nomark _)) (pss_one (ps_ret pe_bl)) pss_nil))))
      (pss_cons (ps_if (pt_cmpR (op_neD hr.units) (pe_call G_law_values (hr.mono (by decide)) (by rfl) T.g_law_values T.d_law_values.kp b_law_values .nil pass0 (pa_cons (pv 2) pa_nil)) (pe_call G_law_due (hr.mono (by decide)) (by rfl) T.g_law_due T.d_law_due.kp b_law_due .nil pass0 (pa_cons (pe_ix ix_list (pv 1) pe_int (fun _ _ => rfl)) (pa_cons (pe_ix ix_list (pv 1) pe_int (fun _ _ => rfl)) (pa_cons (pe_ix ix_list (pv 1) pe_int (fun _ _ => rfl)) pa_nil)))) (nomark _)) (pss_one (ps_ret pe_bl)) pss_nil)
      (pss_cons (ps_if (pt_cmpR (op_neD hr.units) (pe_call G_law_values (hr.mono (by decide)) (by rfl) T.g_law_values T.d_law_values.kp b_law_values .nil pass0 (pa_cons (pv 3) pa_nil)) (pe_call G_law_due (hr.mono (by decide)) (by rfl) T.g_law_due T.d_law_due.kp b_law_due .nil pass0 (pa_cons (pe_op op_add_str pe_str (pe_callTy call_str_int (by rfl) T.b_str (by decide +kernel) (pa_cons (pe_ix ix_list (pv 1) pe_int (fun _ _ => rfl)) pa_nil))) (pa_cons (pe_ix ix_list (pv 1) pe_int (fun _ _ => rfl)) (pa_cons (pe_ix ix_list (pv 1) pe_int (fun _ _ => rfl)) pa_nil)))) (nomark _)) (pss_one (ps_ret pe_bl)) pss_nil)
      (pss_cons (ps_asg (pe_call G_law_schema (hr.mono (by decide)) (by rfl) T.g_law_schema T.d_law_schema.kp b_law_schema .nil pass0 (pa_cons (pe_call G_law_cell (hr.mono (by decide)) (by rfl) T.g_law_cell T.d_law_cell.kp b_law_cell .nil pass0 (pa_cons (pv 0) (pa_cons pe_int pa_nil))) pa_nil)) (pg_tup rfl (pgs_cons (pg_name (i := 6) nd rfl (Or.inl rfl)) (pgs_cons (pg_name (i := 7) nd rfl (Or.inl rfl)) pgs_nil))))
      (pss_cons (ps_set (i := 8) nd rfl (Or.inl rfl) (pe_make T.mk_Schema G_Schema___init__ (hr.mono (by decide)) rfl T.g_Schema b_Schema___init__ .nil (passes_call (E := fun _ _ _ => False) takes0 (fun _ _ _ _ h => h)) (pa_cons (pv 6) (pa_cons (pv 7) pa_nil))))
      (pss_cons (ps_for PassesOwn.never rfl (pi_list (pe_op op_cat (pe_lst (pa_cons (pe_call G_law_cell (hr.mono (by decide)) (by rfl) T.g_law_cell T.d_law_cell.kp b_law_cell .nil pass0 (pa_cons (pv 0) (pa_cons pe_int pa_nil))) pa_nil)) (pe_slice sl_list (pv 0) (po_some pe_int) (po_some pe_int)))) (pg_name (i := 9) nd rfl (Or.inl rfl)) (pss_cons (ps_set (i := 10) nd rfl (Or.inl rfl) (pe_call G_law_draws (hr.mono (by decide)) (by rfl) T.g_law_draws T.d_law_draws.kp b_law_draws .nil pass0 (pa_cons (pv 9) (pa_cons pe_int pa_nil))))
      (pss_cons (ps_asg (pe_ix ix_list (pv 6) (pe_op op_mod (pe_ix ix_list (pv 10) pe_int (fun _ _ => rfl)) (pe_callB call_len_seq (by rfl) T.b_len PySem.boot_len (pa_cons (pv 6) pa_nil))) (fun _ _ => rfl)) (pg_tup rfl (pgs_cons (pg_name (i := 11) nd rfl (Or.inl rfl)) (pgs_cons (pg_name (i := 12) nd rfl (Or.inl rfl)) pgs_nil))))
      (pss_cons (ps_set (i := 13) nd rfl (Or.inl rfl) (pe_call G_law_strange (hr.mono (by decide)) (by rfl) T.g_law_strange T.d_law_strange.kp b_law_strange .nil pass0 (pa_cons (pe_ix ix_list (pv 10) pe_int (fun _ _ => rfl)) (pa_cons (pe_lc (own := [("_law_table", 17), ("_law_rows", 18)]) rfl nd (pi_list (pv 6)) (blkOk_by (own := [("_law_table", 17), ("_law_rows", 18)]) (N := ["_law_script", "_law_draws_here", "_law_some", "_law_others", "_law_k", "_law_e", "_law_tables", "_law_orders", "_law_schema_here", "_law_cell_here", "_law_more", "_law_name", "_law_columns", "_law_bad", "_law_thing", "_law_way", "_law_told_here", "_law_table", "_law_rows", "_law_j", "_law_column", "_law_kind"]) (sc := defScope s_law) (by decide +kernel)) (fun _ _ _ _ _ => (pg_tupK (K := K) (n := 2) rfl rfl (pgs_cons (pg_name (i := 17) nd rfl (Or.inl rfl)) (pgs_cons (pg_name (i := 18) nd rfl (Or.inl rfl)) pgs_nil)))) (fun _ _ _ _ _ => pts_nil) (fun _ _ _ _ _ => (pv 17))) pa_nil))))
      (pss_cons (ps_set (i := 14) nd rfl (Or.inl rfl) (pe_call G_law_strange (hr.mono (by decide)) (by rfl) T.g_law_strange T.d_law_strange.kp b_law_strange .nil pass0 (pa_cons (pe_ix ix_list (pv 10) pe_int (fun _ _ => rfl)) (pa_cons (pe_lc (own := [("_law_column", 20), ("_law_kind", 21)]) rfl nd (pi_list (pv 12)) (blkOk_by (own := [("_law_column", 20), ("_law_kind", 21)]) (N := ["_law_script", "_law_draws_here", "_law_some", "_law_others", "_law_k", "_law_e", "_law_tables", "_law_orders", "_law_schema_here", "_law_cell_here", "_law_more", "_law_name", "_law_columns", "_law_bad", "_law_thing", "_law_way", "_law_told_here", "_law_table", "_law_rows", "_law_j", "_law_column", "_law_kind"]) (sc := defScope s_law) (by decide +kernel)) (fun _ _ _ _ _ => (pg_tupK (K := K) (n := 2) rfl rfl (pgs_cons (pg_name (i := 20) nd rfl (Or.inl rfl)) (pgs_cons (pg_name (i := 21) nd rfl (Or.inl rfl)) pgs_nil)))) (fun _ _ _ _ _ => pts_nil) (fun _ _ _ _ _ => (pv 20))) pa_nil))))
      (pss_cons (ps_for PassesOwn.never rfl (pi_range1 rfl T.b_range (pa_cons pe_int pa_nil)) (pg_name (i := 15) nd rfl (Or.inl rfl)) (pss_cons (ps_set (i := 16) nd rfl (Or.inl rfl) (pe_call G_law_told (hr.mono (by decide)) (by rfl) T.g_law_told T.d_law_told.kp b_law_told .nil pass0 (pa_cons (pv 8) (pa_cons (pv 15) (pa_cons (pv 13) (pa_cons (pe_ix ix_list (pe_lst (pa_cons (pe_ix ix_tup (pe_ix ix_list (pv 12) pe_int (fun _ _ => rfl)) pe_int (fun _ _ => rfl)) (pa_cons (pv 14) pa_nil))) (pe_op op_mod (pe_ix ix_list (pv 10) pe_int (fun _ _ => rfl)) pe_int) (fun _ _ => rfl)) pa_nil))))))
      (pss_one (ps_if (pt_cmpR (Z.op_neT hr.units) (pv 16) (pe_tup (pa_cons pe_str (pa_cons (pv 13) (pa_cons (pe_callB call_isi (by rfl) T.b_isinstance (by decide +kernel) (pa_cons (pv 13) (pa_cons (pe_bltn (v := .ty "bool") (u := .type "bool") (by rfl) T.b_bool (by decide +kernel) rfl) pa_nil))) pa_nil)))) (nomark _)) (pss_one (ps_ret pe_bl)) pss_nil))))
      (pss_cons (ps_if (pt_cmpR (Z.op_neT hr.units) (pe_call G_law_told (hr.mono (by decide)) (by rfl) T.g_law_told T.d_law_told.kp b_law_told .nil pass0 (pa_cons (pv 8) (pa_cons pe_int (pa_cons (pv 11) (pa_cons (pv 14) pa_nil))))) (pe_tup (pa_cons pe_str (pa_cons (pv 14) (pa_cons (pe_callB call_isi (by rfl) T.b_isinstance (by decide +kernel) (pa_cons (pv 14) (pa_cons (pe_bltn (v := .ty "bool") (u := .type "bool") (by rfl) T.b_bool (by decide +kernel) rfl) pa_nil))) pa_nil)))) (nomark _)) (pss_one (ps_ret pe_bl)) pss_nil)
      (pss_one (ps_if (PW.pt (pw_or (pt_cmpR op_notN (pe_call G_law_told (hr.mono (by decide)) (by rfl) T.g_law_told T.d_law_told.kp b_law_told .nil pass0 (pa_cons (pv 8) (pa_cons pe_int (pa_cons (pv 11) (pa_cons (pv 14) pa_nil))))) pe_non (nomark _)) (pw_or1 (pt_cmpR op_notN (pe_call G_law_told (hr.mono (by decide)) (by rfl) T.g_law_told T.d_law_told.kp b_law_told .nil pass0 (pa_cons (pv 8) (pa_cons pe_int (pa_cons (pv 11) (pa_cons (pv 14) pa_nil))))) pe_non (nomark _))))) (pss_one (ps_ret pe_bl)) pss_nil)))))))))
      (pss_one (ps_ret (pe_cmpR (op_eqD hr.units) (pe_meth0 (pv 8) T.c_Schema T.m_Schema_table_names G_Schema_table_names (hr.mono (by decide)) b_Schema_table_names .nil pass0) (pe_lc (own := [("_law_table", 17), ("_law_rows", 18)]) rfl nd (pi_list (pv 6)) (blkOk_by (own := [("_law_table", 17), ("_law_rows", 18)]) (N := ["_law_script", "_law_draws_here", "_law_some", "_law_others", "_law_k", "_law_e", "_law_tables", "_law_orders", "_law_schema_here", "_law_cell_here", "_law_more", "_law_name", "_law_columns", "_law_bad", "_law_thing", "_law_way", "_law_told_here", "_law_table", "_law_rows", "_law_j", "_law_column", "_law_kind"]) (sc := defScope s_law) (by decide +kernel)) (fun _ _ _ _ _ => (pg_tupK (K := K) (n := 2) rfl rfl (pgs_cons (pg_name (i := 17) nd rfl (Or.inl rfl)) (pgs_cons (pg_name (i := 18) nd rfl (Or.inl rfl)) pgs_nil)))) (fun _ _ _ _ _ => pts_nil) (fun _ _ _ _ _ => (pv 17))) (nomark _))))))))))))), ?_⟩
    simp only [cxOf, Cx.nox, L2.start, List.map_cons, List.map_nil, List.length_cons, List.length_nil, Nat.reduceAdd, Nat.reduceSub, List.replicate, List.cons_append, List.nil_append]
    have W0 := Z.Ws.init (Same.refl H)
    walk_at "z"
    refine ⟨a, ns, 0, rfl, hS, hlen, by decide, fun c0 => ?_⟩
    walk_at "z"
    refine ⟨H, c0, 6, rfl, Same.refl _, by decide, fun F1 H1 dv xs hxl pos g1 hdv => ?_⟩
    have W1 := W0.ext g1
    obtain ⟨d0, d1, d2, d3, d4, d5, rfl⟩ : ∃ a b c d e f, xs = [a, b, c, d, e, f] := by
      match xs, hxl with
      | [a, b, c, d, e, f], _ => exact ⟨a, b, c, d, e, f, rfl⟩
    have p3 := pos d3 (by simp)
    walk_at "z"
    refine Z.ixD hdv W1.fh 0 rfl fun w hw => ?_
    cases Z.dp_int hw
    walk_at "z"
    refine Z.ixD hdv W1.fh 1 rfl fun w hw => ?_
    cases Z.dp_int hw
    walk_at "z"
    refine Z.ixD hdv W1.fh 2 rfl fun w hw => ?_
    cases Z.dp_int hw
    walk_at "z"
    refine ⟨F1, .int d0, .int d1, .int d2, rfl, W1.fh, fun F2 H2 p1 es1 g2 hp1 hes1 => ?_⟩
    have W2 := W1.ext g2
    have hdv2 := Z.dp_same g2.f hdv
    walk_at "z"
    refine Z.ixD hdv2 W2.fh 3 rfl fun w hw => ?_
    cases Z.dp_int hw
    walk_at "z"
    obtain ⟨za, zo⟩ := a_num p3.1 p3.2
    refine ⟨d3, rfl, num_lt p3.1 p3.2, ?_⟩
    refine Z.addS za ?_
    walk_at "z"
    refine Z.ixD hdv2 W2.fh 4 rfl fun w hw => ?_
    cases Z.dp_int hw
    walk_at "z"
    refine Z.ixD hdv2 W2.fh 5 rfl fun w hw => ?_
    cases Z.dp_int hw
    walk_at "z"
    refine ⟨F2, .str (("a" : Str) ++ Str.ofString (toString d3)), .int d4, .int d5, rfl, W2.fh, fun F3 H3 p2 es2 g3 hp2 hes2 => ?_⟩
    have W3 := W2.ext g3
    have hdv3 := Z.dp_same g3.f hdv2
    have hp13 := g3.f _ _ hp1
    have hes13 := hes1.same g3.f
    have KT := Z.excTab_at (Cs := Cs17 A) T.xtab
    have esl := hes13.len
    walk_at "z"
    refine Z.forE ?_
    walk_at "z"
    refine ⟨p1, _, rfl, SqL.of (W3.fh _ _ hp13), ?_⟩
    refine for_it walk_enum (fun i σ H' => (∃ v4 v5 v6 v7 v8 v9 v10 v11 v12 v13 v14 v15 v16 v17 v18 v19 v20 v21, σ = [some (.ref a), some dv, some (.ref p1), some (.ref p2), v4, v5, v6, v7, v8, v9, v10, v11, v12, v13, v14, v15, v16, v17, v18, v19, v20, v21]) ∧ Same H3 H') ⟨⟨_, _, _, _, _, _, _, _, _, _, _, _, _, _, _, _, _, _, rfl⟩, Same.refl _⟩ (fun i σ H' hi P => SqL.of (P.2 _ _ (W3.fh _ _ hp13))) ?_ ?_
    · rintro i x σ H5 H6 hi ⟨⟨v4, v5, v6, v7, v8, v9, v10, v11, v12, v13, v14, v15, v16, v17, v18, v19, v20, v21, rfl⟩, s5⟩ ⟨T', x1, x2, rfl, hT, rfl, e1, e2⟩
      cases e1
      have e2 : es1[i]? = some x2 := e2
      obtain ⟨ea, eq, eq1, rfl, hev⟩ := hes13.at e2
      have hCs : (Cs17 A)[i]? = some eq.1 := by rw [← excs_Cs A (.int d0) (.int d1) (.int d2), List.getElem?_map, eq1]; rfl
      have hD := List.mem_of_getElem? hCs
      have s6 := Z.same_new (o := .tup [.int (i : Nat), .ref ea]) hT
      have gT : upd H5 T' (.tup [.int (i : Nat), .ref ea]) T' = _ := upd_same
      generalize upd H5 T' (.tup [.int (i : Nat), .ref ea]) = H6 at s6 gT ⊢
      have W6 := Z.Ws.init (W3.fh.trans (s5.trans s6))
      refine ⟨T', _, rfl, SqT.of gT, rfl, ?_⟩
      walk_at "z"
      refine ⟨ea, eq.1, eq.2, .ref A.StoreError, .ref A.StoreError, true, rfl, hev.same W6.fh, exc_all T _ hD, .own _, (KT.2 _ hD).1, ?_⟩
      walk_at "z"
      refine ⟨ea, eq.1, eq.2, .ty "ValueError", .type "ValueError", true, rfl, hev.same W6.fh, exc_all T _ hD, .ty _, (KT.2 _ hD).2.1, ?_⟩
      walk_at "z"
      refine ⟨F3, ea, eq.1, eq.2, rfl, W6.fh, hev, hD, fun F7 H7 r7 g7 hr7 => ?_⟩
      have W7 := W6.ext g7
      walk_at "z"
      refine ⟨17, rfl, by decide, by decide, fun D hD2 => ?_⟩
      refine lc_range (lo := 0) (n := 17) (fun j H' => Z.Ws [(D, .lst ((List.range j).map fun j : Nat => V.bl (decide (V.int (i : Int) = V.int (0 + (j : Int))))))] F3 H6 F7 H') (W7.new hD2) ?_ ?_
      · rintro j H8 hj W8
        refine ⟨rfl, ?_⟩
        walk_at "z"
        refine ⟨_, W8.at 0 rfl, by rw [List.length_map, List.length_range]; exact Nat.lt_of_le_of_lt (show j ≤ 1000 by omega) (by decide), ?_⟩
        rw [List.range_succ, List.map_append]
        exact W8.set 0 rfl _
      · rintro H8 W8
        obtain ⟨F9, W9, s9, g9⟩ := W8.frz 0 rfl
        have hr9 := Z.dp_same s9 hr7
        have hl9 : Dp K F9 (.ref D) (.list ((List.range 17).map fun j : Nat => PyData.bool (decide (V.int (i : Int) = V.int (0 + (j : Int)))))) := by
          refine .lst (SqL.of g9) ?_
          generalize List.range 17 = js
          induction js with
          | nil => exact .nil
          | cons j r ih => exact .cons (.bl _) ih
        rw [kinds_eq KT.1 hCs] at hr9
        have sh : SeqAt.shaped (.list ((List.range 17).map fun j : Nat => PyData.bool (decide (V.int (i : Int) = V.int (0 + (j : Int)))))) = true := by
          have := shaped_bools ((List.range 17).map fun j : Nat => decide (V.int (i : Int) = V.int (0 + (j : Int))))
          rwa [List.map_map] at this
        walk_at "z"
        refine Z.neD hr9 hl9 W9.fh sh sh ?_
        rw [SeqAt.eqv_refl _ (SeqAt.canLay_of_shaped sh)]
        walk_at "z"
        exact ⟨⟨_, _, _, _, _, _, _, _, _, _, _, _, _, _, _, _, _, _, rfl⟩, s5.trans (s6.trans W9.same)⟩
    rintro σ H5 ⟨⟨v4, v5, v6, v7, v8, v9, v10, v11, v12, v13, v14, v15, v16, v17, v18, v19, v20, v21, rfl⟩, s5⟩
    have W5 := Z.Ws.init (W3.fh.trans s5)
    have n0 := SeqAt.eqv_refl _ (SeqAt.canLay_of_shaped (due_flat (d1 := .int d0) (d2 := .int d1) (d3 := .int d2) trivial trivial trivial))
    have n1 := SeqAt.eqv_refl _ (SeqAt.canLay_of_shaped (due_flat (d1 := .str (("a" : Str) ++ Str.ofString (toString d3))) (d2 := .int d4) (d3 := .int d5) zo trivial trivial))
    walk_at "z"
    refine ⟨F3, p1, es1, .int d0, .int d1, .int d2, .int d0, .int d1, .int d2, rfl, W5.fh, hp13, hes13, .int _, .int _, .int _, fun F6 H6 r6 g6 hr6 => ?_⟩
    have W6 := W5.ext g6
    have hdv6 := Z.dp_same g6.f hdv3
    walk_at "z"
    refine Z.ixD hdv6 W6.fh 0 rfl fun w hw => ?_
    cases Z.dp_int hw
    walk_at "z"
    refine Z.ixD hdv6 W6.fh 1 rfl fun w hw => ?_
    cases Z.dp_int hw
    walk_at "z"
    refine Z.ixD hdv6 W6.fh 2 rfl fun w hw => ?_
    cases Z.dp_int hw
    walk_at "z"
    refine ⟨F6, .int d0, .int d1, .int d2, .int d0, .int d1, .int d2, rfl, W6.fh, .int _, .int _, .int _, fun F7 H7 r7 g7 hr7 => ?_⟩
    have W7 := W6.ext g7
    have hdv7 := Z.dp_same g7.f hdv6
    refine Z.neD (Z.dp_same g7.f hr6) hr7 W7.fh (due_flat trivial trivial trivial) (due_flat trivial trivial trivial) ?_
    rw [n0]
    walk_at "z"
    have s37 := g6.f.trans g7.f
    refine ⟨F7, p2, es2, .str (("a" : Str) ++ Str.ofString (toString d3)), .int d4, .int d5, .str (("a" : Str) ++ Str.ofString (toString d3)), .int d4, .int d5, rfl, W7.fh, s37 _ _ hp2, hes2.same s37, .str _, .int _, .int _, fun F8 H8 r8 g8 hr8 => ?_⟩
    have W8 := W7.ext g8
    have hdv8 := Z.dp_same g8.f hdv7
    walk_at "z"
    refine Z.ixD hdv8 W8.fh 3 rfl fun w hw => ?_
    cases Z.dp_int hw
    walk_at "z"
    refine ⟨d3, rfl, num_lt p3.1 p3.2, ?_⟩
    refine Z.addS za ?_
    walk_at "z"
    refine Z.ixD hdv8 W8.fh 4 rfl fun w hw => ?_
    cases Z.dp_int hw
    walk_at "z"
    refine Z.ixD hdv8 W8.fh 5 rfl fun w hw => ?_
    cases Z.dp_int hw
    walk_at "z"
    refine ⟨F8, .str (("a" : Str) ++ Str.ofString (toString d3)), .int d4, .int d5, .str (("a" : Str) ++ Str.ofString (toString d3)), .int d4, .int d5, rfl, W8.fh, .str _, .int _, .int _, fun F9 H9 r9 g9 hr9 => ?_⟩
    have W9 := W8.ext g9
    refine Z.neD (Z.dp_same g9.f hr8) hr9 W9.fh (due_flat zo trivial trivial) (due_flat zo trivial trivial) ?_
    rw [n1]
    walk_at "z"
    have s09 : Same H H9 := W3.same.trans (s5.trans W9.same)
    refine ⟨a, ns, 1, rfl, s09.seq hS, hlen, by decide, fun c1 => ?_⟩
    walk_at "z"
    refine ⟨F9, c1, rfl, W9.fh, fun F10 H10 r10 ts os tk ok g10 hr10 => ?_⟩
    have W10 := W9.ext g10
    have s010 := s09.trans g10.h
    walk_at "z"
    refine Z.gtupD hr10 W10.fh fun zs hzs => ?_
    obtain ⟨tv, ov, rfl, ht, ho⟩ := Z.dpa2 hzs
    walk_at "z"
    intro x dx nx ndx ne
    have M0 := ws_make (C := A.Schema) W10.fh nx ndx ne
    refine ⟨F10, H10, x, dx, tv, ov, _, _, rfl, M0, Z.dx_of ht, fit_tabs tk, Z.dx_of ho, fit_ords tk ok, fun ts' os' h1 h2 F' H6' q kvs ko W' s' hkv hko => ?_, fun hh => absurd ⟨.inl rfl, ok⟩ ((hh ts (tabs_acc tk)).2 os)⟩
    cases accT_one h1 (tabs_acc tk)
    have ok' : OrdsOk ts os' := by
      rcases h2 with ⟨e, _⟩ | ⟨_, h⟩
      · cases e
      · exact h.2
    refine ⟨rfl, ?_⟩
    obtain ⟨Fa, Wa, sa, ga⟩ := W'.frz 0 rfl
    obtain ⟨Fb, Wb, sb, gb⟩ := Wa.frz 0 rfl
    have hs : IsSch K A Fb (.ref x) ts os' := ⟨x, dx, q, kvs, ko, rfl, sb _ _ ga, gb, hkv.same (sa.trans sb), Z.dp_same (sa.trans sb) hko, tk, ok'⟩
    have htb : Dp K Fb tv (.list (ts.map tabD)) := Z.dp_same (s'.trans (sa.trans sb)) ht
    have s0b : Same H H6' := s010.trans Wb.same
    have tlo := tk.lo
    have thi := tk.hi
    obtain ⟨ta, tx, rfl, hta, htx⟩ := Z.dp_lst htb
    have htl := Z.dpa_len htx
    rw [List.length_map] at htl
    walk_at "z"
    refine ⟨a, ns, 2, rfl, s0b.seq hS, hlen, by decide, fun c2 => ?_⟩
    walk_at "z"
    have V0 := Z.Ws.init Wb.fh
    refine Z.lstW V0 fun q2 G2 V2 => ?_
    walk_at "z"
    refine ⟨a, _, rfl, (s0b.trans V2.same).seq hS, fun q3 hq3 => ?_⟩
    obtain ⟨cs, ec, hcl⟩ := cutV_int ns (some 3) (some 33)
    rw [ec]
    have V3 := V2.new (o := .lst (cs.map V.int)) hq3
    generalize upd G2 q3 (.lst (cs.map V.int)) = G3 at V3 ⊢
    refine ⟨q2, q3, _, _, rfl, rfl, V3.at 1 rfl, V3.at 0 rfl, Nat.le_trans (show 1 + (cs.map V.int).length ≤ 1000 by rw [List.length_map]; omega) (by decide), fun q4 hq4 => ?_⟩
    have V4 := V3.new (o := .lst ([.int c2] ++ cs.map V.int)) hq4
    generalize upd G3 q4 (.lst ([.int c2] ++ cs.map V.int)) = G4 at V4 ⊢
    have g4 := V4.at 0 rfl
    refine ⟨q4, rfl, ⟨_, SqL.of g4⟩, for_list (xs := [.int c2] ++ cs.map V.int) (fun i σ H' => (∃ v9 v10 v11 v12 v13 v14 v15 v16 v17 v18 v19 v20 v21, σ = [some (.ref a), some dv, some (.ref p1), some (.ref p2), v4, v5, some (.ref ta), some ov, some (.ref x), v9, v10, v11, v12, v13, v14, v15, v16, v17, v18, v19, v20, v21]) ∧ Same G4 H') ⟨⟨_, _, _, _, _, _, _, _, _, _, _, _, _, rfl⟩, Same.refl _⟩ (fun i σ H' hi P => SqL.of (P.2 _ _ g4)) ?_ ?_⟩
    · rintro i y σ G5 hy ⟨⟨v9, v10, v11, v12, v13, v14, v15, v16, v17, v18, v19, v20, v21, rfl⟩, s5⟩
      obtain ⟨c, rfl⟩ : ∃ c, y = .int c := by
        rcases List.mem_append.mp (List.mem_of_getElem? hy) with m | m
        · exact ⟨c2, List.mem_singleton.mp m⟩
        · obtain ⟨y, _, rfl⟩ := List.mem_map.mp m
          exact ⟨y, rfl⟩
      have V5 := Z.Ws.init (V4.fh.trans s5)
      walk_at "z"
      refine ⟨Fb, c, 4, rfl, V5.fh, by decide, fun F6 G6 mv ms hml mpos g6 hmv => ?_⟩
      have V6 := V5.ext g6
      obtain ⟨m0, m1, m2, m3, rfl⟩ : ∃ a b c d, ms = [a, b, c, d] := by
        match ms, hml with
        | [a, b, c, d], _ => exact ⟨a, b, c, d, rfl⟩
      have q0 := (mpos m0 (by simp)).1
      have q1 := (mpos m1 (by simp)).1
      have q2 := (mpos m2 (by simp)).1
      have q3 := (mpos m3 (by simp)).1
      clear mpos
      walk_at "z"
      refine Z.ixD hmv V6.fh 0 rfl fun w hw => ?_
      cases Z.dp_int hw
      walk_at "z"
      refine Z.lenSeq (V6.fh.seq (g6.f.seq hta)) ?_
      rw [htl]
      walk_at "z"
      refine ixDa (Z.dp_same g6.f htb) V6.fh (Int.emod_nonneg _ (by omega)) (by rw [List.length_map]; exact Int.emod_lt_of_pos _ (by omega)) fun w d hd _ hw => ?_
      obtain ⟨t, htm, rfl⟩ := List.mem_map.mp hd
      obtain ⟨tn, cok⟩ := tk.nm t htm
      have clo := cok.lo
      have chi := cok.hi
      refine Z.gtupD hw V6.fh fun ys hys => ?_
      obtain ⟨y1, y2, rfl, hy1, hy2⟩ := Z.dpa2 hys
      cases Z.dp_str hy1
      obtain ⟨ca, cx, rfl, hca, hcx⟩ := Z.dp_lst hy2
      have hcl2 := Z.dpa_len hcx
      rw [List.length_map] at hcl2
      walk_at "z"
      refine Z.ixD hmv V6.fh 1 rfl fun w hw => ?_
      cases Z.dp_int hw
      walk_at "z"
      refine ⟨ta, rfl, ⟨_, V6.fh.seq (g6.f.seq hta)⟩, fun D hD => ?_⟩
      refine lc_it walk_list (fun j H' => Z.Ws [(D, .lst (((ts.take j).map (·.1)).map .str))] Fb G5 F6 H') (V6.new hD) (fun j H' hj W => W.fh.seq (g6.f.seq hta)) ?_ ?_
      · rintro j z H4 H5 hj V7 ⟨rfl, hz⟩
        obtain ⟨d, e1, e2⟩ := Z.dpa_ix htx hz
        rw [List.getElem?_map] at e1
        obtain ⟨t', hti, rfl⟩ := Option.map_eq_some_iff.mp e1
        refine Z.gtupD e2 (g6.f.trans V7.fh) fun zs hzs => ?_
        obtain ⟨z1, z2, rfl, hz1, hz2⟩ := Z.dpa2 hzs
        cases Z.dp_str hz1
        walk_at "z"
        refine ⟨rfl, ?_⟩
        walk_at "z"
        refine ⟨_, V7.at 0 rfl, by rw [List.length_map, List.length_map, List.length_take]; exact Nat.lt_of_le_of_lt (show _ ≤ 1000 by omega) (by decide), ?_⟩
        rw [List.take_add_one, hti, List.map_append, List.map_append]
        exact V7.set 0 rfl _
      rintro G7 V7
      rw [htl, List.take_length] at V7
      obtain ⟨F8, V8, s8, g8⟩ := V7.frz 0 rfl
      have V8 := V8.pick [] (L' := []) List.nodup_nil rfl
      have hD8 : Dp K F8 (.ref D) (.list ((ts.map (·.1)).map .str)) := .lst (SqL.of g8) (Z.dpa_of_strs _)
      walk_at "z"
      refine ⟨F8, m1, .ref D, ts.map (·.1), rfl, V8.fh, q1, hD8, by rw [List.length_map]; omega, by rw [List.length_map]; omega, fun z hz => by (obtain ⟨t', h', rfl⟩ := List.mem_map.mp hz; exact (tk.nm t' h').1), fun F9 G9 bv bd g9 hbv hbst => ?_⟩
      have V9 := V8.ext g9
      have s69 := s8.trans g9.f
      have hmv9 := Z.dp_same s69 hmv
      have hno : NoTab ts bd := fun t' h' e => hbst.1 t'.1 (List.mem_map.mpr ⟨t', h', rfl⟩) e
      walk_at "z"
      refine Z.ixD hmv9 V9.fh 2 rfl fun w hw => ?_
      cases Z.dp_int hw
      walk_at "z"
      refine ⟨ca, rfl, ⟨_, V9.fh.seq (s69.seq hca)⟩, fun D2 hD2 => ?_⟩
      refine lc_it walk_list (fun j H' => Z.Ws [(D2, .lst (((t.2.take j).map (·.1)).map .str))] Fb G5 F9 H') (V9.new hD2) (fun j H' hj W => W.fh.seq (s69.seq hca)) ?_ ?_
      · rintro j z H4 H5 hj V10 ⟨rfl, hz⟩
        obtain ⟨d, e1, e2⟩ := Z.dpa_ix hcx hz
        rw [List.getElem?_map] at e1
        obtain ⟨c', hci, rfl⟩ := Option.map_eq_some_iff.mp e1
        refine Z.gtupD e2 (s69.trans V10.fh) fun zs hzs => ?_
        obtain ⟨z1, z2, rfl, hz1, hz2⟩ := Z.dpa2 hzs
        cases Z.dp_str hz1
        walk_at "z"
        refine ⟨rfl, ?_⟩
        walk_at "z"
        refine ⟨_, V10.at 0 rfl, by rw [List.length_map, List.length_map, List.length_take]; exact Nat.lt_of_le_of_lt (show _ ≤ 1000 by omega) (by decide), ?_⟩
        rw [List.take_add_one, hci, List.map_append, List.map_append]
        exact V10.set 0 rfl _
      rintro G10 V10
      rw [hcl2, List.take_length] at V10
      obtain ⟨F11, V11, s11, g11⟩ := V10.frz 0 rfl
      have V11 := V11.pick [] (L' := []) List.nodup_nil rfl
      have hD11 : Dp K F11 (.ref D2) (.list ((t.2.map (·.1)).map .str)) := .lst (SqL.of g11) (Z.dpa_of_strs _)
      walk_at "z"
      refine ⟨F11, m2, .ref D2, t.2.map (·.1), rfl, V11.fh, q2, hD11, by rw [List.length_map]; omega, by rw [List.length_map]; omega, fun z hz => by (obtain ⟨c', h', rfl⟩ := List.mem_map.mp hz; exact (cok.nm c' h').1), fun F12 G12 tv2 td g12 htv htst => ?_⟩
      have V12 := V11.ext g12
      have s912 := s11.trans g12.f
      have s612 := s69.trans s912
      have hmv12 := Z.dp_same s612 hmv
      have hbv12 := Z.dx_same s912 hbv
      have hcol12 := Z.dp_same s612 hy2
      have hs12 := hs.same (g6.f.trans s612)
      have hc0 : t.2[0]? = some (t.2[0]'(by omega)) := List.getElem?_eq_getElem _
      generalize t.2[0]'(by omega) = c0 at hc0
      have c08 := (cok.nm c0 (List.mem_of_getElem? hc0)).1.2.1
      walk_at "z"
      refine ⟨4, rfl, by decide, by decide, ?_⟩
      refine (for_range (lo := 0) (n := 4) (fun i σ H' => (∃ v15 v16 v17 v18 v19 v20 v21, σ = [some (.ref a), some dv, some (.ref p1), some (.ref p2), v4, v5, some (.ref ta), some ov, some (.ref x), some (.int c), some mv, some (.str t.1), some (.ref ca), some bv, some tv2, v15, v16, v17, v18, v19, v20, v21]) ∧ Same G12 H') ⟨⟨_, _, _, _, _, _, _, rfl⟩, Same.refl _⟩ ?_ ?_)
      · rintro i σ G13 hi ⟨⟨v15, v16, v17, v18, v19, v20, v21, rfl⟩, s13⟩
        have V13 := Z.Ws.init (V12.fh.trans s13)
        walk_at "z"
        refine Z.ixD hcol12 V13.fh 0 (d := pairD c0) (by rw [List.getElem?_map, hc0]; rfl) fun w2 hw2 => ?_
        walk_at "z"
        refine Z.ixT hw2 V13.fh 0 rfl fun w1 hw1 => ?_
        cases Z.dp_str hw1
        walk_at "z"
        refine Z.lstX (K := K) V13 (.cons (.str c0.1) (.cons htv .nil)) fun a14 F14 G14 V14 s14 e14 => ?_
        walk_at "z"
        refine Z.ixD (Z.dp_same s14 hmv12) V14.fh 3 rfl fun w hw => ?_
        cases Z.dp_int hw
        walk_at "z"
        refine ixXa e14 V14.fh (by omega) (by simp only [List.length_cons, List.length_nil]; omega) fun wv we hwe hwv => ?_
        have hsm : SmallS we ∧ AllSmall we := by
          simp only [List.mem_cons, List.not_mem_nil, or_false] at hwe
          rcases hwe with rfl | rfl
          · exact ⟨by show Str.length _ ≤ _; omega, trivial⟩
          · exact ⟨htst.2.1, htst.2.2⟩
        have hbv14 := Z.dx_same s14 hbv12
        walk_at "z"
        refine ⟨F14, .ref x, bv, wv, i, bd, we, ts, os', by rw [Int.zero_add]; rfl, hi, V14.fh, hs12.same s14, hbv14, hbst.2.1, hwv, hsm.1, hsm.2, fun _ p G15 s15 hp => ?_, fun t' h' e => absurd e (hno t' h')⟩
        walk_at "z"
        refine Z.isiX hbv14 (V14.fh.trans s15) (by simp) ?_
        walk_at "z"
        refine ⟨by simp only [List.length_cons, List.length_nil]; decide, fun p' hp' => ?_⟩
        have s16 := Z.same_new (o := .tup [.str "table", bv, .bl (Z.isTy "bool" bd)]) hp'
        refine ⟨p, p', _, rfl, rfl, SqT.of (s16 _ _ hp), SqT.of upd_same, fun v hv => ?_, ?_⟩
        · simp only [List.mem_cons, List.not_mem_nil, or_false] at hv
          rcases hv with rfl | rfl | rfl
          · exact .inl rfl
          · exact dx_samev hbv14
          · exact .inl rfl
        walk_at "z"
        exact ⟨⟨_, _, _, _, _, _, _, rfl⟩, s13.trans (V14.same.trans (s15.trans s16))⟩
      · rintro σ G13 ⟨⟨v15, v16, v17, v18, v19, v20, v21, rfl⟩, s13⟩
        have V13 := Z.Ws.init (V12.fh.trans s13)
        have dt : Z.DX K F12 (.str t.1) (.str t.1) := .str _
        have dts : SmallS (.str t.1) := by have := tn.2.1; show Str.length _ ≤ _; omega
        have yes : ¬ NoTab ts (.str t.1) := fun h => h t htm rfl
        have same : ∀ t' ∈ ts, PyData.str t.1 = .str t'.1 → t' = t := fun t' h' e => same_tab tk htm h' (PyData.str.inj e).symm
        walk_at "z"
        refine ⟨F12, .ref x, .str t.1, tv2, 1, .str t.1, td, ts, os', rfl, by decide, V13.fh, hs12, dt, dts, htv, htst.2.1, htst.2.2, fun h => absurd h yes, fun t' h' e => ?_⟩
        cases same t' h' e
        refine .inl ⟨rfl, fun c' hc' e => htst.1 c'.1 (List.mem_map.mpr ⟨c', hc', rfl⟩) e, fun p G15 s15 hp => ?_⟩
        walk_at "z"
        refine Z.isiX htv (V13.fh.trans s15) (by simp) ?_
        walk_at "z"
        refine ⟨by simp only [List.length_cons, List.length_nil]; decide, fun p' hp' => ?_⟩
        have s16 := Z.same_new (o := .tup [.str "column", tv2, .bl (Z.isTy "bool" td)]) hp'
        refine ⟨p, p', _, rfl, rfl, SqT.of (s16 _ _ hp), SqT.of upd_same, fun v hv => ?_, ?_⟩
        · simp only [List.mem_cons, List.not_mem_nil, or_false] at hv
          rcases hv with rfl | rfl | rfl
          · exact .inl rfl
          · exact dx_samev htv
          · exact .inl rfl
        have s1316 := s15.trans s16
        generalize upd G15 p' _ = G16 at s1316 ⊢
        walk_at "z"
        refine ⟨F12, .ref x, .str t.1, tv2, 2, .str t.1, td, ts, os', rfl, by decide, V13.fh.trans s1316, hs12, dt, dts, htv, htst.2.1, htst.2.2, fun h => absurd h yes, fun t' h' e => .inr ⟨.inl rfl, fun G17 s17 => ?_⟩⟩
        walk_at "z"
        refine ⟨F12, .ref x, .str t.1, tv2, 3, .str t.1, td, ts, os', rfl, by decide, (V13.fh.trans s1316).trans s17, hs12, dt, dts, htv, htst.2.1, htst.2.2, fun h => absurd h yes, fun t' h' e => .inr ⟨.inr rfl, fun G18 s18 => ?_⟩⟩
        walk_at "z"
        exact ⟨⟨_, _, _, _, _, _, _, _, _, _, _, _, _, rfl⟩, s5.trans (V12.same.trans (s13.trans (s1316.trans (s17.trans s18))))⟩
    · rintro σ G5 ⟨⟨v9, v10, v11, v12, v13, v14, v15, v16, v17, v18, v19, v20, v21, rfl⟩, s5⟩
      have V5 := Z.Ws.init (V4.fh.trans s5)
      have hx' : G5 x = some (.ins A.Schema dx (schF q ko)) := V5.fh _ _ (sb _ _ ga)
      walk_at "z"
      refine ⟨Fb, _, ts, os', rfl, V5.fh, hs, fun H7 p7 W7 => ?_⟩
      have W8 := V5.join W7
      walk_at "z"
      refine ⟨ta, rfl, ⟨_, W8.fh.seq hta⟩, fun D hD => ?_⟩
      refine lc_it walk_list (fun j H' => Z.Ws [(D, .lst (((ts.take j).map (·.1)).map .str)), (p7, .lst (ts.map fun t => .str t.1))] Fb G5 Fb H') (W8.new hD) (fun j H' hj W => W.fh.seq hta) ?_ ?_
      · rintro j y H9 H10 hj W9 ⟨rfl, hy⟩
        obtain ⟨d, e1, e2⟩ := Z.dpa_ix htx hy
        rw [List.getElem?_map] at e1
        obtain ⟨t', hti, rfl⟩ := Option.map_eq_some_iff.mp e1
        refine Z.gtupD e2 W9.fh fun zs hzs => ?_
        obtain ⟨z1, z2, rfl, hz1, hz2⟩ := Z.dpa2 hzs
        cases Z.dp_str hz1
        walk_at "z"
        refine ⟨rfl, ?_⟩
        walk_at "z"
        refine ⟨_, W9.at 0 rfl, by rw [List.length_map, List.length_map, List.length_take]; exact Nat.lt_of_le_of_lt (show _ ≤ 1000 by omega) (by decide), ?_⟩
        rw [List.take_add_one, hti, List.map_append, List.map_append]
        exact W9.set 0 rfl _
      · rintro H9 W9
        rw [htl, List.take_length] at W9
        refine Z.eqStrs (xs := ts.map (·.1)) (SqL.of (by have := W9.at 1 rfl; rw [List.map_map]; exact this)) (SqL.of (W9.at 0 rfl)) (fun z hz => ?_) (k _)
        obtain ⟨t, htm, rfl⟩ := List.mem_map.mp hz
        exact (tk.nm t htm).1.ok

theorem all_mk {l : PySem.W.OpenLaw} {w : World} {K : PySem.W.Frag} {h : Heap} {mg : Str → Option Value} {fa : Addr} (X : K.In h) (G : h.Ns mainGlobals mg) (hfa : mg "law" = some (.ref fa))
    {CSchema CStoreError CNoSchema CTooMany CFell CNoTable CNoOrder CBadRow CNoRow CNoMake COver CBeaten CNoQuestion CNoColumn CAlike CWrongKind CNoStep CNoPlan CNoLine f_is_whole f_is_name f_is_kind f_is_value f_is_row_of f_need_pair f_columns_in f_tables_in f_orders_in f_Schema___init__ D_Schema___init__ f_Schema_need_table f_Schema_table_names f_Schema_columns_of f_Schema_kind_of f_Schema_has_order f_Schema_fits f_NoTable___init__ f_NoOrder___init__ f_BadRow___init__ f_NoRow___init__ f_NoMake___init__ f_Over___init__ f_Beaten___init__ f_NoQuestion___init__ f_NoColumn___init__ f_Alike___init__ f_WrongKind___init__ f_NoStep___init__ f_law_cell f_law_draws f_law_names f_law_schema f_law_made f_law_kinds f_law_values f_law_due f_law_asked f_law_told f_law_strange f_law : Addr} {od_is_whole an_is_whole od_is_name an_is_name od_is_kind an_is_kind od_is_value an_is_value od_is_row_of an_is_row_of od_need_pair an_need_pair od_columns_in an_columns_in od_tables_in an_tables_in od_orders_in an_orders_in od_Schema___init__ an_Schema___init__ Dod_Schema___init__ od_Schema_need_table an_Schema_need_table od_Schema_table_names an_Schema_table_names od_Schema_columns_of an_Schema_columns_of od_Schema_kind_of an_Schema_kind_of od_Schema_has_order an_Schema_has_order od_Schema_fits an_Schema_fits od_NoTable___init__ an_NoTable___init__ od_NoOrder___init__ an_NoOrder___init__ od_BadRow___init__ an_BadRow___init__ od_NoRow___init__ an_NoRow___init__ od_NoMake___init__ an_NoMake___init__ od_Over___init__ an_Over___init__ od_Beaten___init__ an_Beaten___init__ od_NoQuestion___init__ an_NoQuestion___init__ od_NoColumn___init__ an_NoColumn___init__ od_Alike___init__ an_Alike___init__ od_WrongKind___init__ an_WrongKind___init__ od_NoStep___init__ an_NoStep___init__ od_law_cell an_law_cell od_law_draws an_law_draws od_law_names an_law_names od_law_schema an_law_schema od_law_made an_law_made od_law_kinds an_law_kinds od_law_values an_law_values od_law_due an_law_due od_law_asked an_law_asked od_law_told an_law_told od_law_strange an_law_strange od_law an_law : Option Addr} {sl_is_whole sl_is_name sl_is_kind sl_is_value sl_is_row_of sl_need_pair sl_columns_in sl_tables_in sl_orders_in sl_Schema___init__ Dsl_Schema___init__ sl_Schema_need_table sl_Schema_table_names sl_Schema_columns_of sl_Schema_kind_of sl_Schema_has_order sl_Schema_fits sl_NoTable___init__ sl_NoOrder___init__ sl_BadRow___init__ sl_NoRow___init__ sl_NoMake___init__ sl_Over___init__ sl_Beaten___init__ sl_NoQuestion___init__ sl_NoColumn___init__ sl_Alike___init__ sl_WrongKind___init__ sl_NoStep___init__ sl_law_cell sl_law_draws sl_law_names sl_law_schema sl_law_made sl_law_kinds sl_law_values sl_law_due sl_law_asked sl_law_told sl_law_strange sl_law : Array (Option Value)} {oc_is_whole kV_is_whole dc_is_whole pm_is_whole cd_is_whole ct_is_whole oc_is_name kV_is_name dc_is_name pm_is_name cd_is_name ct_is_name oc_is_kind kV_is_kind dc_is_kind pm_is_kind cd_is_kind ct_is_kind oc_is_value kV_is_value dc_is_value pm_is_value cd_is_value ct_is_value oc_is_row_of kV_is_row_of dc_is_row_of pm_is_row_of cd_is_row_of ct_is_row_of oc_need_pair kV_need_pair dc_need_pair pm_need_pair cd_need_pair ct_need_pair oc_columns_in kV_columns_in dc_columns_in pm_columns_in cd_columns_in ct_columns_in oc_tables_in kV_tables_in dc_tables_in pm_tables_in cd_tables_in ct_tables_in oc_orders_in kV_orders_in dc_orders_in pm_orders_in cd_orders_in ct_orders_in oc_Schema___init__ kV_Schema___init__ dc_Schema___init__ pm_Schema___init__ cd_Schema___init__ ct_Schema___init__ Doc_Schema___init__ oc_Schema_need_table kV_Schema_need_table dc_Schema_need_table pm_Schema_need_table cd_Schema_need_table ct_Schema_need_table oc_Schema_table_names kV_Schema_table_names dc_Schema_table_names pm_Schema_table_names cd_Schema_table_names ct_Schema_table_names oc_Schema_columns_of kV_Schema_columns_of dc_Schema_columns_of pm_Schema_columns_of cd_Schema_columns_of ct_Schema_columns_of oc_Schema_kind_of kV_Schema_kind_of dc_Schema_kind_of pm_Schema_kind_of cd_Schema_kind_of ct_Schema_kind_of oc_Schema_has_order kV_Schema_has_order dc_Schema_has_order pm_Schema_has_order cd_Schema_has_order ct_Schema_has_order oc_Schema_fits kV_Schema_fits dc_Schema_fits pm_Schema_fits cd_Schema_fits ct_Schema_fits oc_NoTable___init__ kV_NoTable___init__ dc_NoTable___init__ pm_NoTable___init__ cd_NoTable___init__ ct_NoTable___init__ oc_NoOrder___init__ kV_NoOrder___init__ dc_NoOrder___init__ pm_NoOrder___init__ cd_NoOrder___init__ ct_NoOrder___init__ oc_BadRow___init__ kV_BadRow___init__ dc_BadRow___init__ pm_BadRow___init__ cd_BadRow___init__ ct_BadRow___init__ oc_NoRow___init__ kV_NoRow___init__ dc_NoRow___init__ pm_NoRow___init__ cd_NoRow___init__ ct_NoRow___init__ oc_NoMake___init__ kV_NoMake___init__ dc_NoMake___init__ pm_NoMake___init__ cd_NoMake___init__ ct_NoMake___init__ oc_Over___init__ kV_Over___init__ dc_Over___init__ pm_Over___init__ cd_Over___init__ ct_Over___init__ oc_Beaten___init__ kV_Beaten___init__ dc_Beaten___init__ pm_Beaten___init__ cd_Beaten___init__ ct_Beaten___init__ oc_NoQuestion___init__ kV_NoQuestion___init__ dc_NoQuestion___init__ pm_NoQuestion___init__ cd_NoQuestion___init__ ct_NoQuestion___init__ oc_NoColumn___init__ kV_NoColumn___init__ dc_NoColumn___init__ pm_NoColumn___init__ cd_NoColumn___init__ ct_NoColumn___init__ oc_Alike___init__ kV_Alike___init__ dc_Alike___init__ pm_Alike___init__ cd_Alike___init__ ct_Alike___init__ oc_WrongKind___init__ kV_WrongKind___init__ dc_WrongKind___init__ pm_WrongKind___init__ cd_WrongKind___init__ ct_WrongKind___init__ oc_NoStep___init__ kV_NoStep___init__ dc_NoStep___init__ pm_NoStep___init__ cd_NoStep___init__ ct_NoStep___init__ oc_law_cell kV_law_cell dc_law_cell pm_law_cell cd_law_cell ct_law_cell oc_law_draws kV_law_draws dc_law_draws pm_law_draws cd_law_draws ct_law_draws oc_law_names kV_law_names dc_law_names pm_law_names cd_law_names ct_law_names oc_law_schema kV_law_schema dc_law_schema pm_law_schema cd_law_schema ct_law_schema oc_law_made kV_law_made dc_law_made pm_law_made cd_law_made ct_law_made oc_law_kinds kV_law_kinds dc_law_kinds pm_law_kinds cd_law_kinds ct_law_kinds oc_law_values kV_law_values dc_law_values pm_law_values cd_law_values ct_law_values oc_law_due kV_law_due dc_law_due pm_law_due cd_law_due ct_law_due oc_law_asked kV_law_asked dc_law_asked pm_law_asked cd_law_asked ct_law_asked oc_law_told kV_law_told dc_law_told pm_law_told cd_law_told ct_law_told oc_law_strange kV_law_strange dc_law_strange pm_law_strange cd_law_strange ct_law_strange oc_law kV_law dc_law pm_law cd_law ct_law : Value} {Dn_Schema___init__ : Nat} {t_LETTERS t_MOST_COLUMNS t_MOST_NUMBER t_MOST_ORDERS t_MOST_SIGNS t_MOST_TABLES : Tok}
    (a_Schema : PySem.W.nsIn K mainGlobals "Schema" = some (some (.ref CSchema)))
    (pg_Schema : PySem.W.plainGet K CSchema Str.empty = true)
    (hd_Schema : PySem.W.hasDictIn K CSchema = true)
    (po_Schema : PySem.W.plainOver K CSchema = true)
    (sa_Schema : PySem.W.findIn K (.ref CSchema) "__setattr__" = some (some (.builtin "object.__setattr__")))
    (mk_Schema : PySem.W.makesIn K CSchema = true)
    (kc_Schema : PySem.W.keepIn K (.ref CSchema) = true)
    (n_Schema_columns : PySem.W.findIn K (.ref CSchema) "columns" = some none)
    (n_Schema_kept_orders : PySem.W.findIn K (.ref CSchema) "kept_orders" = some none)
    (a_StoreError : PySem.W.nsIn K mainGlobals "StoreError" = some (some (.ref CStoreError)))
    (a_NoSchema : PySem.W.nsIn K mainGlobals "NoSchema" = some (some (.ref CNoSchema)))
    (a_TooMany : PySem.W.nsIn K mainGlobals "TooMany" = some (some (.ref CTooMany)))
    (a_Fell : PySem.W.nsIn K mainGlobals "Fell" = some (some (.ref CFell)))
    (a_NoTable : PySem.W.nsIn K mainGlobals "NoTable" = some (some (.ref CNoTable)))
    (a_NoOrder : PySem.W.nsIn K mainGlobals "NoOrder" = some (some (.ref CNoOrder)))
    (a_BadRow : PySem.W.nsIn K mainGlobals "BadRow" = some (some (.ref CBadRow)))
    (a_NoRow : PySem.W.nsIn K mainGlobals "NoRow" = some (some (.ref CNoRow)))
    (a_NoMake : PySem.W.nsIn K mainGlobals "NoMake" = some (some (.ref CNoMake)))
    (a_Over : PySem.W.nsIn K mainGlobals "Over" = some (some (.ref COver)))
    (a_Beaten : PySem.W.nsIn K mainGlobals "Beaten" = some (some (.ref CBeaten)))
    (a_NoQuestion : PySem.W.nsIn K mainGlobals "NoQuestion" = some (some (.ref CNoQuestion)))
    (a_NoColumn : PySem.W.nsIn K mainGlobals "NoColumn" = some (some (.ref CNoColumn)))
    (a_Alike : PySem.W.nsIn K mainGlobals "Alike" = some (some (.ref CAlike)))
    (a_WrongKind : PySem.W.nsIn K mainGlobals "WrongKind" = some (some (.ref CWrongKind)))
    (a_NoStep : PySem.W.nsIn K mainGlobals "NoStep" = some (some (.ref CNoStep)))
    (a_NoPlan : PySem.W.nsIn K mainGlobals "NoPlan" = some (some (.ref CNoPlan)))
    (a_NoLine : PySem.W.nsIn K mainGlobals "NoLine" = some (some (.ref CNoLine)))
    (a_is_whole : PySem.W.nsIn K mainGlobals "is_whole" = some (some (.ref f_is_whole)))
    (l_is_whole : K.lookup f_is_whole = some ⟨oc_is_whole, od_is_whole, .func (PySem.W.fnOf "is_whole" "is_whole" (defArgs s_is_whole) (defBody s_is_whole) (defScope s_is_whole) .none kV_is_whole dc_is_whole pm_is_whole an_is_whole cd_is_whole ct_is_whole), sl_is_whole⟩)
    (c_is_whole : PySem.W.codeIn K cd_is_whole "is_whole" = true)
    (k_is_whole : PySem.W.keepIn K (.ref f_is_whole) = true)
    (a_is_name : PySem.W.nsIn K mainGlobals "is_name" = some (some (.ref f_is_name)))
    (l_is_name : K.lookup f_is_name = some ⟨oc_is_name, od_is_name, .func (PySem.W.fnOf "is_name" "is_name" (defArgs s_is_name) (defBody s_is_name) (defScope s_is_name) .none kV_is_name dc_is_name pm_is_name an_is_name cd_is_name ct_is_name), sl_is_name⟩)
    (c_is_name : PySem.W.codeIn K cd_is_name "is_name" = true)
    (k_is_name : PySem.W.keepIn K (.ref f_is_name) = true)
    (a_is_kind : PySem.W.nsIn K mainGlobals "is_kind" = some (some (.ref f_is_kind)))
    (l_is_kind : K.lookup f_is_kind = some ⟨oc_is_kind, od_is_kind, .func (PySem.W.fnOf "is_kind" "is_kind" (defArgs s_is_kind) (defBody s_is_kind) (defScope s_is_kind) .none kV_is_kind dc_is_kind pm_is_kind an_is_kind cd_is_kind ct_is_kind), sl_is_kind⟩)
    (c_is_kind : PySem.W.codeIn K cd_is_kind "is_kind" = true)
    (k_is_kind : PySem.W.keepIn K (.ref f_is_kind) = true)
    (a_is_value : PySem.W.nsIn K mainGlobals "is_value" = some (some (.ref f_is_value)))
    (l_is_value : K.lookup f_is_value = some ⟨oc_is_value, od_is_value, .func (PySem.W.fnOf "is_value" "is_value" (defArgs s_is_value) (defBody s_is_value) (defScope s_is_value) .none kV_is_value dc_is_value pm_is_value an_is_value cd_is_value ct_is_value), sl_is_value⟩)
    (c_is_value : PySem.W.codeIn K cd_is_value "is_value" = true)
    (k_is_value : PySem.W.keepIn K (.ref f_is_value) = true)
    (a_is_row_of : PySem.W.nsIn K mainGlobals "is_row_of" = some (some (.ref f_is_row_of)))
    (l_is_row_of : K.lookup f_is_row_of = some ⟨oc_is_row_of, od_is_row_of, .func (PySem.W.fnOf "is_row_of" "is_row_of" (defArgs s_is_row_of) (defBody s_is_row_of) (defScope s_is_row_of) .none kV_is_row_of dc_is_row_of pm_is_row_of an_is_row_of cd_is_row_of ct_is_row_of), sl_is_row_of⟩)
    (c_is_row_of : PySem.W.codeIn K cd_is_row_of "is_row_of" = true)
    (k_is_row_of : PySem.W.keepIn K (.ref f_is_row_of) = true)
    (a_need_pair : PySem.W.nsIn K mainGlobals "need_pair" = some (some (.ref f_need_pair)))
    (l_need_pair : K.lookup f_need_pair = some ⟨oc_need_pair, od_need_pair, .func (PySem.W.fnOf "need_pair" "need_pair" (defArgs s_need_pair) (defBody s_need_pair) (defScope s_need_pair) .none kV_need_pair dc_need_pair pm_need_pair an_need_pair cd_need_pair ct_need_pair), sl_need_pair⟩)
    (c_need_pair : PySem.W.codeIn K cd_need_pair "need_pair" = true)
    (k_need_pair : PySem.W.keepIn K (.ref f_need_pair) = true)
    (a_columns_in : PySem.W.nsIn K mainGlobals "columns_in" = some (some (.ref f_columns_in)))
    (l_columns_in : K.lookup f_columns_in = some ⟨oc_columns_in, od_columns_in, .func (PySem.W.fnOf "columns_in" "columns_in" (defArgs s_columns_in) (defBody s_columns_in) (defScope s_columns_in) .none kV_columns_in dc_columns_in pm_columns_in an_columns_in cd_columns_in ct_columns_in), sl_columns_in⟩)
    (c_columns_in : PySem.W.codeIn K cd_columns_in "columns_in" = true)
    (k_columns_in : PySem.W.keepIn K (.ref f_columns_in) = true)
    (a_tables_in : PySem.W.nsIn K mainGlobals "tables_in" = some (some (.ref f_tables_in)))
    (l_tables_in : K.lookup f_tables_in = some ⟨oc_tables_in, od_tables_in, .func (PySem.W.fnOf "tables_in" "tables_in" (defArgs s_tables_in) (defBody s_tables_in) (defScope s_tables_in) .none kV_tables_in dc_tables_in pm_tables_in an_tables_in cd_tables_in ct_tables_in), sl_tables_in⟩)
    (c_tables_in : PySem.W.codeIn K cd_tables_in "tables_in" = true)
    (k_tables_in : PySem.W.keepIn K (.ref f_tables_in) = true)
    (a_orders_in : PySem.W.nsIn K mainGlobals "orders_in" = some (some (.ref f_orders_in)))
    (l_orders_in : K.lookup f_orders_in = some ⟨oc_orders_in, od_orders_in, .func (PySem.W.fnOf "orders_in" "orders_in" (defArgs s_orders_in) (defBody s_orders_in) (defScope s_orders_in) .none kV_orders_in dc_orders_in pm_orders_in an_orders_in cd_orders_in ct_orders_in), sl_orders_in⟩)
    (c_orders_in : PySem.W.codeIn K cd_orders_in "orders_in" = true)
    (k_orders_in : PySem.W.keepIn K (.ref f_orders_in) = true)
    (a_Schema___init__ : PySem.W.findIn K (.ref CSchema) "__init__" = some (some (.ref f_Schema___init__)))
    (i_Schema___init__ : PySem.W.isFn K (.ref f_Schema___init__) = true)
    (l_Schema___init__ : K.lookup f_Schema___init__ = some ⟨oc_Schema___init__, od_Schema___init__, .func (PySem.W.fnOf "__init__" "Schema.__init__" (defArgs s_Schema___init__) (defBody s_Schema___init__) (defScope s_Schema___init__) (.ref D_Schema___init__) kV_Schema___init__ dc_Schema___init__ pm_Schema___init__ an_Schema___init__ cd_Schema___init__ ct_Schema___init__), sl_Schema___init__⟩)
    (c_Schema___init__ : PySem.W.codeIn K cd_Schema___init__ "Schema.__init__" = true)
    (k_Schema___init__ : PySem.W.keepIn K (.ref f_Schema___init__) = true)
    (lD_Schema___init__ : K.lookup D_Schema___init__ = some ⟨Doc_Schema___init__, Dod_Schema___init__, .seq #[.none] Dn_Schema___init__, Dsl_Schema___init__⟩)
    (a_Schema_need_table : PySem.W.findIn K (.ref CSchema) "need_table" = some (some (.ref f_Schema_need_table)))
    (i_Schema_need_table : PySem.W.isFn K (.ref f_Schema_need_table) = true)
    (l_Schema_need_table : K.lookup f_Schema_need_table = some ⟨oc_Schema_need_table, od_Schema_need_table, .func (PySem.W.fnOf "need_table" "Schema.need_table" (defArgs s_Schema_need_table) (defBody s_Schema_need_table) (defScope s_Schema_need_table) .none kV_Schema_need_table dc_Schema_need_table pm_Schema_need_table an_Schema_need_table cd_Schema_need_table ct_Schema_need_table), sl_Schema_need_table⟩)
    (c_Schema_need_table : PySem.W.codeIn K cd_Schema_need_table "Schema.need_table" = true)
    (k_Schema_need_table : PySem.W.keepIn K (.ref f_Schema_need_table) = true)
    (a_Schema_table_names : PySem.W.findIn K (.ref CSchema) "table_names" = some (some (.ref f_Schema_table_names)))
    (i_Schema_table_names : PySem.W.isFn K (.ref f_Schema_table_names) = true)
    (l_Schema_table_names : K.lookup f_Schema_table_names = some ⟨oc_Schema_table_names, od_Schema_table_names, .func (PySem.W.fnOf "table_names" "Schema.table_names" (defArgs s_Schema_table_names) (defBody s_Schema_table_names) (defScope s_Schema_table_names) .none kV_Schema_table_names dc_Schema_table_names pm_Schema_table_names an_Schema_table_names cd_Schema_table_names ct_Schema_table_names), sl_Schema_table_names⟩)
    (c_Schema_table_names : PySem.W.codeIn K cd_Schema_table_names "Schema.table_names" = true)
    (k_Schema_table_names : PySem.W.keepIn K (.ref f_Schema_table_names) = true)
    (a_Schema_columns_of : PySem.W.findIn K (.ref CSchema) "columns_of" = some (some (.ref f_Schema_columns_of)))
    (i_Schema_columns_of : PySem.W.isFn K (.ref f_Schema_columns_of) = true)
    (l_Schema_columns_of : K.lookup f_Schema_columns_of = some ⟨oc_Schema_columns_of, od_Schema_columns_of, .func (PySem.W.fnOf "columns_of" "Schema.columns_of" (defArgs s_Schema_columns_of) (defBody s_Schema_columns_of) (defScope s_Schema_columns_of) .none kV_Schema_columns_of dc_Schema_columns_of pm_Schema_columns_of an_Schema_columns_of cd_Schema_columns_of ct_Schema_columns_of), sl_Schema_columns_of⟩)
    (c_Schema_columns_of : PySem.W.codeIn K cd_Schema_columns_of "Schema.columns_of" = true)
    (k_Schema_columns_of : PySem.W.keepIn K (.ref f_Schema_columns_of) = true)
    (a_Schema_kind_of : PySem.W.findIn K (.ref CSchema) "kind_of" = some (some (.ref f_Schema_kind_of)))
    (i_Schema_kind_of : PySem.W.isFn K (.ref f_Schema_kind_of) = true)
    (l_Schema_kind_of : K.lookup f_Schema_kind_of = some ⟨oc_Schema_kind_of, od_Schema_kind_of, .func (PySem.W.fnOf "kind_of" "Schema.kind_of" (defArgs s_Schema_kind_of) (defBody s_Schema_kind_of) (defScope s_Schema_kind_of) .none kV_Schema_kind_of dc_Schema_kind_of pm_Schema_kind_of an_Schema_kind_of cd_Schema_kind_of ct_Schema_kind_of), sl_Schema_kind_of⟩)
    (c_Schema_kind_of : PySem.W.codeIn K cd_Schema_kind_of "Schema.kind_of" = true)
    (k_Schema_kind_of : PySem.W.keepIn K (.ref f_Schema_kind_of) = true)
    (a_Schema_has_order : PySem.W.findIn K (.ref CSchema) "has_order" = some (some (.ref f_Schema_has_order)))
    (i_Schema_has_order : PySem.W.isFn K (.ref f_Schema_has_order) = true)
    (l_Schema_has_order : K.lookup f_Schema_has_order = some ⟨oc_Schema_has_order, od_Schema_has_order, .func (PySem.W.fnOf "has_order" "Schema.has_order" (defArgs s_Schema_has_order) (defBody s_Schema_has_order) (defScope s_Schema_has_order) .none kV_Schema_has_order dc_Schema_has_order pm_Schema_has_order an_Schema_has_order cd_Schema_has_order ct_Schema_has_order), sl_Schema_has_order⟩)
    (c_Schema_has_order : PySem.W.codeIn K cd_Schema_has_order "Schema.has_order" = true)
    (k_Schema_has_order : PySem.W.keepIn K (.ref f_Schema_has_order) = true)
    (a_Schema_fits : PySem.W.findIn K (.ref CSchema) "fits" = some (some (.ref f_Schema_fits)))
    (i_Schema_fits : PySem.W.isFn K (.ref f_Schema_fits) = true)
    (l_Schema_fits : K.lookup f_Schema_fits = some ⟨oc_Schema_fits, od_Schema_fits, .func (PySem.W.fnOf "fits" "Schema.fits" (defArgs s_Schema_fits) (defBody s_Schema_fits) (defScope s_Schema_fits) .none kV_Schema_fits dc_Schema_fits pm_Schema_fits an_Schema_fits cd_Schema_fits ct_Schema_fits), sl_Schema_fits⟩)
    (c_Schema_fits : PySem.W.codeIn K cd_Schema_fits "Schema.fits" = true)
    (k_Schema_fits : PySem.W.keepIn K (.ref f_Schema_fits) = true)
    (a_NoTable___init__ : PySem.W.findIn K (.ref CNoTable) "__init__" = some (some (.ref f_NoTable___init__)))
    (tI_NoTable : PySem.W.typeIn K (.ref f_NoTable___init__) = some (.type "function"))
    (l_NoTable___init__ : K.lookup f_NoTable___init__ = some ⟨oc_NoTable___init__, od_NoTable___init__, .func (PySem.W.fnOf "__init__" "NoTable.__init__" (defArgs s_NoTable___init__) (defBody s_NoTable___init__) (defScope s_NoTable___init__) .none kV_NoTable___init__ dc_NoTable___init__ pm_NoTable___init__ an_NoTable___init__ cd_NoTable___init__ ct_NoTable___init__), sl_NoTable___init__⟩)
    (c_NoTable___init__ : PySem.W.codeIn K cd_NoTable___init__ "NoTable.__init__" = true)
    (k_NoTable___init__ : PySem.W.keepIn K (.ref f_NoTable___init__) = true)
    (a_NoOrder___init__ : PySem.W.findIn K (.ref CNoOrder) "__init__" = some (some (.ref f_NoOrder___init__)))
    (tI_NoOrder : PySem.W.typeIn K (.ref f_NoOrder___init__) = some (.type "function"))
    (l_NoOrder___init__ : K.lookup f_NoOrder___init__ = some ⟨oc_NoOrder___init__, od_NoOrder___init__, .func (PySem.W.fnOf "__init__" "NoOrder.__init__" (defArgs s_NoOrder___init__) (defBody s_NoOrder___init__) (defScope s_NoOrder___init__) .none kV_NoOrder___init__ dc_NoOrder___init__ pm_NoOrder___init__ an_NoOrder___init__ cd_NoOrder___init__ ct_NoOrder___init__), sl_NoOrder___init__⟩)
    (c_NoOrder___init__ : PySem.W.codeIn K cd_NoOrder___init__ "NoOrder.__init__" = true)
    (k_NoOrder___init__ : PySem.W.keepIn K (.ref f_NoOrder___init__) = true)
    (a_BadRow___init__ : PySem.W.findIn K (.ref CBadRow) "__init__" = some (some (.ref f_BadRow___init__)))
    (tI_BadRow : PySem.W.typeIn K (.ref f_BadRow___init__) = some (.type "function"))
    (l_BadRow___init__ : K.lookup f_BadRow___init__ = some ⟨oc_BadRow___init__, od_BadRow___init__, .func (PySem.W.fnOf "__init__" "BadRow.__init__" (defArgs s_BadRow___init__) (defBody s_BadRow___init__) (defScope s_BadRow___init__) .none kV_BadRow___init__ dc_BadRow___init__ pm_BadRow___init__ an_BadRow___init__ cd_BadRow___init__ ct_BadRow___init__), sl_BadRow___init__⟩)
    (c_BadRow___init__ : PySem.W.codeIn K cd_BadRow___init__ "BadRow.__init__" = true)
    (k_BadRow___init__ : PySem.W.keepIn K (.ref f_BadRow___init__) = true)
    (a_NoRow___init__ : PySem.W.findIn K (.ref CNoRow) "__init__" = some (some (.ref f_NoRow___init__)))
    (tI_NoRow : PySem.W.typeIn K (.ref f_NoRow___init__) = some (.type "function"))
    (l_NoRow___init__ : K.lookup f_NoRow___init__ = some ⟨oc_NoRow___init__, od_NoRow___init__, .func (PySem.W.fnOf "__init__" "NoRow.__init__" (defArgs s_NoRow___init__) (defBody s_NoRow___init__) (defScope s_NoRow___init__) .none kV_NoRow___init__ dc_NoRow___init__ pm_NoRow___init__ an_NoRow___init__ cd_NoRow___init__ ct_NoRow___init__), sl_NoRow___init__⟩)
    (c_NoRow___init__ : PySem.W.codeIn K cd_NoRow___init__ "NoRow.__init__" = true)
    (k_NoRow___init__ : PySem.W.keepIn K (.ref f_NoRow___init__) = true)
    (a_NoMake___init__ : PySem.W.findIn K (.ref CNoMake) "__init__" = some (some (.ref f_NoMake___init__)))
    (tI_NoMake : PySem.W.typeIn K (.ref f_NoMake___init__) = some (.type "function"))
    (l_NoMake___init__ : K.lookup f_NoMake___init__ = some ⟨oc_NoMake___init__, od_NoMake___init__, .func (PySem.W.fnOf "__init__" "NoMake.__init__" (defArgs s_NoMake___init__) (defBody s_NoMake___init__) (defScope s_NoMake___init__) .none kV_NoMake___init__ dc_NoMake___init__ pm_NoMake___init__ an_NoMake___init__ cd_NoMake___init__ ct_NoMake___init__), sl_NoMake___init__⟩)
    (c_NoMake___init__ : PySem.W.codeIn K cd_NoMake___init__ "NoMake.__init__" = true)
    (k_NoMake___init__ : PySem.W.keepIn K (.ref f_NoMake___init__) = true)
    (a_Over___init__ : PySem.W.findIn K (.ref COver) "__init__" = some (some (.ref f_Over___init__)))
    (tI_Over : PySem.W.typeIn K (.ref f_Over___init__) = some (.type "function"))
    (l_Over___init__ : K.lookup f_Over___init__ = some ⟨oc_Over___init__, od_Over___init__, .func (PySem.W.fnOf "__init__" "Over.__init__" (defArgs s_Over___init__) (defBody s_Over___init__) (defScope s_Over___init__) .none kV_Over___init__ dc_Over___init__ pm_Over___init__ an_Over___init__ cd_Over___init__ ct_Over___init__), sl_Over___init__⟩)
    (c_Over___init__ : PySem.W.codeIn K cd_Over___init__ "Over.__init__" = true)
    (k_Over___init__ : PySem.W.keepIn K (.ref f_Over___init__) = true)
    (a_Beaten___init__ : PySem.W.findIn K (.ref CBeaten) "__init__" = some (some (.ref f_Beaten___init__)))
    (tI_Beaten : PySem.W.typeIn K (.ref f_Beaten___init__) = some (.type "function"))
    (l_Beaten___init__ : K.lookup f_Beaten___init__ = some ⟨oc_Beaten___init__, od_Beaten___init__, .func (PySem.W.fnOf "__init__" "Beaten.__init__" (defArgs s_Beaten___init__) (defBody s_Beaten___init__) (defScope s_Beaten___init__) .none kV_Beaten___init__ dc_Beaten___init__ pm_Beaten___init__ an_Beaten___init__ cd_Beaten___init__ ct_Beaten___init__), sl_Beaten___init__⟩)
    (c_Beaten___init__ : PySem.W.codeIn K cd_Beaten___init__ "Beaten.__init__" = true)
    (k_Beaten___init__ : PySem.W.keepIn K (.ref f_Beaten___init__) = true)
    (a_NoQuestion___init__ : PySem.W.findIn K (.ref CNoQuestion) "__init__" = some (some (.ref f_NoQuestion___init__)))
    (tI_NoQuestion : PySem.W.typeIn K (.ref f_NoQuestion___init__) = some (.type "function"))
    (l_NoQuestion___init__ : K.lookup f_NoQuestion___init__ = some ⟨oc_NoQuestion___init__, od_NoQuestion___init__, .func (PySem.W.fnOf "__init__" "NoQuestion.__init__" (defArgs s_NoQuestion___init__) (defBody s_NoQuestion___init__) (defScope s_NoQuestion___init__) .none kV_NoQuestion___init__ dc_NoQuestion___init__ pm_NoQuestion___init__ an_NoQuestion___init__ cd_NoQuestion___init__ ct_NoQuestion___init__), sl_NoQuestion___init__⟩)
    (c_NoQuestion___init__ : PySem.W.codeIn K cd_NoQuestion___init__ "NoQuestion.__init__" = true)
    (k_NoQuestion___init__ : PySem.W.keepIn K (.ref f_NoQuestion___init__) = true)
    (a_NoColumn___init__ : PySem.W.findIn K (.ref CNoColumn) "__init__" = some (some (.ref f_NoColumn___init__)))
    (tI_NoColumn : PySem.W.typeIn K (.ref f_NoColumn___init__) = some (.type "function"))
    (l_NoColumn___init__ : K.lookup f_NoColumn___init__ = some ⟨oc_NoColumn___init__, od_NoColumn___init__, .func (PySem.W.fnOf "__init__" "NoColumn.__init__" (defArgs s_NoColumn___init__) (defBody s_NoColumn___init__) (defScope s_NoColumn___init__) .none kV_NoColumn___init__ dc_NoColumn___init__ pm_NoColumn___init__ an_NoColumn___init__ cd_NoColumn___init__ ct_NoColumn___init__), sl_NoColumn___init__⟩)
    (c_NoColumn___init__ : PySem.W.codeIn K cd_NoColumn___init__ "NoColumn.__init__" = true)
    (k_NoColumn___init__ : PySem.W.keepIn K (.ref f_NoColumn___init__) = true)
    (a_Alike___init__ : PySem.W.findIn K (.ref CAlike) "__init__" = some (some (.ref f_Alike___init__)))
    (tI_Alike : PySem.W.typeIn K (.ref f_Alike___init__) = some (.type "function"))
    (l_Alike___init__ : K.lookup f_Alike___init__ = some ⟨oc_Alike___init__, od_Alike___init__, .func (PySem.W.fnOf "__init__" "Alike.__init__" (defArgs s_Alike___init__) (defBody s_Alike___init__) (defScope s_Alike___init__) .none kV_Alike___init__ dc_Alike___init__ pm_Alike___init__ an_Alike___init__ cd_Alike___init__ ct_Alike___init__), sl_Alike___init__⟩)
    (c_Alike___init__ : PySem.W.codeIn K cd_Alike___init__ "Alike.__init__" = true)
    (k_Alike___init__ : PySem.W.keepIn K (.ref f_Alike___init__) = true)
    (a_WrongKind___init__ : PySem.W.findIn K (.ref CWrongKind) "__init__" = some (some (.ref f_WrongKind___init__)))
    (tI_WrongKind : PySem.W.typeIn K (.ref f_WrongKind___init__) = some (.type "function"))
    (l_WrongKind___init__ : K.lookup f_WrongKind___init__ = some ⟨oc_WrongKind___init__, od_WrongKind___init__, .func (PySem.W.fnOf "__init__" "WrongKind.__init__" (defArgs s_WrongKind___init__) (defBody s_WrongKind___init__) (defScope s_WrongKind___init__) .none kV_WrongKind___init__ dc_WrongKind___init__ pm_WrongKind___init__ an_WrongKind___init__ cd_WrongKind___init__ ct_WrongKind___init__), sl_WrongKind___init__⟩)
    (c_WrongKind___init__ : PySem.W.codeIn K cd_WrongKind___init__ "WrongKind.__init__" = true)
    (k_WrongKind___init__ : PySem.W.keepIn K (.ref f_WrongKind___init__) = true)
    (a_NoStep___init__ : PySem.W.findIn K (.ref CNoStep) "__init__" = some (some (.ref f_NoStep___init__)))
    (tI_NoStep : PySem.W.typeIn K (.ref f_NoStep___init__) = some (.type "function"))
    (l_NoStep___init__ : K.lookup f_NoStep___init__ = some ⟨oc_NoStep___init__, od_NoStep___init__, .func (PySem.W.fnOf "__init__" "NoStep.__init__" (defArgs s_NoStep___init__) (defBody s_NoStep___init__) (defScope s_NoStep___init__) .none kV_NoStep___init__ dc_NoStep___init__ pm_NoStep___init__ an_NoStep___init__ cd_NoStep___init__ ct_NoStep___init__), sl_NoStep___init__⟩)
    (c_NoStep___init__ : PySem.W.codeIn K cd_NoStep___init__ "NoStep.__init__" = true)
    (k_NoStep___init__ : PySem.W.keepIn K (.ref f_NoStep___init__) = true)
    (a_law_cell : PySem.W.nsIn K mainGlobals "_law_cell" = some (some (.ref f_law_cell)))
    (l_law_cell : K.lookup f_law_cell = some ⟨oc_law_cell, od_law_cell, .func (PySem.W.fnOf "_law_cell" "_law_cell" (defArgs s_law_cell) (defBody s_law_cell) (defScope s_law_cell) .none kV_law_cell dc_law_cell pm_law_cell an_law_cell cd_law_cell ct_law_cell), sl_law_cell⟩)
    (c_law_cell : PySem.W.codeIn K cd_law_cell "_law_cell" = true)
    (k_law_cell : PySem.W.keepIn K (.ref f_law_cell) = true)
    (a_law_draws : PySem.W.nsIn K mainGlobals "_law_draws" = some (some (.ref f_law_draws)))
    (l_law_draws : K.lookup f_law_draws = some ⟨oc_law_draws, od_law_draws, .func (PySem.W.fnOf "_law_draws" "_law_draws" (defArgs s_law_draws) (defBody s_law_draws) (defScope s_law_draws) .none kV_law_draws dc_law_draws pm_law_draws an_law_draws cd_law_draws ct_law_draws), sl_law_draws⟩)
    (c_law_draws : PySem.W.codeIn K cd_law_draws "_law_draws" = true)
    (k_law_draws : PySem.W.keepIn K (.ref f_law_draws) = true)
    (a_law_names : PySem.W.nsIn K mainGlobals "_law_names" = some (some (.ref f_law_names)))
    (l_law_names : K.lookup f_law_names = some ⟨oc_law_names, od_law_names, .func (PySem.W.fnOf "_law_names" "_law_names" (defArgs s_law_names) (defBody s_law_names) (defScope s_law_names) .none kV_law_names dc_law_names pm_law_names an_law_names cd_law_names ct_law_names), sl_law_names⟩)
    (c_law_names : PySem.W.codeIn K cd_law_names "_law_names" = true)
    (k_law_names : PySem.W.keepIn K (.ref f_law_names) = true)
    (a_law_schema : PySem.W.nsIn K mainGlobals "_law_schema" = some (some (.ref f_law_schema)))
    (l_law_schema : K.lookup f_law_schema = some ⟨oc_law_schema, od_law_schema, .func (PySem.W.fnOf "_law_schema" "_law_schema" (defArgs s_law_schema) (defBody s_law_schema) (defScope s_law_schema) .none kV_law_schema dc_law_schema pm_law_schema an_law_schema cd_law_schema ct_law_schema), sl_law_schema⟩)
    (c_law_schema : PySem.W.codeIn K cd_law_schema "_law_schema" = true)
    (k_law_schema : PySem.W.keepIn K (.ref f_law_schema) = true)
    (a_law_made : PySem.W.nsIn K mainGlobals "_law_made" = some (some (.ref f_law_made)))
    (l_law_made : K.lookup f_law_made = some ⟨oc_law_made, od_law_made, .func (PySem.W.fnOf "_law_made" "_law_made" (defArgs s_law_made) (defBody s_law_made) (defScope s_law_made) .none kV_law_made dc_law_made pm_law_made an_law_made cd_law_made ct_law_made), sl_law_made⟩)
    (c_law_made : PySem.W.codeIn K cd_law_made "_law_made" = true)
    (k_law_made : PySem.W.keepIn K (.ref f_law_made) = true)
    (a_law_kinds : PySem.W.nsIn K mainGlobals "_law_kinds" = some (some (.ref f_law_kinds)))
    (l_law_kinds : K.lookup f_law_kinds = some ⟨oc_law_kinds, od_law_kinds, .func (PySem.W.fnOf "_law_kinds" "_law_kinds" (defArgs s_law_kinds) (defBody s_law_kinds) (defScope s_law_kinds) .none kV_law_kinds dc_law_kinds pm_law_kinds an_law_kinds cd_law_kinds ct_law_kinds), sl_law_kinds⟩)
    (c_law_kinds : PySem.W.codeIn K cd_law_kinds "_law_kinds" = true)
    (k_law_kinds : PySem.W.keepIn K (.ref f_law_kinds) = true)
    (a_law_values : PySem.W.nsIn K mainGlobals "_law_values" = some (some (.ref f_law_values)))
    (l_law_values : K.lookup f_law_values = some ⟨oc_law_values, od_law_values, .func (PySem.W.fnOf "_law_values" "_law_values" (defArgs s_law_values) (defBody s_law_values) (defScope s_law_values) .none kV_law_values dc_law_values pm_law_values an_law_values cd_law_values ct_law_values), sl_law_values⟩)
    (c_law_values : PySem.W.codeIn K cd_law_values "_law_values" = true)
    (k_law_values : PySem.W.keepIn K (.ref f_law_values) = true)
    (a_law_due : PySem.W.nsIn K mainGlobals "_law_due" = some (some (.ref f_law_due)))
    (l_law_due : K.lookup f_law_due = some ⟨oc_law_due, od_law_due, .func (PySem.W.fnOf "_law_due" "_law_due" (defArgs s_law_due) (defBody s_law_due) (defScope s_law_due) .none kV_law_due dc_law_due pm_law_due an_law_due cd_law_due ct_law_due), sl_law_due⟩)
    (c_law_due : PySem.W.codeIn K cd_law_due "_law_due" = true)
    (k_law_due : PySem.W.keepIn K (.ref f_law_due) = true)
    (a_law_asked : PySem.W.nsIn K mainGlobals "_law_asked" = some (some (.ref f_law_asked)))
    (l_law_asked : K.lookup f_law_asked = some ⟨oc_law_asked, od_law_asked, .func (PySem.W.fnOf "_law_asked" "_law_asked" (defArgs s_law_asked) (defBody s_law_asked) (defScope s_law_asked) .none kV_law_asked dc_law_asked pm_law_asked an_law_asked cd_law_asked ct_law_asked), sl_law_asked⟩)
    (c_law_asked : PySem.W.codeIn K cd_law_asked "_law_asked" = true)
    (k_law_asked : PySem.W.keepIn K (.ref f_law_asked) = true)
    (a_law_told : PySem.W.nsIn K mainGlobals "_law_told" = some (some (.ref f_law_told)))
    (l_law_told : K.lookup f_law_told = some ⟨oc_law_told, od_law_told, .func (PySem.W.fnOf "_law_told" "_law_told" (defArgs s_law_told) (defBody s_law_told) (defScope s_law_told) .none kV_law_told dc_law_told pm_law_told an_law_told cd_law_told ct_law_told), sl_law_told⟩)
    (c_law_told : PySem.W.codeIn K cd_law_told "_law_told" = true)
    (k_law_told : PySem.W.keepIn K (.ref f_law_told) = true)
    (a_law_strange : PySem.W.nsIn K mainGlobals "_law_strange" = some (some (.ref f_law_strange)))
    (l_law_strange : K.lookup f_law_strange = some ⟨oc_law_strange, od_law_strange, .func (PySem.W.fnOf "_law_strange" "_law_strange" (defArgs s_law_strange) (defBody s_law_strange) (defScope s_law_strange) .none kV_law_strange dc_law_strange pm_law_strange an_law_strange cd_law_strange ct_law_strange), sl_law_strange⟩)
    (c_law_strange : PySem.W.codeIn K cd_law_strange "_law_strange" = true)
    (k_law_strange : PySem.W.keepIn K (.ref f_law_strange) = true)
    (a_law : PySem.W.nsIn K mainGlobals "law" = some (some (.ref f_law)))
    (l_law : K.lookup f_law = some ⟨oc_law, od_law, .func (PySem.W.fnOf "law" "law" (defArgs s_law) (defBody s_law) (defScope s_law) .none kV_law dc_law pm_law an_law cd_law ct_law), sl_law⟩)
    (c_law : PySem.W.codeIn K cd_law "law" = true)
    (k_law : PySem.W.keepIn K (.ref f_law) = true)
    (xF_NoSchema : PySem.W.excIn K CNoSchema [.type "ValueError", .type "Exception", .type "BaseException", .type "object"] "ValueError.__new__" = true)
    (kc_NoSchema : PySem.W.keepIn K (.ref CNoSchema) = true)
    (xg_NoSchema : PySem.W.findIn K (.ref CNoSchema) "__getattribute__" = some (some (.builtin "BaseException.__getattribute__")))
    (xk_NoSchema : PySem.W.findIn K (.ref CNoSchema) "__getattr__" = some none)
    (xd_NoSchema : PySem.W.hasDictIn K CNoSchema = true)
    (xa_NoSchema : PySem.W.findIn K (.ref CNoSchema) "__class__" = some (some (.builtin "object.__class__")))
    (xm_NoSchema : PySem.W.mroIn K CNoSchema (.type "object") = some true)
    (xF_TooMany : PySem.W.excIn K CTooMany [.type "ValueError", .type "Exception", .type "BaseException", .type "object"] "ValueError.__new__" = true)
    (kc_TooMany : PySem.W.keepIn K (.ref CTooMany) = true)
    (xg_TooMany : PySem.W.findIn K (.ref CTooMany) "__getattribute__" = some (some (.builtin "BaseException.__getattribute__")))
    (xk_TooMany : PySem.W.findIn K (.ref CTooMany) "__getattr__" = some none)
    (xd_TooMany : PySem.W.hasDictIn K CTooMany = true)
    (xa_TooMany : PySem.W.findIn K (.ref CTooMany) "__class__" = some (some (.builtin "object.__class__")))
    (xm_TooMany : PySem.W.mroIn K CTooMany (.type "object") = some true)
    (xF_Fell : PySem.W.excIn K CFell [.type "ValueError", .type "Exception", .type "BaseException", .type "object"] "ValueError.__new__" = true)
    (kc_Fell : PySem.W.keepIn K (.ref CFell) = true)
    (xg_Fell : PySem.W.findIn K (.ref CFell) "__getattribute__" = some (some (.builtin "BaseException.__getattribute__")))
    (xk_Fell : PySem.W.findIn K (.ref CFell) "__getattr__" = some none)
    (xd_Fell : PySem.W.hasDictIn K CFell = true)
    (xa_Fell : PySem.W.findIn K (.ref CFell) "__class__" = some (some (.builtin "object.__class__")))
    (xm_Fell : PySem.W.mroIn K CFell (.type "object") = some true)
    (xF_NoPlan : PySem.W.excIn K CNoPlan [.type "ValueError", .type "Exception", .type "BaseException", .type "object"] "ValueError.__new__" = true)
    (kc_NoPlan : PySem.W.keepIn K (.ref CNoPlan) = true)
    (xg_NoPlan : PySem.W.findIn K (.ref CNoPlan) "__getattribute__" = some (some (.builtin "BaseException.__getattribute__")))
    (xk_NoPlan : PySem.W.findIn K (.ref CNoPlan) "__getattr__" = some none)
    (xd_NoPlan : PySem.W.hasDictIn K CNoPlan = true)
    (xa_NoPlan : PySem.W.findIn K (.ref CNoPlan) "__class__" = some (some (.builtin "object.__class__")))
    (xm_NoPlan : PySem.W.mroIn K CNoPlan (.type "object") = some true)
    (xF_NoLine : PySem.W.excIn K CNoLine [.type "ValueError", .type "Exception", .type "BaseException", .type "object"] "ValueError.__new__" = true)
    (kc_NoLine : PySem.W.keepIn K (.ref CNoLine) = true)
    (xg_NoLine : PySem.W.findIn K (.ref CNoLine) "__getattribute__" = some (some (.builtin "BaseException.__getattribute__")))
    (xk_NoLine : PySem.W.findIn K (.ref CNoLine) "__getattr__" = some none)
    (xd_NoLine : PySem.W.hasDictIn K CNoLine = true)
    (xa_NoLine : PySem.W.findIn K (.ref CNoLine) "__class__" = some (some (.builtin "object.__class__")))
    (xm_NoLine : PySem.W.mroIn K CNoLine (.type "object") = some true)
    (oe_NoTable : Z.oexB K CNoTable = true)
    (os_NoTable : PySem.W.findIn K (.ref CNoTable) "__setattr__" = some (some (.builtin "object.__setattr__")))
    (kc_NoTable : PySem.W.keepIn K (.ref CNoTable) = true)
    (xg_NoTable : PySem.W.findIn K (.ref CNoTable) "__getattribute__" = some (some (.builtin "BaseException.__getattribute__")))
    (xk_NoTable : PySem.W.findIn K (.ref CNoTable) "__getattr__" = some none)
    (xd_NoTable : PySem.W.hasDictIn K CNoTable = true)
    (xa_NoTable : PySem.W.findIn K (.ref CNoTable) "__class__" = some (some (.builtin "object.__class__")))
    (xm_NoTable : PySem.W.mroIn K CNoTable (.type "object") = some true)
    (xf_NoTable_table : PySem.W.findIn K (.ref CNoTable) "table" = some none)
    (oe_NoOrder : Z.oexB K CNoOrder = true)
    (os_NoOrder : PySem.W.findIn K (.ref CNoOrder) "__setattr__" = some (some (.builtin "object.__setattr__")))
    (kc_NoOrder : PySem.W.keepIn K (.ref CNoOrder) = true)
    (xg_NoOrder : PySem.W.findIn K (.ref CNoOrder) "__getattribute__" = some (some (.builtin "BaseException.__getattribute__")))
    (xk_NoOrder : PySem.W.findIn K (.ref CNoOrder) "__getattr__" = some none)
    (xd_NoOrder : PySem.W.hasDictIn K CNoOrder = true)
    (xa_NoOrder : PySem.W.findIn K (.ref CNoOrder) "__class__" = some (some (.builtin "object.__class__")))
    (xm_NoOrder : PySem.W.mroIn K CNoOrder (.type "object") = some true)
    (xf_NoOrder_table : PySem.W.findIn K (.ref CNoOrder) "table" = some none)
    (xf_NoOrder_column : PySem.W.findIn K (.ref CNoOrder) "column" = some none)
    (oe_BadRow : Z.oexB K CBadRow = true)
    (os_BadRow : PySem.W.findIn K (.ref CBadRow) "__setattr__" = some (some (.builtin "object.__setattr__")))
    (kc_BadRow : PySem.W.keepIn K (.ref CBadRow) = true)
    (xg_BadRow : PySem.W.findIn K (.ref CBadRow) "__getattribute__" = some (some (.builtin "BaseException.__getattribute__")))
    (xk_BadRow : PySem.W.findIn K (.ref CBadRow) "__getattr__" = some none)
    (xd_BadRow : PySem.W.hasDictIn K CBadRow = true)
    (xa_BadRow : PySem.W.findIn K (.ref CBadRow) "__class__" = some (some (.builtin "object.__class__")))
    (xm_BadRow : PySem.W.mroIn K CBadRow (.type "object") = some true)
    (xf_BadRow_table : PySem.W.findIn K (.ref CBadRow) "table" = some none)
    (oe_NoRow : Z.oexB K CNoRow = true)
    (os_NoRow : PySem.W.findIn K (.ref CNoRow) "__setattr__" = some (some (.builtin "object.__setattr__")))
    (kc_NoRow : PySem.W.keepIn K (.ref CNoRow) = true)
    (xg_NoRow : PySem.W.findIn K (.ref CNoRow) "__getattribute__" = some (some (.builtin "BaseException.__getattribute__")))
    (xk_NoRow : PySem.W.findIn K (.ref CNoRow) "__getattr__" = some none)
    (xd_NoRow : PySem.W.hasDictIn K CNoRow = true)
    (xa_NoRow : PySem.W.findIn K (.ref CNoRow) "__class__" = some (some (.builtin "object.__class__")))
    (xm_NoRow : PySem.W.mroIn K CNoRow (.type "object") = some true)
    (xf_NoRow_table : PySem.W.findIn K (.ref CNoRow) "table" = some none)
    (xf_NoRow_key : PySem.W.findIn K (.ref CNoRow) "key" = some none)
    (oe_NoMake : Z.oexB K CNoMake = true)
    (os_NoMake : PySem.W.findIn K (.ref CNoMake) "__setattr__" = some (some (.builtin "object.__setattr__")))
    (kc_NoMake : PySem.W.keepIn K (.ref CNoMake) = true)
    (xg_NoMake : PySem.W.findIn K (.ref CNoMake) "__getattribute__" = some (some (.builtin "BaseException.__getattribute__")))
    (xk_NoMake : PySem.W.findIn K (.ref CNoMake) "__getattr__" = some none)
    (xd_NoMake : PySem.W.hasDictIn K CNoMake = true)
    (xa_NoMake : PySem.W.findIn K (.ref CNoMake) "__class__" = some (some (.builtin "object.__class__")))
    (xm_NoMake : PySem.W.mroIn K CNoMake (.type "object") = some true)
    (xf_NoMake_number : PySem.W.findIn K (.ref CNoMake) "number" = some none)
    (oe_Over : Z.oexB K COver = true)
    (os_Over : PySem.W.findIn K (.ref COver) "__setattr__" = some (some (.builtin "object.__setattr__")))
    (kc_Over : PySem.W.keepIn K (.ref COver) = true)
    (xg_Over : PySem.W.findIn K (.ref COver) "__getattribute__" = some (some (.builtin "BaseException.__getattribute__")))
    (xk_Over : PySem.W.findIn K (.ref COver) "__getattr__" = some none)
    (xd_Over : PySem.W.hasDictIn K COver = true)
    (xa_Over : PySem.W.findIn K (.ref COver) "__class__" = some (some (.builtin "object.__class__")))
    (xm_Over : PySem.W.mroIn K COver (.type "object") = some true)
    (xf_Over_number : PySem.W.findIn K (.ref COver) "number" = some none)
    (oe_Beaten : Z.oexB K CBeaten = true)
    (os_Beaten : PySem.W.findIn K (.ref CBeaten) "__setattr__" = some (some (.builtin "object.__setattr__")))
    (kc_Beaten : PySem.W.keepIn K (.ref CBeaten) = true)
    (xg_Beaten : PySem.W.findIn K (.ref CBeaten) "__getattribute__" = some (some (.builtin "BaseException.__getattribute__")))
    (xk_Beaten : PySem.W.findIn K (.ref CBeaten) "__getattr__" = some none)
    (xd_Beaten : PySem.W.hasDictIn K CBeaten = true)
    (xa_Beaten : PySem.W.findIn K (.ref CBeaten) "__class__" = some (some (.builtin "object.__class__")))
    (xm_Beaten : PySem.W.mroIn K CBeaten (.type "object") = some true)
    (xf_Beaten_table : PySem.W.findIn K (.ref CBeaten) "table" = some none)
    (xf_Beaten_key : PySem.W.findIn K (.ref CBeaten) "key" = some none)
    (xf_Beaten_by : PySem.W.findIn K (.ref CBeaten) "by" = some none)
    (oe_NoQuestion : Z.oexB K CNoQuestion = true)
    (os_NoQuestion : PySem.W.findIn K (.ref CNoQuestion) "__setattr__" = some (some (.builtin "object.__setattr__")))
    (kc_NoQuestion : PySem.W.keepIn K (.ref CNoQuestion) = true)
    (xg_NoQuestion : PySem.W.findIn K (.ref CNoQuestion) "__getattribute__" = some (some (.builtin "BaseException.__getattribute__")))
    (xk_NoQuestion : PySem.W.findIn K (.ref CNoQuestion) "__getattr__" = some none)
    (xd_NoQuestion : PySem.W.hasDictIn K CNoQuestion = true)
    (xa_NoQuestion : PySem.W.findIn K (.ref CNoQuestion) "__class__" = some (some (.builtin "object.__class__")))
    (xm_NoQuestion : PySem.W.mroIn K CNoQuestion (.type "object") = some true)
    (xf_NoQuestion_place : PySem.W.findIn K (.ref CNoQuestion) "place" = some none)
    (oe_NoColumn : Z.oexB K CNoColumn = true)
    (os_NoColumn : PySem.W.findIn K (.ref CNoColumn) "__setattr__" = some (some (.builtin "object.__setattr__")))
    (kc_NoColumn : PySem.W.keepIn K (.ref CNoColumn) = true)
    (xg_NoColumn : PySem.W.findIn K (.ref CNoColumn) "__getattribute__" = some (some (.builtin "BaseException.__getattribute__")))
    (xk_NoColumn : PySem.W.findIn K (.ref CNoColumn) "__getattr__" = some none)
    (xd_NoColumn : PySem.W.hasDictIn K CNoColumn = true)
    (xa_NoColumn : PySem.W.findIn K (.ref CNoColumn) "__class__" = some (some (.builtin "object.__class__")))
    (xm_NoColumn : PySem.W.mroIn K CNoColumn (.type "object") = some true)
    (xf_NoColumn_name : PySem.W.findIn K (.ref CNoColumn) "name" = some none)
    (oe_Alike : Z.oexB K CAlike = true)
    (os_Alike : PySem.W.findIn K (.ref CAlike) "__setattr__" = some (some (.builtin "object.__setattr__")))
    (kc_Alike : PySem.W.keepIn K (.ref CAlike) = true)
    (xg_Alike : PySem.W.findIn K (.ref CAlike) "__getattribute__" = some (some (.builtin "BaseException.__getattribute__")))
    (xk_Alike : PySem.W.findIn K (.ref CAlike) "__getattr__" = some none)
    (xd_Alike : PySem.W.hasDictIn K CAlike = true)
    (xa_Alike : PySem.W.findIn K (.ref CAlike) "__class__" = some (some (.builtin "object.__class__")))
    (xm_Alike : PySem.W.mroIn K CAlike (.type "object") = some true)
    (xf_Alike_name : PySem.W.findIn K (.ref CAlike) "name" = some none)
    (oe_WrongKind : Z.oexB K CWrongKind = true)
    (os_WrongKind : PySem.W.findIn K (.ref CWrongKind) "__setattr__" = some (some (.builtin "object.__setattr__")))
    (kc_WrongKind : PySem.W.keepIn K (.ref CWrongKind) = true)
    (xg_WrongKind : PySem.W.findIn K (.ref CWrongKind) "__getattribute__" = some (some (.builtin "BaseException.__getattribute__")))
    (xk_WrongKind : PySem.W.findIn K (.ref CWrongKind) "__getattr__" = some none)
    (xd_WrongKind : PySem.W.hasDictIn K CWrongKind = true)
    (xa_WrongKind : PySem.W.findIn K (.ref CWrongKind) "__class__" = some (some (.builtin "object.__class__")))
    (xm_WrongKind : PySem.W.mroIn K CWrongKind (.type "object") = some true)
    (xf_WrongKind_name : PySem.W.findIn K (.ref CWrongKind) "name" = some none)
    (oe_NoStep : Z.oexB K CNoStep = true)
    (os_NoStep : PySem.W.findIn K (.ref CNoStep) "__setattr__" = some (some (.builtin "object.__setattr__")))
    (kc_NoStep : PySem.W.keepIn K (.ref CNoStep) = true)
    (xg_NoStep : PySem.W.findIn K (.ref CNoStep) "__getattribute__" = some (some (.builtin "BaseException.__getattribute__")))
    (xk_NoStep : PySem.W.findIn K (.ref CNoStep) "__getattr__" = some none)
    (xd_NoStep : PySem.W.hasDictIn K CNoStep = true)
    (xa_NoStep : PySem.W.findIn K (.ref CNoStep) "__class__" = some (some (.builtin "object.__class__")))
    (xm_NoStep : PySem.W.mroIn K CNoStep (.type "object") = some true)
    (xf_NoStep_place : PySem.W.findIn K (.ref CNoStep) "place" = some none)
    (xr_StoreError : PySem.W.readsIn K CStoreError (.type "type") = true)
    (xs_StoreError : PySem.W.specialIn K (.ref CStoreError) "__getattribute__" = some (some (.builtin "type.__getattribute__")))
    (xi_StoreError : PySem.W.findCls K (.ref CStoreError) (.type "type") "__init__" = some (.val (.builtin "ValueError.__init__")))
    (sb_StoreError : PySem.W.subIn K (.ref CStoreError) (.type "BaseException") = some true)
    (cb_StoreError : PySem.W.isClsIn K CStoreError = true)
    (tb_StoreError : PySem.W.typeIn K (.ref CStoreError) = some (.type "type"))
    (sb_NoSchema : PySem.W.subIn K (.ref CNoSchema) (.type "BaseException") = some true)
    (cb_NoSchema : PySem.W.isClsIn K CNoSchema = true)
    (tb_NoSchema : PySem.W.typeIn K (.ref CNoSchema) = some (.type "type"))
    (sb_TooMany : PySem.W.subIn K (.ref CTooMany) (.type "BaseException") = some true)
    (cb_TooMany : PySem.W.isClsIn K CTooMany = true)
    (tb_TooMany : PySem.W.typeIn K (.ref CTooMany) = some (.type "type"))
    (sb_Fell : PySem.W.subIn K (.ref CFell) (.type "BaseException") = some true)
    (cb_Fell : PySem.W.isClsIn K CFell = true)
    (tb_Fell : PySem.W.typeIn K (.ref CFell) = some (.type "type"))
    (sb_NoTable : PySem.W.subIn K (.ref CNoTable) (.type "BaseException") = some true)
    (cb_NoTable : PySem.W.isClsIn K CNoTable = true)
    (tb_NoTable : PySem.W.typeIn K (.ref CNoTable) = some (.type "type"))
    (sb_NoOrder : PySem.W.subIn K (.ref CNoOrder) (.type "BaseException") = some true)
    (cb_NoOrder : PySem.W.isClsIn K CNoOrder = true)
    (tb_NoOrder : PySem.W.typeIn K (.ref CNoOrder) = some (.type "type"))
    (sb_BadRow : PySem.W.subIn K (.ref CBadRow) (.type "BaseException") = some true)
    (cb_BadRow : PySem.W.isClsIn K CBadRow = true)
    (tb_BadRow : PySem.W.typeIn K (.ref CBadRow) = some (.type "type"))
    (sb_NoRow : PySem.W.subIn K (.ref CNoRow) (.type "BaseException") = some true)
    (cb_NoRow : PySem.W.isClsIn K CNoRow = true)
    (tb_NoRow : PySem.W.typeIn K (.ref CNoRow) = some (.type "type"))
    (sb_NoMake : PySem.W.subIn K (.ref CNoMake) (.type "BaseException") = some true)
    (cb_NoMake : PySem.W.isClsIn K CNoMake = true)
    (tb_NoMake : PySem.W.typeIn K (.ref CNoMake) = some (.type "type"))
    (sb_Over : PySem.W.subIn K (.ref COver) (.type "BaseException") = some true)
    (cb_Over : PySem.W.isClsIn K COver = true)
    (tb_Over : PySem.W.typeIn K (.ref COver) = some (.type "type"))
    (sb_Beaten : PySem.W.subIn K (.ref CBeaten) (.type "BaseException") = some true)
    (cb_Beaten : PySem.W.isClsIn K CBeaten = true)
    (tb_Beaten : PySem.W.typeIn K (.ref CBeaten) = some (.type "type"))
    (sb_NoQuestion : PySem.W.subIn K (.ref CNoQuestion) (.type "BaseException") = some true)
    (cb_NoQuestion : PySem.W.isClsIn K CNoQuestion = true)
    (tb_NoQuestion : PySem.W.typeIn K (.ref CNoQuestion) = some (.type "type"))
    (sb_NoColumn : PySem.W.subIn K (.ref CNoColumn) (.type "BaseException") = some true)
    (cb_NoColumn : PySem.W.isClsIn K CNoColumn = true)
    (tb_NoColumn : PySem.W.typeIn K (.ref CNoColumn) = some (.type "type"))
    (sb_Alike : PySem.W.subIn K (.ref CAlike) (.type "BaseException") = some true)
    (cb_Alike : PySem.W.isClsIn K CAlike = true)
    (tb_Alike : PySem.W.typeIn K (.ref CAlike) = some (.type "type"))
    (sb_WrongKind : PySem.W.subIn K (.ref CWrongKind) (.type "BaseException") = some true)
    (cb_WrongKind : PySem.W.isClsIn K CWrongKind = true)
    (tb_WrongKind : PySem.W.typeIn K (.ref CWrongKind) = some (.type "type"))
    (sb_NoStep : PySem.W.subIn K (.ref CNoStep) (.type "BaseException") = some true)
    (cb_NoStep : PySem.W.isClsIn K CNoStep = true)
    (tb_NoStep : PySem.W.typeIn K (.ref CNoStep) = some (.type "type"))
    (sb_NoPlan : PySem.W.subIn K (.ref CNoPlan) (.type "BaseException") = some true)
    (cb_NoPlan : PySem.W.isClsIn K CNoPlan = true)
    (tb_NoPlan : PySem.W.typeIn K (.ref CNoPlan) = some (.type "type"))
    (sb_NoLine : PySem.W.subIn K (.ref CNoLine) (.type "BaseException") = some true)
    (cb_NoLine : PySem.W.isClsIn K CNoLine = true)
    (tb_NoLine : PySem.W.typeIn K (.ref CNoLine) = some (.type "type"))
    (xn : PySem.W.specialIn K (.builtin "object.__class__") "__get__" = some (some (.builtin "getset_descriptor.__get__")))
    (xt : PySem.W.takesIn K (.builtin "object.__class__") = some true)
    (sub_NoTable_NoTable : PySem.W.subIn K (.ref CNoTable) (.ref CNoTable) = some true)
    (sub_NoColumn_NoColumn : PySem.W.subIn K (.ref CNoColumn) (.ref CNoColumn) = some true)
    (sub_NoColumn_NoTable : PySem.W.subIn K (.ref CNoColumn) (.ref CNoTable) = some false)
    (xtab : Z.excTab K CStoreError [CNoSchema, CTooMany, CFell, CNoTable, CNoOrder, CBadRow, CNoRow, CNoMake, COver, CBeaten, CNoQuestion, CNoColumn, CAlike, CWrongKind, CNoStep, CNoPlan, CNoLine] = true)
    (z_ValueError : PySem.W.nsIn K mainGlobals "ValueError" = some none)
    (z_abs : PySem.W.nsIn K mainGlobals "abs" = some none)
    (z_bool : PySem.W.nsIn K mainGlobals "bool" = some none)
    (z_enumerate : PySem.W.nsIn K mainGlobals "enumerate" = some none)
    (z_int : PySem.W.nsIn K mainGlobals "int" = some none)
    (z_isinstance : PySem.W.nsIn K mainGlobals "isinstance" = some none)
    (z_len : PySem.W.nsIn K mainGlobals "len" = some none)
    (z_list : PySem.W.nsIn K mainGlobals "list" = some none)
    (z_range : PySem.W.nsIn K mainGlobals "range" = some none)
    (z_str : PySem.W.nsIn K mainGlobals "str" = some none)
    (z_tuple : PySem.W.nsIn K mainGlobals "tuple" = some none)
    (z_zip : PySem.W.nsIn K mainGlobals "zip" = some none)
    (u_LETTERS : PySem.W.nsIn K mainGlobals "LETTERS" = some (some (.str "abcdefghijklmnopqrstuvwxyz" t_LETTERS)))
    (u_MOST_COLUMNS : PySem.W.nsIn K mainGlobals "MOST_COLUMNS" = some (some (.int (4) t_MOST_COLUMNS)))
    (u_MOST_NUMBER : PySem.W.nsIn K mainGlobals "MOST_NUMBER" = some (some (.int (1000000000) t_MOST_NUMBER)))
    (u_MOST_ORDERS : PySem.W.nsIn K mainGlobals "MOST_ORDERS" = some (some (.int (4) t_MOST_ORDERS)))
    (u_MOST_SIGNS : PySem.W.nsIn K mainGlobals "MOST_SIGNS" = some (some (.int (8) t_MOST_SIGNS)))
    (u_MOST_TABLES : PySem.W.nsIn K mainGlobals "MOST_TABLES" = some (some (.int (4) t_MOST_TABLES)))
    : ∃ fd : FuncData, (∀ (s : Shared) (v : Value), BindsTo s fd ⟨[v], []⟩ [("_law_script", v)]) ∧ ∀ base : Heap, K.In base → base.Ns mainGlobals mg → FnOk l.prog w K mg base CX0 7 fa fd ["_law_script"] (spLaw K) := by
  have e := hfa.symm.trans (PySem.W.mg_of X G a_law)
  cases e
  have T : Txt K mg { Schema := CSchema, StoreError := CStoreError, NoSchema := CNoSchema, TooMany := CTooMany, Fell := CFell, NoTable := CNoTable, NoOrder := CNoOrder, BadRow := CBadRow, NoRow := CNoRow, NoMake := CNoMake, Over := COver, Beaten := CBeaten, NoQuestion := CNoQuestion, NoColumn := CNoColumn, Alike := CAlike, WrongKind := CWrongKind, NoStep := CNoStep, NoPlan := CNoPlan, NoLine := CNoLine, f_is_whole := f_is_whole, f_is_name := f_is_name, f_is_kind := f_is_kind, f_is_value := f_is_value, f_is_row_of := f_is_row_of, f_need_pair := f_need_pair, f_columns_in := f_columns_in, f_tables_in := f_tables_in, f_orders_in := f_orders_in, f_Schema___init__ := f_Schema___init__, f_Schema_need_table := f_Schema_need_table, f_Schema_table_names := f_Schema_table_names, f_Schema_columns_of := f_Schema_columns_of, f_Schema_kind_of := f_Schema_kind_of, f_Schema_has_order := f_Schema_has_order, f_Schema_fits := f_Schema_fits, f_NoTable___init__ := f_NoTable___init__, f_NoOrder___init__ := f_NoOrder___init__, f_BadRow___init__ := f_BadRow___init__, f_NoRow___init__ := f_NoRow___init__, f_NoMake___init__ := f_NoMake___init__, f_Over___init__ := f_Over___init__, f_Beaten___init__ := f_Beaten___init__, f_NoQuestion___init__ := f_NoQuestion___init__, f_NoColumn___init__ := f_NoColumn___init__, f_Alike___init__ := f_Alike___init__, f_WrongKind___init__ := f_WrongKind___init__, f_NoStep___init__ := f_NoStep___init__, f_law_cell := f_law_cell, f_law_draws := f_law_draws, f_law_names := f_law_names, f_law_schema := f_law_schema, f_law_made := f_law_made, f_law_kinds := f_law_kinds, f_law_values := f_law_values, f_law_due := f_law_due, f_law_asked := f_law_asked, f_law_told := f_law_told, f_law_strange := f_law_strange, f_law := fa } := { c_Schema := ⟨pg_Schema, hd_Schema, po_Schema, sa_Schema⟩, g_Schema := PySem.W.mg_of X G a_Schema, n_Schema_columns := n_Schema_columns, n_Schema_kept_orders := n_Schema_kept_orders, g_StoreError := PySem.W.mg_of X G a_StoreError, g_NoSchema := PySem.W.mg_of X G a_NoSchema, g_TooMany := PySem.W.mg_of X G a_TooMany, g_Fell := PySem.W.mg_of X G a_Fell, g_NoTable := PySem.W.mg_of X G a_NoTable, g_NoOrder := PySem.W.mg_of X G a_NoOrder, g_BadRow := PySem.W.mg_of X G a_BadRow, g_NoRow := PySem.W.mg_of X G a_NoRow, g_NoMake := PySem.W.mg_of X G a_NoMake, g_Over := PySem.W.mg_of X G a_Over, g_Beaten := PySem.W.mg_of X G a_Beaten, g_NoQuestion := PySem.W.mg_of X G a_NoQuestion, g_NoColumn := PySem.W.mg_of X G a_NoColumn, g_Alike := PySem.W.mg_of X G a_Alike, g_WrongKind := PySem.W.mg_of X G a_WrongKind, g_NoStep := PySem.W.mg_of X G a_NoStep, g_NoPlan := PySem.W.mg_of X G a_NoPlan, g_NoLine := PySem.W.mg_of X G a_NoLine, d_is_whole := ⟨_, fun_mk (st := s_is_whole) l_is_whole c_is_whole k_is_whole, (fun_mk (st := s_is_whole) l_is_whole c_is_whole k_is_whole).binds (ps := ["thing"]) fun _ _ _ _ _ _ us hl => match us, hl with | [_], _ => rfl⟩, g_is_whole := PySem.W.mg_of X G a_is_whole, d_is_name := ⟨_, fun_mk (st := s_is_name) l_is_name c_is_name k_is_name, (fun_mk (st := s_is_name) l_is_name c_is_name k_is_name).binds (ps := ["thing"]) fun _ _ _ _ _ _ us hl => match us, hl with | [_], _ => rfl⟩, g_is_name := PySem.W.mg_of X G a_is_name, d_is_kind := ⟨_, fun_mk (st := s_is_kind) l_is_kind c_is_kind k_is_kind, (fun_mk (st := s_is_kind) l_is_kind c_is_kind k_is_kind).binds (ps := ["thing"]) fun _ _ _ _ _ _ us hl => match us, hl with | [_], _ => rfl⟩, g_is_kind := PySem.W.mg_of X G a_is_kind, d_is_value := ⟨_, fun_mk (st := s_is_value) l_is_value c_is_value k_is_value, (fun_mk (st := s_is_value) l_is_value c_is_value k_is_value).binds (ps := ["kind", "thing"]) fun _ _ _ _ _ _ us hl => match us, hl with | [_, _], _ => rfl⟩, g_is_value := PySem.W.mg_of X G a_is_value, d_is_row_of := ⟨_, fun_mk (st := s_is_row_of) l_is_row_of c_is_row_of k_is_row_of, (fun_mk (st := s_is_row_of) l_is_row_of c_is_row_of k_is_row_of).binds (ps := ["thing", "least", "most"]) fun _ _ _ _ _ _ us hl => match us, hl with | [_, _, _], _ => rfl⟩, g_is_row_of := PySem.W.mg_of X G a_is_row_of, d_need_pair := ⟨_, fun_mk (st := s_need_pair) l_need_pair c_need_pair k_need_pair, (fun_mk (st := s_need_pair) l_need_pair c_need_pair k_need_pair).binds (ps := ["thing"]) fun _ _ _ _ _ _ us hl => match us, hl with | [_], _ => rfl⟩, g_need_pair := PySem.W.mg_of X G a_need_pair, d_columns_in := ⟨_, fun_mk (st := s_columns_in) l_columns_in c_columns_in k_columns_in, (fun_mk (st := s_columns_in) l_columns_in c_columns_in k_columns_in).binds (ps := ["thing"]) fun _ _ _ _ _ _ us hl => match us, hl with | [_], _ => rfl⟩, g_columns_in := PySem.W.mg_of X G a_columns_in, d_tables_in := ⟨_, fun_mk (st := s_tables_in) l_tables_in c_tables_in k_tables_in, (fun_mk (st := s_tables_in) l_tables_in c_tables_in k_tables_in).binds (ps := ["thing"]) fun _ _ _ _ _ _ us hl => match us, hl with | [_], _ => rfl⟩, g_tables_in := PySem.W.mg_of X G a_tables_in, d_orders_in := ⟨_, fun_mk (st := s_orders_in) l_orders_in c_orders_in k_orders_in, (fun_mk (st := s_orders_in) l_orders_in c_orders_in k_orders_in).binds (ps := ["thing", "tables"]) fun _ _ _ _ _ _ us hl => match us, hl with | [_, _], _ => rfl⟩, g_orders_in := PySem.W.mg_of X G a_orders_in, d_Schema___init__ := FD.mk (st := s_Schema___init__) l_Schema___init__ c_Schema___init__ k_Schema___init__ lD_Schema___init__ (ps := ["self", "tables", "orders"]) (fun _ _ _ _ _ _ _ us its hl hi => match us, hl, its, hi with | [_, _, _], _, [_], _ => ⟨_, rfl, rfl⟩) (fun _ _ _ _ _ _ _ us its hl hi => match us, hl, its, hi with | [_, _], _, [_], _ => ⟨_, rfl, rfl⟩), mk_Schema := ⟨mk_Schema, a_Schema___init__, i_Schema___init__, kc_Schema⟩, d_Schema_need_table := ⟨_, fun_mk (st := s_Schema_need_table) l_Schema_need_table c_Schema_need_table k_Schema_need_table, (fun_mk (st := s_Schema_need_table) l_Schema_need_table c_Schema_need_table k_Schema_need_table).binds (ps := ["self", "table"]) fun _ _ _ _ _ _ us hl => match us, hl with | [_, _], _ => rfl⟩, m_Schema_need_table := ⟨a_Schema_need_table, i_Schema_need_table, k_Schema_need_table⟩, d_Schema_table_names := ⟨_, fun_mk (st := s_Schema_table_names) l_Schema_table_names c_Schema_table_names k_Schema_table_names, (fun_mk (st := s_Schema_table_names) l_Schema_table_names c_Schema_table_names k_Schema_table_names).binds (ps := ["self"]) fun _ _ _ _ _ _ us hl => match us, hl with | [_], _ => rfl⟩, m_Schema_table_names := ⟨a_Schema_table_names, i_Schema_table_names, k_Schema_table_names⟩, d_Schema_columns_of := ⟨_, fun_mk (st := s_Schema_columns_of) l_Schema_columns_of c_Schema_columns_of k_Schema_columns_of, (fun_mk (st := s_Schema_columns_of) l_Schema_columns_of c_Schema_columns_of k_Schema_columns_of).binds (ps := ["self", "table"]) fun _ _ _ _ _ _ us hl => match us, hl with | [_, _], _ => rfl⟩, m_Schema_columns_of := ⟨a_Schema_columns_of, i_Schema_columns_of, k_Schema_columns_of⟩, d_Schema_kind_of := ⟨_, fun_mk (st := s_Schema_kind_of) l_Schema_kind_of c_Schema_kind_of k_Schema_kind_of, (fun_mk (st := s_Schema_kind_of) l_Schema_kind_of c_Schema_kind_of k_Schema_kind_of).binds (ps := ["self", "table", "column"]) fun _ _ _ _ _ _ us hl => match us, hl with | [_, _, _], _ => rfl⟩, m_Schema_kind_of := ⟨a_Schema_kind_of, i_Schema_kind_of, k_Schema_kind_of⟩, d_Schema_has_order := ⟨_, fun_mk (st := s_Schema_has_order) l_Schema_has_order c_Schema_has_order k_Schema_has_order, (fun_mk (st := s_Schema_has_order) l_Schema_has_order c_Schema_has_order k_Schema_has_order).binds (ps := ["self", "table", "column"]) fun _ _ _ _ _ _ us hl => match us, hl with | [_, _, _], _ => rfl⟩, m_Schema_has_order := ⟨a_Schema_has_order, i_Schema_has_order, k_Schema_has_order⟩, d_Schema_fits := ⟨_, fun_mk (st := s_Schema_fits) l_Schema_fits c_Schema_fits k_Schema_fits, (fun_mk (st := s_Schema_fits) l_Schema_fits c_Schema_fits k_Schema_fits).binds (ps := ["self", "table", "row"]) fun _ _ _ _ _ _ us hl => match us, hl with | [_, _, _], _ => rfl⟩, m_Schema_fits := ⟨a_Schema_fits, i_Schema_fits, k_Schema_fits⟩, d_NoTable___init__ := ⟨_, fun_mk (st := s_NoTable___init__) l_NoTable___init__ c_NoTable___init__ k_NoTable___init__, (fun_mk (st := s_NoTable___init__) l_NoTable___init__ c_NoTable___init__ k_NoTable___init__).binds (ps := ["self", "table"]) fun _ _ _ _ _ _ us hl => match us, hl with | [_, _], _ => rfl⟩, iC_NoTable := a_NoTable___init__, tI_NoTable := tI_NoTable, d_NoOrder___init__ := ⟨_, fun_mk (st := s_NoOrder___init__) l_NoOrder___init__ c_NoOrder___init__ k_NoOrder___init__, (fun_mk (st := s_NoOrder___init__) l_NoOrder___init__ c_NoOrder___init__ k_NoOrder___init__).binds (ps := ["self", "table", "column"]) fun _ _ _ _ _ _ us hl => match us, hl with | [_, _, _], _ => rfl⟩, iC_NoOrder := a_NoOrder___init__, tI_NoOrder := tI_NoOrder, d_BadRow___init__ := ⟨_, fun_mk (st := s_BadRow___init__) l_BadRow___init__ c_BadRow___init__ k_BadRow___init__, (fun_mk (st := s_BadRow___init__) l_BadRow___init__ c_BadRow___init__ k_BadRow___init__).binds (ps := ["self", "table"]) fun _ _ _ _ _ _ us hl => match us, hl with | [_, _], _ => rfl⟩, iC_BadRow := a_BadRow___init__, tI_BadRow := tI_BadRow, d_NoRow___init__ := ⟨_, fun_mk (st := s_NoRow___init__) l_NoRow___init__ c_NoRow___init__ k_NoRow___init__, (fun_mk (st := s_NoRow___init__) l_NoRow___init__ c_NoRow___init__ k_NoRow___init__).binds (ps := ["self", "table", "key"]) fun _ _ _ _ _ _ us hl => match us, hl with | [_, _, _], _ => rfl⟩, iC_NoRow := a_NoRow___init__, tI_NoRow := tI_NoRow, d_NoMake___init__ := ⟨_, fun_mk (st := s_NoMake___init__) l_NoMake___init__ c_NoMake___init__ k_NoMake___init__, (fun_mk (st := s_NoMake___init__) l_NoMake___init__ c_NoMake___init__ k_NoMake___init__).binds (ps := ["self", "number"]) fun _ _ _ _ _ _ us hl => match us, hl with | [_, _], _ => rfl⟩, iC_NoMake := a_NoMake___init__, tI_NoMake := tI_NoMake, d_Over___init__ := ⟨_, fun_mk (st := s_Over___init__) l_Over___init__ c_Over___init__ k_Over___init__, (fun_mk (st := s_Over___init__) l_Over___init__ c_Over___init__ k_Over___init__).binds (ps := ["self", "number"]) fun _ _ _ _ _ _ us hl => match us, hl with | [_, _], _ => rfl⟩, iC_Over := a_Over___init__, tI_Over := tI_Over, d_Beaten___init__ := ⟨_, fun_mk (st := s_Beaten___init__) l_Beaten___init__ c_Beaten___init__ k_Beaten___init__, (fun_mk (st := s_Beaten___init__) l_Beaten___init__ c_Beaten___init__ k_Beaten___init__).binds (ps := ["self", "table", "key", "by"]) fun _ _ _ _ _ _ us hl => match us, hl with | [_, _, _, _], _ => rfl⟩, iC_Beaten := a_Beaten___init__, tI_Beaten := tI_Beaten, d_NoQuestion___init__ := ⟨_, fun_mk (st := s_NoQuestion___init__) l_NoQuestion___init__ c_NoQuestion___init__ k_NoQuestion___init__, (fun_mk (st := s_NoQuestion___init__) l_NoQuestion___init__ c_NoQuestion___init__ k_NoQuestion___init__).binds (ps := ["self", "place"]) fun _ _ _ _ _ _ us hl => match us, hl with | [_, _], _ => rfl⟩, iC_NoQuestion := a_NoQuestion___init__, tI_NoQuestion := tI_NoQuestion, d_NoColumn___init__ := ⟨_, fun_mk (st := s_NoColumn___init__) l_NoColumn___init__ c_NoColumn___init__ k_NoColumn___init__, (fun_mk (st := s_NoColumn___init__) l_NoColumn___init__ c_NoColumn___init__ k_NoColumn___init__).binds (ps := ["self", "name"]) fun _ _ _ _ _ _ us hl => match us, hl with | [_, _], _ => rfl⟩, iC_NoColumn := a_NoColumn___init__, tI_NoColumn := tI_NoColumn, d_Alike___init__ := ⟨_, fun_mk (st := s_Alike___init__) l_Alike___init__ c_Alike___init__ k_Alike___init__, (fun_mk (st := s_Alike___init__) l_Alike___init__ c_Alike___init__ k_Alike___init__).binds (ps := ["self", "name"]) fun _ _ _ _ _ _ us hl => match us, hl with | [_, _], _ => rfl⟩, iC_Alike := a_Alike___init__, tI_Alike := tI_Alike, d_WrongKind___init__ := ⟨_, fun_mk (st := s_WrongKind___init__) l_WrongKind___init__ c_WrongKind___init__ k_WrongKind___init__, (fun_mk (st := s_WrongKind___init__) l_WrongKind___init__ c_WrongKind___init__ k_WrongKind___init__).binds (ps := ["self", "name"]) fun _ _ _ _ _ _ us hl => match us, hl with | [_, _], _ => rfl⟩, iC_WrongKind := a_WrongKind___init__, tI_WrongKind := tI_WrongKind, d_NoStep___init__ := ⟨_, fun_mk (st := s_NoStep___init__) l_NoStep___init__ c_NoStep___init__ k_NoStep___init__, (fun_mk (st := s_NoStep___init__) l_NoStep___init__ c_NoStep___init__ k_NoStep___init__).binds (ps := ["self", "place"]) fun _ _ _ _ _ _ us hl => match us, hl with | [_, _], _ => rfl⟩, iC_NoStep := a_NoStep___init__, tI_NoStep := tI_NoStep, d_law_cell := ⟨_, fun_mk (st := s_law_cell) l_law_cell c_law_cell k_law_cell, (fun_mk (st := s_law_cell) l_law_cell c_law_cell k_law_cell).binds (ps := ["_law_script", "_law_k"]) fun _ _ _ _ _ _ us hl => match us, hl with | [_, _], _ => rfl⟩, g_law_cell := PySem.W.mg_of X G a_law_cell, d_law_draws := ⟨_, fun_mk (st := s_law_draws) l_law_draws c_law_draws k_law_draws, (fun_mk (st := s_law_draws) l_law_draws c_law_draws k_law_draws).binds (ps := ["_law_cell_here", "_law_many"]) fun _ _ _ _ _ _ us hl => match us, hl with | [_, _], _ => rfl⟩, g_law_draws := PySem.W.mg_of X G a_law_draws, d_law_names := ⟨_, fun_mk (st := s_law_names) l_law_names c_law_names k_law_names, (fun_mk (st := s_law_names) l_law_names c_law_names k_law_names).binds (ps := ["_law_cell_here", "_law_many"]) fun _ _ _ _ _ _ us hl => match us, hl with | [_, _], _ => rfl⟩, g_law_names := PySem.W.mg_of X G a_law_names, d_law_schema := ⟨_, fun_mk (st := s_law_schema) l_law_schema c_law_schema k_law_schema, (fun_mk (st := s_law_schema) l_law_schema c_law_schema k_law_schema).binds (ps := ["_law_cell_here"]) fun _ _ _ _ _ _ us hl => match us, hl with | [_], _ => rfl⟩, g_law_schema := PySem.W.mg_of X G a_law_schema, d_law_made := ⟨_, fun_mk (st := s_law_made) l_law_made c_law_made k_law_made, (fun_mk (st := s_law_made) l_law_made c_law_made k_law_made).binds (ps := ["_law_one", "_law_two", "_law_three"]) fun _ _ _ _ _ _ us hl => match us, hl with | [_, _, _], _ => rfl⟩, g_law_made := PySem.W.mg_of X G a_law_made, d_law_kinds := ⟨_, fun_mk (st := s_law_kinds) l_law_kinds c_law_kinds k_law_kinds, (fun_mk (st := s_law_kinds) l_law_kinds c_law_kinds k_law_kinds).binds (ps := ["_law_e"]) fun _ _ _ _ _ _ us hl => match us, hl with | [_], _ => rfl⟩, g_law_kinds := PySem.W.mg_of X G a_law_kinds, d_law_values := ⟨_, fun_mk (st := s_law_values) l_law_values c_law_values k_law_values, (fun_mk (st := s_law_values) l_law_values c_law_values k_law_values).binds (ps := ["_law_some"]) fun _ _ _ _ _ _ us hl => match us, hl with | [_], _ => rfl⟩, g_law_values := PySem.W.mg_of X G a_law_values, d_law_due := ⟨_, fun_mk (st := s_law_due) l_law_due c_law_due k_law_due, (fun_mk (st := s_law_due) l_law_due c_law_due k_law_due).binds (ps := ["_law_one", "_law_two", "_law_three"]) fun _ _ _ _ _ _ us hl => match us, hl with | [_, _, _], _ => rfl⟩, g_law_due := PySem.W.mg_of X G a_law_due, d_law_asked := ⟨_, fun_mk (st := s_law_asked) l_law_asked c_law_asked k_law_asked, (fun_mk (st := s_law_asked) l_law_asked c_law_asked k_law_asked).binds (ps := ["_law_schema_here", "_law_way", "_law_table", "_law_thing"]) fun _ _ _ _ _ _ us hl => match us, hl with | [_, _, _, _], _ => rfl⟩, g_law_asked := PySem.W.mg_of X G a_law_asked, d_law_told := ⟨_, fun_mk (st := s_law_told) l_law_told c_law_told k_law_told, (fun_mk (st := s_law_told) l_law_told c_law_told k_law_told).binds (ps := ["_law_schema_here", "_law_way", "_law_table", "_law_thing"]) fun _ _ _ _ _ _ us hl => match us, hl with | [_, _, _, _], _ => rfl⟩, g_law_told := PySem.W.mg_of X G a_law_told, d_law_strange := ⟨_, fun_mk (st := s_law_strange) l_law_strange c_law_strange k_law_strange, (fun_mk (st := s_law_strange) l_law_strange c_law_strange k_law_strange).binds (ps := ["_law_draw", "_law_names_here"]) fun _ _ _ _ _ _ us hl => match us, hl with | [_, _], _ => rfl⟩, g_law_strange := PySem.W.mg_of X G a_law_strange, d_law := ⟨_, fun_mk (st := s_law) l_law c_law k_law, (fun_mk (st := s_law) l_law c_law k_law).binds (ps := ["_law_script"]) fun _ _ _ _ _ _ us hl => match us, hl with | [_], _ => rfl⟩, g_law := PySem.W.mg_of X G a_law, xF_NoSchema := xF_NoSchema, kc_NoSchema := kc_NoSchema, xg_NoSchema := xg_NoSchema, xk_NoSchema := xk_NoSchema, xd_NoSchema := xd_NoSchema, xa_NoSchema := xa_NoSchema, xm_NoSchema := xm_NoSchema, xF_TooMany := xF_TooMany, kc_TooMany := kc_TooMany, xg_TooMany := xg_TooMany, xk_TooMany := xk_TooMany, xd_TooMany := xd_TooMany, xa_TooMany := xa_TooMany, xm_TooMany := xm_TooMany, xF_Fell := xF_Fell, kc_Fell := kc_Fell, xg_Fell := xg_Fell, xk_Fell := xk_Fell, xd_Fell := xd_Fell, xa_Fell := xa_Fell, xm_Fell := xm_Fell, xF_NoPlan := xF_NoPlan, kc_NoPlan := kc_NoPlan, xg_NoPlan := xg_NoPlan, xk_NoPlan := xk_NoPlan, xd_NoPlan := xd_NoPlan, xa_NoPlan := xa_NoPlan, xm_NoPlan := xm_NoPlan, xF_NoLine := xF_NoLine, kc_NoLine := kc_NoLine, xg_NoLine := xg_NoLine, xk_NoLine := xk_NoLine, xd_NoLine := xd_NoLine, xa_NoLine := xa_NoLine, xm_NoLine := xm_NoLine, oe_NoTable := oe_NoTable, os_NoTable := os_NoTable, kc_NoTable := kc_NoTable, xg_NoTable := xg_NoTable, xk_NoTable := xk_NoTable, xd_NoTable := xd_NoTable, xa_NoTable := xa_NoTable, xm_NoTable := xm_NoTable, xf_NoTable_table := xf_NoTable_table, oe_NoOrder := oe_NoOrder, os_NoOrder := os_NoOrder, kc_NoOrder := kc_NoOrder, xg_NoOrder := xg_NoOrder, xk_NoOrder := xk_NoOrder, xd_NoOrder := xd_NoOrder, xa_NoOrder := xa_NoOrder, xm_NoOrder := xm_NoOrder, xf_NoOrder_table := xf_NoOrder_table, xf_NoOrder_column := xf_NoOrder_column, oe_BadRow := oe_BadRow, os_BadRow := os_BadRow, kc_BadRow := kc_BadRow, xg_BadRow := xg_BadRow, xk_BadRow := xk_BadRow, xd_BadRow := xd_BadRow, xa_BadRow := xa_BadRow, xm_BadRow := xm_BadRow, xf_BadRow_table := xf_BadRow_table, oe_NoRow := oe_NoRow, os_NoRow := os_NoRow, kc_NoRow := kc_NoRow, xg_NoRow := xg_NoRow, xk_NoRow := xk_NoRow, xd_NoRow := xd_NoRow, xa_NoRow := xa_NoRow, xm_NoRow := xm_NoRow, xf_NoRow_table := xf_NoRow_table, xf_NoRow_key := xf_NoRow_key, oe_NoMake := oe_NoMake, os_NoMake := os_NoMake, kc_NoMake := kc_NoMake, xg_NoMake := xg_NoMake, xk_NoMake := xk_NoMake, xd_NoMake := xd_NoMake, xa_NoMake := xa_NoMake, xm_NoMake := xm_NoMake, xf_NoMake_number := xf_NoMake_number, oe_Over := oe_Over, os_Over := os_Over, kc_Over := kc_Over, xg_Over := xg_Over, xk_Over := xk_Over, xd_Over := xd_Over, xa_Over := xa_Over, xm_Over := xm_Over, xf_Over_number := xf_Over_number, oe_Beaten := oe_Beaten, os_Beaten := os_Beaten, kc_Beaten := kc_Beaten, xg_Beaten := xg_Beaten, xk_Beaten := xk_Beaten, xd_Beaten := xd_Beaten, xa_Beaten := xa_Beaten, xm_Beaten := xm_Beaten, xf_Beaten_table := xf_Beaten_table, xf_Beaten_key := xf_Beaten_key, xf_Beaten_by := xf_Beaten_by, oe_NoQuestion := oe_NoQuestion, os_NoQuestion := os_NoQuestion, kc_NoQuestion := kc_NoQuestion, xg_NoQuestion := xg_NoQuestion, xk_NoQuestion := xk_NoQuestion, xd_NoQuestion := xd_NoQuestion, xa_NoQuestion := xa_NoQuestion, xm_NoQuestion := xm_NoQuestion, xf_NoQuestion_place := xf_NoQuestion_place, oe_NoColumn := oe_NoColumn, os_NoColumn := os_NoColumn, kc_NoColumn := kc_NoColumn, xg_NoColumn := xg_NoColumn, xk_NoColumn := xk_NoColumn, xd_NoColumn := xd_NoColumn, xa_NoColumn := xa_NoColumn, xm_NoColumn := xm_NoColumn, xf_NoColumn_name := xf_NoColumn_name, oe_Alike := oe_Alike, os_Alike := os_Alike, kc_Alike := kc_Alike, xg_Alike := xg_Alike, xk_Alike := xk_Alike, xd_Alike := xd_Alike, xa_Alike := xa_Alike, xm_Alike := xm_Alike, xf_Alike_name := xf_Alike_name, oe_WrongKind := oe_WrongKind, os_WrongKind := os_WrongKind, kc_WrongKind := kc_WrongKind, xg_WrongKind := xg_WrongKind, xk_WrongKind := xk_WrongKind, xd_WrongKind := xd_WrongKind, xa_WrongKind := xa_WrongKind, xm_WrongKind := xm_WrongKind, xf_WrongKind_name := xf_WrongKind_name, oe_NoStep := oe_NoStep, os_NoStep := os_NoStep, kc_NoStep := kc_NoStep, xg_NoStep := xg_NoStep, xk_NoStep := xk_NoStep, xd_NoStep := xd_NoStep, xa_NoStep := xa_NoStep, xm_NoStep := xm_NoStep, xf_NoStep_place := xf_NoStep_place, xr_StoreError := xr_StoreError, xs_StoreError := xs_StoreError, xi_StoreError := xi_StoreError, sb_StoreError := sb_StoreError, cb_StoreError := cb_StoreError, tb_StoreError := tb_StoreError, sb_NoSchema := sb_NoSchema, cb_NoSchema := cb_NoSchema, tb_NoSchema := tb_NoSchema, sb_TooMany := sb_TooMany, cb_TooMany := cb_TooMany, tb_TooMany := tb_TooMany, sb_Fell := sb_Fell, cb_Fell := cb_Fell, tb_Fell := tb_Fell, sb_NoTable := sb_NoTable, cb_NoTable := cb_NoTable, tb_NoTable := tb_NoTable, sb_NoOrder := sb_NoOrder, cb_NoOrder := cb_NoOrder, tb_NoOrder := tb_NoOrder, sb_BadRow := sb_BadRow, cb_BadRow := cb_BadRow, tb_BadRow := tb_BadRow, sb_NoRow := sb_NoRow, cb_NoRow := cb_NoRow, tb_NoRow := tb_NoRow, sb_NoMake := sb_NoMake, cb_NoMake := cb_NoMake, tb_NoMake := tb_NoMake, sb_Over := sb_Over, cb_Over := cb_Over, tb_Over := tb_Over, sb_Beaten := sb_Beaten, cb_Beaten := cb_Beaten, tb_Beaten := tb_Beaten, sb_NoQuestion := sb_NoQuestion, cb_NoQuestion := cb_NoQuestion, tb_NoQuestion := tb_NoQuestion, sb_NoColumn := sb_NoColumn, cb_NoColumn := cb_NoColumn, tb_NoColumn := tb_NoColumn, sb_Alike := sb_Alike, cb_Alike := cb_Alike, tb_Alike := tb_Alike, sb_WrongKind := sb_WrongKind, cb_WrongKind := cb_WrongKind, tb_WrongKind := tb_WrongKind, sb_NoStep := sb_NoStep, cb_NoStep := cb_NoStep, tb_NoStep := tb_NoStep, sb_NoPlan := sb_NoPlan, cb_NoPlan := cb_NoPlan, tb_NoPlan := tb_NoPlan, sb_NoLine := sb_NoLine, cb_NoLine := cb_NoLine, tb_NoLine := tb_NoLine, xn := xn, xt := xt, sub_NoTable_NoTable := sub_NoTable_NoTable, sub_NoColumn_NoColumn := sub_NoColumn_NoColumn, sub_NoColumn_NoTable := sub_NoColumn_NoTable, xtab := xtab, b_ValueError := PySem.W.mg_none_of X G z_ValueError, b_abs := PySem.W.mg_none_of X G z_abs, b_bool := PySem.W.mg_none_of X G z_bool, b_enumerate := PySem.W.mg_none_of X G z_enumerate, b_int := PySem.W.mg_none_of X G z_int, b_isinstance := PySem.W.mg_none_of X G z_isinstance, b_len := PySem.W.mg_none_of X G z_len, b_list := PySem.W.mg_none_of X G z_list, b_range := PySem.W.mg_none_of X G z_range, b_str := PySem.W.mg_none_of X G z_str, b_tuple := PySem.W.mg_none_of X G z_tuple, b_zip := PySem.W.mg_none_of X G z_zip, v_LETTERS := ⟨t_LETTERS, PySem.W.mg_of X G u_LETTERS⟩, v_MOST_COLUMNS := ⟨t_MOST_COLUMNS, PySem.W.mg_of X G u_MOST_COLUMNS⟩, v_MOST_NUMBER := ⟨t_MOST_NUMBER, PySem.W.mg_of X G u_MOST_NUMBER⟩, v_MOST_ORDERS := ⟨t_MOST_ORDERS, PySem.W.mg_of X G u_MOST_ORDERS⟩, v_MOST_SIGNS := ⟨t_MOST_SIGNS, PySem.W.mg_of X G u_MOST_SIGNS⟩, v_MOST_TABLES := ⟨t_MOST_TABLES, PySem.W.mg_of X G u_MOST_TABLES⟩ }
  exact ⟨_, fun s v => .of_eq rfl, fun base _ _ => ok_law (fun_mk (st := s_law) l_law c_law k_law) T⟩
theorem walk {l : PySem.W.OpenLaw} {q : Program} {loose : List Str} {XP : (Str → Option Value) → Heap → Prop} {YP : World → Heap → Prop} {d : DefRec} {K : Params → PySem.W.Frag} (hn : l.most = some 63) (hdf : d.params.defaults = [])
    (hY : ∀ (w : World) (h : Heap), YP w h → (K w.params).In h)
    (F : ∀ (w : World) (mg : Str → Option Value) (fa : Addr) (h : Heap), (K w.params).In h → h.Ns mainGlobals mg → mg d.name = some (.ref fa) →
      ∃ fd : FuncData, (∀ (s : Shared) (u : Value), BindsTo s fd ⟨[u], []⟩ [("_law_script", u)]) ∧ ∀ base : Heap, (K w.params).In base → base.Ns mainGlobals mg → FnOk l.prog w (K w.params) mg base CX0 7 fa fd ["_law_script"] (spLaw (K w.params))) :
    PySem.W.WalkO q loose XP YP l.row.toRowW d [] (fun f vs => PySem.call f vs) :=
  L2.walk_of (n := 63) (k := 7) (x := "_law_script") (CX := fun _ => CX0) (sp := fun w => spLaw (K w.params)) hn (by decide) hdf ⟨rfl, by decide, by decide⟩ hY F (fun _ _ a ns hl _ hS => ⟨a, ns, rfl, hS, hl, fun _ => rfl⟩) fun _ _ _ _ _ z => z
end
end Toy
open PySem PySem.W PyProof.Rows in
set_option maxRecDepth 100000 in
set_option maxHeartbeats 0 in
theorem PySem.Challenge.cw_planstore_k05_refusals_apart_holds : PySem.Challenge.rw_planstore_k05_refusals_apart.Holds := by
  w_on; o_law; k_head; (case hw => w_witness2)
  k_fill
  refine Toy.walk (l := PySem.Challenge.rw_planstore_k05_refusals_apart) rfl rfl (fun w h Y => PySem.W.kIn_of Y) ?F
  case F =>
    intro w mg fa h KX G hmg
    refine' Toy.all_mk KX G hmg ?a_Schema ?pg_Schema ?hd_Schema ?po_Schema ?sa_Schema ?mk_Schema ?kc_Schema ?n_Schema_columns ?n_Schema_kept_orders ?a_StoreError ?a_NoSchema ?a_TooMany ?a_Fell ?a_NoTable ?a_NoOrder ?a_BadRow ?a_NoRow ?a_NoMake ?a_Over ?a_Beaten ?a_NoQuestion ?a_NoColumn ?a_Alike ?a_WrongKind ?a_NoStep ?a_NoPlan ?a_NoLine ?a_is_whole ?l_is_whole ?c_is_whole ?k_is_whole ?a_is_name ?l_is_name ?c_is_name ?k_is_name ?a_is_kind ?l_is_kind ?c_is_kind ?k_is_kind ?a_is_value ?l_is_value ?c_is_value ?k_is_value ?a_is_row_of ?l_is_row_of ?c_is_row_of ?k_is_row_of ?a_need_pair ?l_need_pair ?c_need_pair ?k_need_pair ?a_columns_in ?l_columns_in ?c_columns_in ?k_columns_in ?a_tables_in ?l_tables_in ?c_tables_in ?k_tables_in ?a_orders_in ?l_orders_in ?c_orders_in ?k_orders_in ?a_Schema___init__ ?i_Schema___init__ ?l_Schema___init__ ?c_Schema___init__ ?k_Schema___init__ ?lD_Schema___init__ ?a_Schema_need_table ?i_Schema_need_table ?l_Schema_need_table ?c_Schema_need_table ?k_Schema_need_table ?a_Schema_table_names ?i_Schema_table_names ?l_Schema_table_names ?c_Schema_table_names ?k_Schema_table_names ?a_Schema_columns_of ?i_Schema_columns_of ?l_Schema_columns_of ?c_Schema_columns_of ?k_Schema_columns_of ?a_Schema_kind_of ?i_Schema_kind_of ?l_Schema_kind_of ?c_Schema_kind_of ?k_Schema_kind_of ?a_Schema_has_order ?i_Schema_has_order ?l_Schema_has_order ?c_Schema_has_order ?k_Schema_has_order ?a_Schema_fits ?i_Schema_fits ?l_Schema_fits ?c_Schema_fits ?k_Schema_fits ?a_NoTable___init__ ?tI_NoTable ?l_NoTable___init__ ?c_NoTable___init__ ?k_NoTable___init__ ?a_NoOrder___init__ ?tI_NoOrder ?l_NoOrder___init__ ?c_NoOrder___init__ ?k_NoOrder___init__ ?a_BadRow___init__ ?tI_BadRow ?l_BadRow___init__ ?c_BadRow___init__ ?k_BadRow___init__ ?a_NoRow___init__ ?tI_NoRow ?l_NoRow___init__ ?c_NoRow___init__ ?k_NoRow___init__ ?a_NoMake___init__ ?tI_NoMake ?l_NoMake___init__ ?c_NoMake___init__ ?k_NoMake___init__ ?a_Over___init__ ?tI_Over ?l_Over___init__ ?c_Over___init__ ?k_Over___init__ ?a_Beaten___init__ ?tI_Beaten ?l_Beaten___init__ ?c_Beaten___init__ ?k_Beaten___init__ ?a_NoQuestion___init__ ?tI_NoQuestion ?l_NoQuestion___init__ ?c_NoQuestion___init__ ?k_NoQuestion___init__ ?a_NoColumn___init__ ?tI_NoColumn ?l_NoColumn___init__ ?c_NoColumn___init__ ?k_NoColumn___init__ ?a_Alike___init__ ?tI_Alike ?l_Alike___init__ ?c_Alike___init__ ?k_Alike___init__ ?a_WrongKind___init__ ?tI_WrongKind ?l_WrongKind___init__ ?c_WrongKind___init__ ?k_WrongKind___init__ ?a_NoStep___init__ ?tI_NoStep ?l_NoStep___init__ ?c_NoStep___init__ ?k_NoStep___init__ ?a_law_cell ?l_law_cell ?c_law_cell ?k_law_cell ?a_law_draws ?l_law_draws ?c_law_draws ?k_law_draws ?a_law_names ?l_law_names ?c_law_names ?k_law_names ?a_law_schema ?l_law_schema ?c_law_schema ?k_law_schema ?a_law_made ?l_law_made ?c_law_made ?k_law_made ?a_law_kinds ?l_law_kinds ?c_law_kinds ?k_law_kinds ?a_law_values ?l_law_values ?c_law_values ?k_law_values ?a_law_due ?l_law_due ?c_law_due ?k_law_due ?a_law_asked ?l_law_asked ?c_law_asked ?k_law_asked ?a_law_told ?l_law_told ?c_law_told ?k_law_told ?a_law_strange ?l_law_strange ?c_law_strange ?k_law_strange ?a_law ?l_law ?c_law ?k_law ?xF_NoSchema ?kc_NoSchema ?xg_NoSchema ?xk_NoSchema ?xd_NoSchema ?xa_NoSchema ?xm_NoSchema ?xF_TooMany ?kc_TooMany ?xg_TooMany ?xk_TooMany ?xd_TooMany ?xa_TooMany ?xm_TooMany ?xF_Fell ?kc_Fell ?xg_Fell ?xk_Fell ?xd_Fell ?xa_Fell ?xm_Fell ?xF_NoPlan ?kc_NoPlan ?xg_NoPlan ?xk_NoPlan ?xd_NoPlan ?xa_NoPlan ?xm_NoPlan ?xF_NoLine ?kc_NoLine ?xg_NoLine ?xk_NoLine ?xd_NoLine ?xa_NoLine ?xm_NoLine ?oe_NoTable ?os_NoTable ?kc_NoTable ?xg_NoTable ?xk_NoTable ?xd_NoTable ?xa_NoTable ?xm_NoTable ?xf_NoTable_table ?oe_NoOrder ?os_NoOrder ?kc_NoOrder ?xg_NoOrder ?xk_NoOrder ?xd_NoOrder ?xa_NoOrder ?xm_NoOrder ?xf_NoOrder_table ?xf_NoOrder_column ?oe_BadRow ?os_BadRow ?kc_BadRow ?xg_BadRow ?xk_BadRow ?xd_BadRow ?xa_BadRow ?xm_BadRow ?xf_BadRow_table ?oe_NoRow ?os_NoRow ?kc_NoRow ?xg_NoRow ?xk_NoRow ?xd_NoRow ?xa_NoRow ?xm_NoRow ?xf_NoRow_table ?xf_NoRow_key ?oe_NoMake ?os_NoMake ?kc_NoMake ?xg_NoMake ?xk_NoMake ?xd_NoMake ?xa_NoMake ?xm_NoMake ?xf_NoMake_number ?oe_Over ?os_Over ?kc_Over ?xg_Over ?xk_Over ?xd_Over ?xa_Over ?xm_Over ?xf_Over_number ?oe_Beaten ?os_Beaten ?kc_Beaten ?xg_Beaten ?xk_Beaten ?xd_Beaten ?xa_Beaten ?xm_Beaten ?xf_Beaten_table ?xf_Beaten_key ?xf_Beaten_by ?oe_NoQuestion ?os_NoQuestion ?kc_NoQuestion ?xg_NoQuestion ?xk_NoQuestion ?xd_NoQuestion ?xa_NoQuestion ?xm_NoQuestion ?xf_NoQuestion_place ?oe_NoColumn ?os_NoColumn ?kc_NoColumn ?xg_NoColumn ?xk_NoColumn ?xd_NoColumn ?xa_NoColumn ?xm_NoColumn ?xf_NoColumn_name ?oe_Alike ?os_Alike ?kc_Alike ?xg_Alike ?xk_Alike ?xd_Alike ?xa_Alike ?xm_Alike ?xf_Alike_name ?oe_WrongKind ?os_WrongKind ?kc_WrongKind ?xg_WrongKind ?xk_WrongKind ?xd_WrongKind ?xa_WrongKind ?xm_WrongKind ?xf_WrongKind_name ?oe_NoStep ?os_NoStep ?kc_NoStep ?xg_NoStep ?xk_NoStep ?xd_NoStep ?xa_NoStep ?xm_NoStep ?xf_NoStep_place ?xr_StoreError ?xs_StoreError ?xi_StoreError ?sb_StoreError ?cb_StoreError ?tb_StoreError ?sb_NoSchema ?cb_NoSchema ?tb_NoSchema ?sb_TooMany ?cb_TooMany ?tb_TooMany ?sb_Fell ?cb_Fell ?tb_Fell ?sb_NoTable ?cb_NoTable ?tb_NoTable ?sb_NoOrder ?cb_NoOrder ?tb_NoOrder ?sb_BadRow ?cb_BadRow ?tb_BadRow ?sb_NoRow ?cb_NoRow ?tb_NoRow ?sb_NoMake ?cb_NoMake ?tb_NoMake ?sb_Over ?cb_Over ?tb_Over ?sb_Beaten ?cb_Beaten ?tb_Beaten ?sb_NoQuestion ?cb_NoQuestion ?tb_NoQuestion ?sb_NoColumn ?cb_NoColumn ?tb_NoColumn ?sb_Alike ?cb_Alike ?tb_Alike ?sb_WrongKind ?cb_WrongKind ?tb_WrongKind ?sb_NoStep ?cb_NoStep ?tb_NoStep ?sb_NoPlan ?cb_NoPlan ?tb_NoPlan ?sb_NoLine ?cb_NoLine ?tb_NoLine ?xn ?xt ?sub_NoTable_NoTable ?sub_NoColumn_NoColumn ?sub_NoColumn_NoTable ?xtab ?z_ValueError ?z_abs ?z_bool ?z_enumerate ?z_int ?z_isinstance ?z_len ?z_list ?z_range ?z_str ?z_tuple ?z_zip ?u_LETTERS ?u_MOST_COLUMNS ?u_MOST_NUMBER ?u_MOST_ORDERS ?u_MOST_SIGNS ?u_MOST_TABLES
    (case a_Schema => k_is)
    (case pg_Schema => k_is)
    (case hd_Schema => k_is)
    (case po_Schema => k_is)
    (case sa_Schema => k_is)
    (case mk_Schema => k_is)
    (case kc_Schema => k_is)
    (case n_Schema_columns => k_is)
    (case n_Schema_kept_orders => k_is)
    (case a_StoreError => k_is)
    (case a_NoSchema => k_is)
    (case a_TooMany => k_is)
    (case a_Fell => k_is)
    (case a_NoTable => k_is)
    (case a_NoOrder => k_is)
    (case a_BadRow => k_is)
    (case a_NoRow => k_is)
    (case a_NoMake => k_is)
    (case a_Over => k_is)
    (case a_Beaten => k_is)
    (case a_NoQuestion => k_is)
    (case a_NoColumn => k_is)
    (case a_Alike => k_is)
    (case a_WrongKind => k_is)
    (case a_NoStep => k_is)
    (case a_NoPlan => k_is)
    (case a_NoLine => k_is)
    (case a_is_whole => k_is)
    (case l_is_whole => k_is)
    (case c_is_whole => k_is)
    (case k_is_whole => k_is)
    (case a_is_name => k_is)
    (case l_is_name => k_is)
    (case c_is_name => k_is)
    (case k_is_name => k_is)
    (case a_is_kind => k_is)
    (case l_is_kind => k_is)
    (case c_is_kind => k_is)
    (case k_is_kind => k_is)
    (case a_is_value => k_is)
    (case l_is_value => k_is)
    (case c_is_value => k_is)
    (case k_is_value => k_is)
    (case a_is_row_of => k_is)
    (case l_is_row_of => k_is)
    (case c_is_row_of => k_is)
    (case k_is_row_of => k_is)
    (case a_need_pair => k_is)
    (case l_need_pair => k_is)
    (case c_need_pair => k_is)
    (case k_need_pair => k_is)
    (case a_columns_in => k_is)
    (case l_columns_in => k_is)
    (case c_columns_in => k_is)
    (case k_columns_in => k_is)
    (case a_tables_in => k_is)
    (case l_tables_in => k_is)
    (case c_tables_in => k_is)
    (case k_tables_in => k_is)
    (case a_orders_in => k_is)
    (case l_orders_in => k_is)
    (case c_orders_in => k_is)
    (case k_orders_in => k_is)
    (case a_Schema___init__ => k_is)
    (case i_Schema___init__ => k_is)
    (case l_Schema___init__ => k_is)
    (case c_Schema___init__ => k_is)
    (case k_Schema___init__ => k_is)
    (case lD_Schema___init__ => k_is)
    (case a_Schema_need_table => k_is)
    (case i_Schema_need_table => k_is)
    (case l_Schema_need_table => k_is)
    (case c_Schema_need_table => k_is)
    (case k_Schema_need_table => k_is)
    (case a_Schema_table_names => k_is)
    (case i_Schema_table_names => k_is)
    (case l_Schema_table_names => k_is)
    (case c_Schema_table_names => k_is)
    (case k_Schema_table_names => k_is)
    (case a_Schema_columns_of => k_is)
    (case i_Schema_columns_of => k_is)
    (case l_Schema_columns_of => k_is)
    (case c_Schema_columns_of => k_is)
    (case k_Schema_columns_of => k_is)
    (case a_Schema_kind_of => k_is)
    (case i_Schema_kind_of => k_is)
    (case l_Schema_kind_of => k_is)
    (case c_Schema_kind_of => k_is)
    (case k_Schema_kind_of => k_is)
    (case a_Schema_has_order => k_is)
    (case i_Schema_has_order => k_is)
    (case l_Schema_has_order => k_is)
    (case c_Schema_has_order => k_is)
    (case k_Schema_has_order => k_is)
    (case a_Schema_fits => k_is)
    (case i_Schema_fits => k_is)
    (case l_Schema_fits => k_is)
    (case c_Schema_fits => k_is)
    (case k_Schema_fits => k_is)
    (case a_NoTable___init__ => k_is)
    (case tI_NoTable => k_is)
    (case l_NoTable___init__ => k_is)
    (case c_NoTable___init__ => k_is)
    (case k_NoTable___init__ => k_is)
    (case a_NoOrder___init__ => k_is)
    (case tI_NoOrder => k_is)
    (case l_NoOrder___init__ => k_is)
    (case c_NoOrder___init__ => k_is)
    (case k_NoOrder___init__ => k_is)
    (case a_BadRow___init__ => k_is)
    (case tI_BadRow => k_is)
    (case l_BadRow___init__ => k_is)
    (case c_BadRow___init__ => k_is)
    (case k_BadRow___init__ => k_is)
    (case a_NoRow___init__ => k_is)
    (case tI_NoRow => k_is)
    (case l_NoRow___init__ => k_is)
    (case c_NoRow___init__ => k_is)
    (case k_NoRow___init__ => k_is)
    (case a_NoMake___init__ => k_is)
    (case tI_NoMake => k_is)
    (case l_NoMake___init__ => k_is)
    (case c_NoMake___init__ => k_is)
    (case k_NoMake___init__ => k_is)
    (case a_Over___init__ => k_is)
    (case tI_Over => k_is)
    (case l_Over___init__ => k_is)
    (case c_Over___init__ => k_is)
    (case k_Over___init__ => k_is)
    (case a_Beaten___init__ => k_is)
    (case tI_Beaten => k_is)
    (case l_Beaten___init__ => k_is)
    (case c_Beaten___init__ => k_is)
    (case k_Beaten___init__ => k_is)
    (case a_NoQuestion___init__ => k_is)
    (case tI_NoQuestion => k_is)
    (case l_NoQuestion___init__ => k_is)
    (case c_NoQuestion___init__ => k_is)
    (case k_NoQuestion___init__ => k_is)
    (case a_NoColumn___init__ => k_is)
    (case tI_NoColumn => k_is)
    (case l_NoColumn___init__ => k_is)
    (case c_NoColumn___init__ => k_is)
    (case k_NoColumn___init__ => k_is)
    (case a_Alike___init__ => k_is)
    (case tI_Alike => k_is)
    (case l_Alike___init__ => k_is)
    (case c_Alike___init__ => k_is)
    (case k_Alike___init__ => k_is)
    (case a_WrongKind___init__ => k_is)
    (case tI_WrongKind => k_is)
    (case l_WrongKind___init__ => k_is)
    (case c_WrongKind___init__ => k_is)
    (case k_WrongKind___init__ => k_is)
    (case a_NoStep___init__ => k_is)
    (case tI_NoStep => k_is)
    (case l_NoStep___init__ => k_is)
    (case c_NoStep___init__ => k_is)
    (case k_NoStep___init__ => k_is)
    (case a_law_cell => k_is)
    (case l_law_cell => k_is)
    (case c_law_cell => k_is)
    (case k_law_cell => k_is)
    (case a_law_draws => k_is)
    (case l_law_draws => k_is)
    (case c_law_draws => k_is)
    (case k_law_draws => k_is)
    (case a_law_names => k_is)
    (case l_law_names => k_is)
    (case c_law_names => k_is)
    (case k_law_names => k_is)
    (case a_law_schema => k_is)
    (case l_law_schema => k_is)
    (case c_law_schema => k_is)
    (case k_law_schema => k_is)
    (case a_law_made => k_is)
    (case l_law_made => k_is)
    (case c_law_made => k_is)
    (case k_law_made => k_is)
    (case a_law_kinds => k_is)
    (case l_law_kinds => k_is)
    (case c_law_kinds => k_is)
    (case k_law_kinds => k_is)
    (case a_law_values => k_is)
    (case l_law_values => k_is)
    (case c_law_values => k_is)
    (case k_law_values => k_is)
    (case a_law_due => k_is)
    (case l_law_due => k_is)
    (case c_law_due => k_is)
    (case k_law_due => k_is)
    (case a_law_asked => k_is)
    (case l_law_asked => k_is)
    (case c_law_asked => k_is)
    (case k_law_asked => k_is)
    (case a_law_told => k_is)
    (case l_law_told => k_is)
    (case c_law_told => k_is)
    (case k_law_told => k_is)
    (case a_law_strange => k_is)
    (case l_law_strange => k_is)
    (case c_law_strange => k_is)
    (case k_law_strange => k_is)
    (case a_law => k_is)
    (case l_law => k_is)
    (case c_law => k_is)
    (case k_law => k_is)
    (case xF_NoSchema => k_exc)
    (case kc_NoSchema => k_is)
    (case xg_NoSchema => k_is)
    (case xk_NoSchema => k_is)
    (case xd_NoSchema => k_is)
    (case xa_NoSchema => k_is)
    (case xm_NoSchema => k_is)
    (case xF_TooMany => k_exc)
    (case kc_TooMany => k_is)
    (case xg_TooMany => k_is)
    (case xk_TooMany => k_is)
    (case xd_TooMany => k_is)
    (case xa_TooMany => k_is)
    (case xm_TooMany => k_is)
    (case xF_Fell => k_exc)
    (case kc_Fell => k_is)
    (case xg_Fell => k_is)
    (case xk_Fell => k_is)
    (case xd_Fell => k_is)
    (case xa_Fell => k_is)
    (case xm_Fell => k_is)
    (case xF_NoPlan => k_exc)
    (case kc_NoPlan => k_is)
    (case xg_NoPlan => k_is)
    (case xk_NoPlan => k_is)
    (case xd_NoPlan => k_is)
    (case xa_NoPlan => k_is)
    (case xm_NoPlan => k_is)
    (case xF_NoLine => k_exc)
    (case kc_NoLine => k_is)
    (case xg_NoLine => k_is)
    (case xk_NoLine => k_is)
    (case xd_NoLine => k_is)
    (case xa_NoLine => k_is)
    (case xm_NoLine => k_is)
    (case oe_NoTable => kernel_rfl)
    (case os_NoTable => k_is)
    (case kc_NoTable => k_is)
    (case xg_NoTable => k_is)
    (case xk_NoTable => k_is)
    (case xd_NoTable => k_is)
    (case xa_NoTable => k_is)
    (case xm_NoTable => k_is)
    (case xf_NoTable_table => k_is)
    (case oe_NoOrder => kernel_rfl)
    (case os_NoOrder => k_is)
    (case kc_NoOrder => k_is)
    (case xg_NoOrder => k_is)
    (case xk_NoOrder => k_is)
    (case xd_NoOrder => k_is)
    (case xa_NoOrder => k_is)
    (case xm_NoOrder => k_is)
    (case xf_NoOrder_table => k_is)
    (case xf_NoOrder_column => k_is)
    (case oe_BadRow => kernel_rfl)
    (case os_BadRow => k_is)
    (case kc_BadRow => k_is)
    (case xg_BadRow => k_is)
    (case xk_BadRow => k_is)
    (case xd_BadRow => k_is)
    (case xa_BadRow => k_is)
    (case xm_BadRow => k_is)
    (case xf_BadRow_table => k_is)
    (case oe_NoRow => kernel_rfl)
    (case os_NoRow => k_is)
    (case kc_NoRow => k_is)
    (case xg_NoRow => k_is)
    (case xk_NoRow => k_is)
    (case xd_NoRow => k_is)
    (case xa_NoRow => k_is)
    (case xm_NoRow => k_is)
    (case xf_NoRow_table => k_is)
    (case xf_NoRow_key => k_is)
    (case oe_NoMake => kernel_rfl)
    (case os_NoMake => k_is)
    (case kc_NoMake => k_is)
    (case xg_NoMake => k_is)
    (case xk_NoMake => k_is)
    (case xd_NoMake => k_is)
    (case xa_NoMake => k_is)
    (case xm_NoMake => k_is)
    (case xf_NoMake_number => k_is)
    (case oe_Over => kernel_rfl)
    (case os_Over => k_is)
    (case kc_Over => k_is)
    (case xg_Over => k_is)
    (case xk_Over => k_is)
    (case xd_Over => k_is)
    (case xa_Over => k_is)
    (case xm_Over => k_is)
    (case xf_Over_number => k_is)
    (case oe_Beaten => kernel_rfl)
    (case os_Beaten => k_is)
    (case kc_Beaten => k_is)
    (case xg_Beaten => k_is)
    (case xk_Beaten => k_is)
    (case xd_Beaten => k_is)
    (case xa_Beaten => k_is)
    (case xm_Beaten => k_is)
    (case xf_Beaten_table => k_is)
    (case xf_Beaten_key => k_is)
    (case xf_Beaten_by => k_is)
    (case oe_NoQuestion => kernel_rfl)
    (case os_NoQuestion => k_is)
    (case kc_NoQuestion => k_is)
    (case xg_NoQuestion => k_is)
    (case xk_NoQuestion => k_is)
    (case xd_NoQuestion => k_is)
    (case xa_NoQuestion => k_is)
    (case xm_NoQuestion => k_is)
    (case xf_NoQuestion_place => k_is)
    (case oe_NoColumn => kernel_rfl)
    (case os_NoColumn => k_is)
    (case kc_NoColumn => k_is)
    (case xg_NoColumn => k_is)
    (case xk_NoColumn => k_is)
    (case xd_NoColumn => k_is)
    (case xa_NoColumn => k_is)
    (case xm_NoColumn => k_is)
    (case xf_NoColumn_name => k_is)
    (case oe_Alike => kernel_rfl)
    (case os_Alike => k_is)
    (case kc_Alike => k_is)
    (case xg_Alike => k_is)
    (case xk_Alike => k_is)
    (case xd_Alike => k_is)
    (case xa_Alike => k_is)
    (case xm_Alike => k_is)
    (case xf_Alike_name => k_is)
    (case oe_WrongKind => kernel_rfl)
    (case os_WrongKind => k_is)
    (case kc_WrongKind => k_is)
    (case xg_WrongKind => k_is)
    (case xk_WrongKind => k_is)
    (case xd_WrongKind => k_is)
    (case xa_WrongKind => k_is)
    (case xm_WrongKind => k_is)
    (case xf_WrongKind_name => k_is)
    (case oe_NoStep => kernel_rfl)
    (case os_NoStep => k_is)
    (case kc_NoStep => k_is)
    (case xg_NoStep => k_is)
    (case xk_NoStep => k_is)
    (case xd_NoStep => k_is)
    (case xa_NoStep => k_is)
    (case xm_NoStep => k_is)
    (case xf_NoStep_place => k_is)
    (case xr_StoreError => k_is)
    (case xs_StoreError => k_is)
    (case xi_StoreError => k_is)
    (case sb_StoreError => k_is)
    (case cb_StoreError => k_is)
    (case tb_StoreError => k_is)
    (case sb_NoSchema => k_is)
    (case cb_NoSchema => k_is)
    (case tb_NoSchema => k_is)
    (case sb_TooMany => k_is)
    (case cb_TooMany => k_is)
    (case tb_TooMany => k_is)
    (case sb_Fell => k_is)
    (case cb_Fell => k_is)
    (case tb_Fell => k_is)
    (case sb_NoTable => k_is)
    (case cb_NoTable => k_is)
    (case tb_NoTable => k_is)
    (case sb_NoOrder => k_is)
    (case cb_NoOrder => k_is)
    (case tb_NoOrder => k_is)
    (case sb_BadRow => k_is)
    (case cb_BadRow => k_is)
    (case tb_BadRow => k_is)
    (case sb_NoRow => k_is)
    (case cb_NoRow => k_is)
    (case tb_NoRow => k_is)
    (case sb_NoMake => k_is)
    (case cb_NoMake => k_is)
    (case tb_NoMake => k_is)
    (case sb_Over => k_is)
    (case cb_Over => k_is)
    (case tb_Over => k_is)
    (case sb_Beaten => k_is)
    (case cb_Beaten => k_is)
    (case tb_Beaten => k_is)
    (case sb_NoQuestion => k_is)
    (case cb_NoQuestion => k_is)
    (case tb_NoQuestion => k_is)
    (case sb_NoColumn => k_is)
    (case cb_NoColumn => k_is)
    (case tb_NoColumn => k_is)
    (case sb_Alike => k_is)
    (case cb_Alike => k_is)
    (case tb_Alike => k_is)
    (case sb_WrongKind => k_is)
    (case cb_WrongKind => k_is)
    (case tb_WrongKind => k_is)
    (case sb_NoStep => k_is)
    (case cb_NoStep => k_is)
    (case tb_NoStep => k_is)
    (case sb_NoPlan => k_is)
    (case cb_NoPlan => k_is)
    (case tb_NoPlan => k_is)
    (case sb_NoLine => k_is)
    (case cb_NoLine => k_is)
    (case tb_NoLine => k_is)
    (case xn => k_is)
    (case xt => k_is)
    (case sub_NoTable_NoTable => k_is)
    (case sub_NoColumn_NoColumn => k_is)
    (case sub_NoColumn_NoTable => k_is)
    (case xtab => kernel_rfl)
    (case z_ValueError => k_is)
    (case z_abs => k_is)
    (case z_bool => k_is)
    (case z_enumerate => k_is)
    (case z_int => k_is)
    (case z_isinstance => k_is)
    (case z_len => k_is)
    (case z_list => k_is)
    (case z_range => k_is)
    (case z_str => k_is)
    (case z_tuple => k_is)
    (case z_zip => k_is)
    (case u_LETTERS => k_is)
    (case u_MOST_COLUMNS => k_is)
    (case u_MOST_NUMBER => k_is)
    (case u_MOST_ORDERS => k_is)
    (case u_MOST_SIGNS => k_is)
    (case u_MOST_TABLES => k_is)
