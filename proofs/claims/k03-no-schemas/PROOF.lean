import PyProof.Rows.All
import Wide.All
import OpenK.AllK
import Wide.FinOn
import HandS.ForMost
import HandS.WideBits
import HandS.RaiseMore
import HandS.IsInst
import HandS.TryOnly
import HandS.Exc
import HandS.Evl
import HandS.TupLe
import HandS.TupAny
import HandS.Walk
import HandS.Deep
import HandS.ListItems
import HandS.Conv
import HandS.Defaults
import HandS.Zip
import HandS.More
import HandS.ExcOwn
import HandS.ExcIs
import HandS.WordsExc
import PySem.Challenge.RW_planstore_k03_no_schemas
set_option Elab.async false
set_option linter.all false
set_option maxRecDepth 100000
set_option maxHeartbeats 40000000
/-! ### the state of a def: blocks of objects that are ours, over a frame that stands still -/
namespace Z
open PySem L2
structure Hs (L : List (Addr × HO)) (F H : Hp) : Prop where
  nd : (L.map (·.1)).Nodup
  own : ∀ p o, (p, o) ∈ L → H p = some o ∧ F p = none
  fr : ∀ b o, F b = some o → H b = some o
/-- every cell of the block stands -/
def Sees (b : List (Addr × HO)) (H : Hp) : Prop := ∀ p o, (p, o) ∈ b → H p = some o
theorem Sees.same {b : List (Addr × HO)} {H H' : Hp} (s : Sees b H) (e : Same H H') : Sees b H' := fun p o m => e p o (s p o m)
theorem Sees.at {b : List (Addr × HO)} {H : Hp} (s : Sees b H) (i : Nat) {p : Addr} {o : HO} (h : b[i]? = some (p, o)) : H p = some o := s p o (List.mem_of_getElem? h)
section
variable {L L1 L2 : List (Addr × HO)} {F H H' : Hp} {p : Addr} {o o' : HO}
theorem Hs.same (S : Hs L F H) : Same F H := S.fr
theorem Hs.sees (S : Hs L F H) : Sees L H := fun p o m => (S.own p o m).1
theorem Hs.at (S : Hs L F H) (i : Nat) (h : L[i]? = some (p, o)) : H p = some o := S.sees.at i h
theorem Hs.nil : Hs [] H H := ⟨List.nodup_nil, fun _ _ m => (nomatch m), fun _ _ e => e⟩
theorem Hs.ext (S : Hs L F H) (e : Same H H') : Hs L F H' := ⟨S.nd, fun p o m => ⟨e p o (S.own p o m).1, (S.own p o m).2⟩, fun b o q => e b o (S.fr b o q)⟩
theorem Hs.fresh (S : Hs L F H) (hp : H p = none) : p ∉ L.map (·.1) ∧ F p = none := by
  refine ⟨fun m => ?_, ?_⟩
  · obtain ⟨⟨q, u⟩, m, e⟩ := List.mem_map.mp m
    have h := (S.own q u m).1
    have e' : q = p := e
    rw [e', hp] at h
    cases h
  · cases h : F p with
    | none => rfl
    | some u => rw [S.fr p u h] at hp; cases hp
theorem same_new (hp : H p = none) : Same H (upd H p o) := fun b u e => by rw [upd_ne (ne_of_none e hp)]; exact e
theorem Hs.add (S : Hs L F H) (e : Same H H') (hp : H p = none) (h : H' p = some o) : Hs ((p, o) :: L) F H' := by
  obtain ⟨h1, h2⟩ := S.fresh hp
  refine ⟨List.nodup_cons.mpr ⟨h1, S.nd⟩, fun q u m => ?_, fun b u q => e b u (S.fr b u q)⟩
  rcases List.mem_cons.mp m with m | m
  · cases m
    exact ⟨h, h2⟩
  · exact ⟨e q u (S.own q u m).1, (S.own q u m).2⟩
theorem Hs.new (S : Hs L F H) (hp : H p = none) : Hs ((p, o) :: L) F (upd H p o) := S.add (same_new hp) hp upd_same
theorem Hs.head (S : Hs ((p, o) :: L) F H) (o' : HO) : Hs ((p, o') :: L) F (upd H p o') := by
  have nd := S.nd
  rw [List.map_cons, List.nodup_cons] at nd
  refine ⟨by rw [List.map_cons, List.nodup_cons]; exact nd, fun q u m => ?_, fun b u q => ?_⟩
  · rcases List.mem_cons.mp m with m | m
    · cases m
      exact ⟨upd_same, (S.own p o List.mem_cons_self).2⟩
    · have hne : q ≠ p := fun e => nd.1 (List.mem_map.mpr ⟨(q, u), m, e⟩)
      have h := S.own q u (List.mem_cons_of_mem _ m)
      exact ⟨by rw [upd_ne hne]; exact h.1, h.2⟩
  · have hne : b ≠ p := fun e => by
      have := (S.own p o List.mem_cons_self).2
      rw [e, this] at q
      cases q
    rw [upd_ne hne]
    exact S.fr b u q
theorem Hs.perm (S : Hs L F H) (e : L.Perm L1) : Hs L1 F H := ⟨(e.map _).nodup_iff.mp S.nd, fun p o m => S.own p o (e.mem_iff.mpr m), S.fr⟩
theorem set_perm : ∀ {L : List (Addr × HO)} {i : Nat} {x : Addr × HO}, L[i]? = some x → ∀ y, (L.set i y).Perm (y :: L.eraseIdx i)
  | [], i, x, h, y => by simp at h
  | a :: r, 0, x, h, y => List.Perm.refl _
  | a :: r, i + 1, x, h, y => by
    have ih := set_perm (L := r) (i := i) (x := x) (by simpa using h) y
    exact (List.Perm.cons a ih).trans (List.Perm.swap _ _ _)
theorem self_perm {L : List (Addr × HO)} {i : Nat} {x : Addr × HO} (h : L[i]? = some x) : L.Perm (x :: L.eraseIdx i) := by
  have e := set_perm h x
  have : L.set i x = L := by
    obtain ⟨h1, h2⟩ := List.getElem?_eq_some_iff.mp h
    rw [← h2]
    exact List.set_getElem_self h1
  rw [this] at e
  exact e
theorem Hs.set (S : Hs L F H) (i : Nat) (h : L[i]? = some (p, o)) (o' : HO) : Hs (L.set i (p, o')) F (upd H p o') :=
  ((S.perm (self_perm h)).head o').perm (set_perm h (p, o')).symm
theorem Hs.sub (S : Hs L F H) (e : L1.Sublist L) : Hs L1 F H := ⟨(e.map _).nodup S.nd, fun p o m => S.own p o (e.subset m), S.fr⟩
/-- some cells, by their places, in any order -/
theorem Hs.pick (S : Hs L F H) : ∀ (is : List Nat) {L' : List (Addr × HO)}, is.Nodup → is.map (fun i => L[i]?) = L'.map some → Hs L' F H
  | is, L', hn, h => by
    have mem : ∀ x ∈ L', ∃ i ∈ is, L[i]? = some x := fun x hx => by
      have : some x ∈ is.map (fun i => L[i]?) := by rw [h]; exact List.mem_map.mpr ⟨x, hx, rfl⟩
      obtain ⟨i, hi, e⟩ := List.mem_map.mp this
      exact ⟨i, hi, e⟩
    refine ⟨?_, fun p o m => ?_, S.fr⟩
    · clear mem
      induction is generalizing L' with
      | nil =>
        cases L' with
        | nil => exact List.nodup_nil
        | cons a r => cases h
      | cons i is ih =>
        cases L' with
        | nil => cases h
        | cons a r =>
          rw [List.map_cons, List.map_cons, List.cons.injEq] at h
          obtain ⟨h1, h2⟩ := h
          rw [List.nodup_cons] at hn
          rw [List.map_cons, List.nodup_cons]
          refine ⟨fun m => ?_, ih r hn.2 h2⟩
          obtain ⟨b, hb, e⟩ := List.mem_map.mp m
          have : some b ∈ is.map (fun i => L[i]?) := by rw [h2]; exact List.mem_map.mpr ⟨b, hb, rfl⟩
          obtain ⟨j, hj, e2⟩ := List.mem_map.mp this
          have f1 : (L.map (·.1))[i]? = some a.1 := by rw [List.getElem?_map, h1]; rfl
          have f2 : (L.map (·.1))[j]? = some b.1 := by rw [List.getElem?_map]; show Option.map _ (L[j]?) = _; rw [e2]; rfl
          rw [e] at f2
          have : i = j := nd_ix S.nd f1 f2
          rw [this] at hn
          exact hn.1 hj
    · obtain ⟨i, _, e⟩ := mem _ m
      exact S.own p o (List.mem_of_getElem? e)
/-- what stands beside L1 goes into the frame, and comes back behind -/
theorem Hs.split (S : Hs (L1 ++ L2) F H) : ∃ F', Hs L1 F' H ∧ (Same F F' ∧ Sees L2 F') ∧ ∀ L' H', Hs L' F' H' → Hs (L' ++ L2) F H' := by
  have nd := S.nd
  rw [List.map_append, List.nodup_append] at nd
  obtain ⟨n1, n2, n3⟩ := nd
  have key : ∀ p o, (p, o) ∈ L2 → List.lookup p L2 = some o := by
    clear S n3
    induction L2 with
    | nil => intro p o m; cases m
    | cons a r ih =>
      intro p o m
      rw [List.map_cons, List.nodup_cons] at n2
      obtain ⟨q, u⟩ := a
      rcases List.mem_cons.mp m with m | m
      · cases m
        simp [List.lookup]
      · have hne : p ≠ q := fun e => n2.1 (List.mem_map.mpr ⟨(p, o), m, e⟩)
        have hb : (p == q) = false := by simpa using hne
        simp only [List.lookup, hb]
        exact ih n2.2 p o m
  have back : ∀ p o, List.lookup p L2 = some o → (p, o) ∈ L2 := by
    clear S n3 n2 key
    induction L2 with
    | nil => intro p o m; cases m
    | cons a r ih =>
      intro p o m
      obtain ⟨q, u⟩ := a
      by_cases e : p = q
      · subst e
        simp [List.lookup] at m
        subst m
        exact List.mem_cons_self
      · have hb : (p == q) = false := by simpa using e
        simp only [List.lookup, hb] at m
        exact List.mem_cons_of_mem _ (ih p o m)
  refine ⟨fun b => (List.lookup b L2).or (F b), ⟨n1, fun p o m => ⟨(S.own p o (List.mem_append_left _ m)).1, ?_⟩, fun b o q => ?_⟩, ⟨fun b o q => ?_, fun p o m => by simp [key p o m]⟩, fun L' H' S' => ⟨?_, fun p o m => ?_, fun b o q => ?_⟩⟩
  · cases h : List.lookup p L2 with
    | none => exact (S.own p o (List.mem_append_left _ m)).2
    | some u => exact absurd rfl (n3 p (List.mem_map.mpr ⟨_, m, rfl⟩) p (List.mem_map.mpr ⟨_, back p u h, rfl⟩))
  · cases h : List.lookup b L2 with
    | none =>
      have q' : F b = some o := by simpa [h] using q
      exact S.fr b o q'
    | some u =>
      have q' : u = o := by simpa [h] using q
      subst q'
      exact (S.own b u (List.mem_append_right _ (back b u h))).1
  · show (List.lookup b L2).or (F b) = some o
    cases h : List.lookup b L2 with
    | none => exact q
    | some u => rw [(S.own b u (List.mem_append_right _ (back b u h))).2] at q; cases q
  · rw [List.map_append, List.nodup_append]
    refine ⟨S'.nd, n2, fun a ha b hb e => ?_⟩
    subst e
    obtain ⟨⟨q, u⟩, m, rfl⟩ := List.mem_map.mp ha
    obtain ⟨⟨q', u'⟩, m', e⟩ := List.mem_map.mp hb
    have e' : q' = q := e
    subst e'
    have h := (S'.own _ u m).2
    simp [key _ u' m'] at h
  · rcases List.mem_append.mp m with m | m
    · obtain ⟨h1, h2⟩ := S'.own p o m
      refine ⟨h1, ?_⟩
      cases h : List.lookup p L2 with
      | none => simpa [h] using h2
      | some u => simp [h] at h2
    · exact ⟨S'.fr p o (by simp [key p o m]), (S.own p o (List.mem_append_right _ m)).2⟩
  · refine S'.fr b o ?_
    show (List.lookup b L2).or (F b) = some o
    cases h : List.lookup b L2 with
    | none => exact q
    | some u => rw [(S.own b u (List.mem_append_right _ (back b u h))).2] at q; cases q
theorem flat_perm : ∀ {Ls : List (List (Addr × HO))} {i : Nat} {b : List (Addr × HO)}, Ls[i]? = some b → ∀ c, (Ls.set i c).flatten.Perm (c ++ (Ls.eraseIdx i).flatten)
  | [], i, b, h, c => by simp at h
  | a :: r, 0, b, h, c => List.Perm.refl _
  | a :: r, i + 1, b, h, c => by
    have ih := flat_perm (Ls := r) (i := i) (b := b) (by simpa using h) c
    show (a ++ (r.set i c).flatten).Perm (c ++ (a ++ (r.eraseIdx i).flatten))
    refine (List.Perm.append_left a ih).trans ?_
    rw [← List.append_assoc, ← List.append_assoc]
    exact List.Perm.append_right _ List.perm_append_comm
theorem set_self {α : Type} {Ls : List α} {i : Nat} {b : α} (h : Ls[i]? = some b) : Ls.set i b = Ls := by
  obtain ⟨h1, h2⟩ := List.getElem?_eq_some_iff.mp h
  rw [← h2]
  exact List.set_getElem_self h1
/-- the i-th block taken out, changed, put back -/
theorem Hs.block {Ls : List (List (Addr × HO))} (S : Hs Ls.flatten F H) (i : Nat) {b : List (Addr × HO)} (h : Ls[i]? = some b) :
    ∃ F', Hs b F' H ∧ (Same F F' ∧ Sees (Ls.eraseIdx i).flatten F') ∧ ∀ c H', Hs c F' H' → Hs (Ls.set i c).flatten F H' := by
  have p := flat_perm h b
  rw [set_self h] at p
  obtain ⟨F', S', sm, k⟩ := (S.perm p).split
  exact ⟨F', S', sm, fun c H' q => (k c H' q).perm (flat_perm h c).symm⟩
/-- another block in the stead of the i-th -/
theorem Hs.swap {Ls : List (List (Addr × HO))} {c : List (Addr × HO)} (S : Hs (c ++ Ls.flatten) F H) (i : Nat) {b : List (Addr × HO)} (h : Ls[i]? = some b) : Hs (Ls.set i c).flatten F H := by
  have p := flat_perm h b
  rw [set_self h] at p
  have S1 : Hs (c ++ (b ++ (Ls.eraseIdx i).flatten)) F H := S.perm (List.Perm.append_left c p)
  exact (S1.sub (List.Sublist.append_left (List.sublist_append_right _ _) c)).perm (flat_perm h c).symm
theorem Hs.join {new : List (Addr × HO)} (N : Hs new H H') (S : Hs L F H) : Hs (new ++ L) F H' := by
  refine ⟨?_, fun p o m => ?_, fun b o q => N.fr b o (S.fr b o q)⟩
  · rw [List.map_append, List.nodup_append]
    refine ⟨N.nd, S.nd, fun a ha b hb e => ?_⟩
    subst e
    obtain ⟨⟨q, u⟩, m, rfl⟩ := List.mem_map.mp ha
    obtain ⟨⟨q', u'⟩, m', e⟩ := List.mem_map.mp hb
    have e' : q' = q := e
    subst e'
    have h1 := (N.own _ u m).2
    rw [(S.own _ u' m').1] at h1
    cases h1
  · rcases List.mem_append.mp m with m | m
    · obtain ⟨h1, h2⟩ := N.own p o m
      refine ⟨h1, ?_⟩
      cases h : F p with
      | none => rfl
      | some u => rw [S.fr p u h] at h2; cases h2
    · obtain ⟨h1, h2⟩ := S.own p o m
      exact ⟨N.fr p o h1, h2⟩
theorem Hs.base {F0 : Hp} (S : Hs L F H) (e : Same F0 F) : Hs L F0 H := ⟨S.nd, fun p o m => ⟨(S.own p o m).1, e.free (S.own p o m).2⟩, fun b o q => S.fr b o (e b o q)⟩
/-- all else into the frame -/
theorem Hs.all (S : Hs L F H) : ∃ F', Hs L F' H ∧ (∀ b o, b ∉ L.map (·.1) → H b = some o → F' b = some o) ∧ Same F F' := by
  refine ⟨fun b => if b ∈ L.map (·.1) then none else H b, ⟨S.nd, fun p o m => ⟨(S.own p o m).1, if_pos (List.mem_map.mpr ⟨_, m, rfl⟩)⟩, fun b o q => ?_⟩, fun b o h q => (if_neg h).trans q, fun b o q => ?_⟩
  · by_cases h : b ∈ L.map (·.1)
    · rw [if_pos h] at q; cases q
    · rwa [if_neg h] at q
  · have h : b ∉ L.map (·.1) := fun h => by
      obtain ⟨⟨p, u⟩, m, e⟩ := List.mem_map.mp h
      have e' : p = b := e
      rw [← e', (S.own p u m).2] at q
      cases q
    exact (if_neg h).trans (S.fr b o q)
theorem Hs.blk {Ls : List (List (Addr × HO))} (S : Hs Ls.flatten F H) (i : Nat) {b : List (Addr × HO)} (h : Ls[i]? = some b) : Sees b H := fun p o m =>
  (S.own p o (List.mem_flatten.mpr ⟨b, List.mem_of_getElem? h, m⟩)).1
end
end Z
/-! ### readings, one word a construct -/
namespace Z
open PySem L2
/-- one of several readings, chosen where it is asked -/
def tEx {ι : Type} (p : ι → Prop) (t : ι → TE) : TE := fun σ H Q => ∃ i, p i ∧ t i σ H Q
/-- a new list, a new tuple of these values -/
abbrev rLst (xs : List V) (H : Hp) (Q : VK) : Prop := xs.length ≤ sizeLine ∧ ∀ p, H p = none → Q (.ref p) (upd H p (.lst xs))
abbrev rTup (xs : List V) (H : Hp) (Q : VK) : Prop := xs.length ≤ sizeLine ∧ ∀ p, H p = none → Q (.ref p) (upd H p (.tup xs))
/-- C(), no __init__ but object's -/
def tMakeO (C : Addr) : TE := fun _ H Q => ∀ a dx, H a = none → H dx = none → dx ≠ a → Q (.ref a) (upd (upd H dx (.own a)) a (.ins C dx []))
/-- a slice's part that may be None -/
def tPartN (t : TE) : TO := fun σ H Q => t σ H fun x H1 => (x = .non ∧ Q none H1) ∨ ∃ i, x = .int i ∧ Q (some i) H1
section
variable {σ : L2.St} {H : Hp} {Q : VK} {QB : Bool → Hp → Prop} {D : Ends} {t1 t2 ts tu : TS} {te ta tb tv tx : TE} {tt t u : TT} {v x y : V} {i : Nat} {K : PySem.W.Frag} {R : List V → Hp → Prop} {tA tr : TA}
theorem seq (h : t1 { D with nx := t2 D } σ H) : tSeq t1 t2 D σ H := h
theorem next (h : D.nx σ H) : tNext D σ H := h
theorem var (h : σ[i]? = some (some v)) (k : Q v H) : tVar i σ H Q := ⟨v, h, k⟩
theorem con (k : Q v H) : tC v σ H Q := k
theorem asg (h : te σ H fun x H1 => D.nx (σ.set i (some x)) H1) : tAsg te (gName i) D σ H := h
theorem drop (h : te σ H fun _ H1 => D.nx σ H1) : tDrop te D σ H := h
theorem ret (h : te σ H D.rt) : tRet te D σ H := h
theorem retN (h : D.rt .non H) : tRetN D σ H := h
theorem ifS (h : tt σ H fun b H1 => if b = true then t1 D σ H1 else t2 D σ H1) : tIfS tt t1 t2 D σ H := h
theorem op {r : R2} (h : ta σ H fun x H1 => tb σ H1 fun y H2 => r x y H2 Q) : tOp r ta tb σ H Q := h
theorem un {r : V → Hp → VK → Prop} (h : ta σ H fun x H1 => r x H1 Q) : tUn r ta σ H Q := h
theorem i0 {g : Int → Int → V} {a b : Int} (k : Q (g a b) H) : rI0 g (.int a) (.int b) H Q := ⟨a, b, rfl, rfl, k⟩
theorem ic {C : Int → Int → Prop} {g : Int → Int → V} {a b : Int} (c : C a b) (k : Q (g a b) H) : rI C g (.int a) (.int b) H Q := ⟨a, b, rfl, rfl, c, k⟩
theorem eqS (h : scal x y = true) (k : Q (.bl (decide (x = y))) H) : rEq x y H Q := ⟨h, k⟩
theorem neS (h : scal x y = true) (k : Q (.bl (!decide (x = y))) H) : rNe x y H Q := ⟨h, k⟩
theorem test {b : Bool} (h : te σ H fun x H' => ∃ k, x = .bl k ∧ QB k H') : tTest te σ H QB := h
theorem tstB {b : Bool} (k : QB b H) : ∃ k, (V.bl b) = .bl k ∧ QB k H := ⟨b, rfl, k⟩
theorem bB (h : te σ H fun x H1 => ∃ c, x = .bl c ∧ QB c H1) : tB te σ H QB := h
theorem andT (h : t σ H fun c H1 => if c = true then u σ H1 QB else QB false H1) : tAnd t u σ H QB := h
theorem orT (h : t σ H fun c H1 => if c = true then QB true H1 else u σ H1 QB) : tOr t u σ H QB := h
theorem notT (h : t σ H fun c H1 => QB (!c) H1) : tNot t σ H QB := h
theorem andV (h : ta σ H fun x H1 => ∃ c, x = .bl c ∧ if c = true then tb σ H1 Q else Q (.bl false) H1) : tAndV ta tb σ H Q := h
theorem orV (h : ta σ H fun x H1 => ∃ c, x = .bl c ∧ if c = true then Q (.bl true) H1 else tb σ H1 Q) : tOrV ta tb σ H Q := h
theorem notV (h : ta σ H fun x H1 => ∃ c, x = .bl c ∧ Q (.bl (!c)) H1) : tNotV ta σ H Q := h
theorem ifE (h : tt σ H fun c H1 => if c = true then ta σ H1 Q else tb σ H1 Q) : tIf tt ta tb σ H Q := h
theorem blE {b : Bool} {P : Bool → Prop} (k : P b) : ∃ c, (V.bl b) = .bl c ∧ P c := ⟨b, rfl, k⟩
theorem nil (k : R [] H) : tNil σ H R := k
theorem cons (h : ta σ H fun x H1 => tr σ H1 fun xs H2 => R (x :: xs) H2) : tCons ta tr σ H R := h
theorem fld {f : Str} (h : ta σ H fun x H1 => ∃ a C dx fs v, x = .ref a ∧ H1 a = some (.ins C dx fs) ∧ Cls K C ∧ NoAttr K C f ∧ fs.lookup f = some v ∧ Q v H1) : tFld K ta f σ H Q := h
theorem fldE {a C dx : Addr} {fs : List (Str × V)} {f : Str} {R : V → Prop} (ho : H a = some (.ins C dx fs)) (c : Cls K C) (n : NoAttr K C f) (l : fs.lookup f = some v) (k : R v) :
    ∃ a' C dx fs v, (V.ref a) = .ref a' ∧ H a' = some (.ins C dx fs) ∧ Cls K C ∧ NoAttr K C f ∧ fs.lookup f = some v ∧ R v := ⟨a, C, dx, fs, v, rfl, ho, c, n, l, k⟩
theorem sfld {f : Str} (h : tv σ H fun y H1 => ta σ H1 fun x H2 => ∃ a C dx fs, x = .ref a ∧ H2 a = some (.ins C dx fs) ∧ Cls K C ∧ NoAttr K C f ∧ fs.length < 1000 ∧ D.nx σ (upd H2 a (.ins C dx (putF f y fs)))) : sFld K ta tv f D σ H := h
theorem sfldE {a C dx : Addr} {fs : List (Str × V)} {f : Str} {R : Addr → Addr → Addr → List (Str × V) → Prop} (ho : H a = some (.ins C dx fs)) (c : Cls K C) (n : NoAttr K C f) (l : fs.length < 1000) (k : R a C dx fs) :
    ∃ a' C dx fs, (V.ref a) = .ref a' ∧ H a' = some (.ins C dx fs) ∧ Cls K C ∧ NoAttr K C f ∧ fs.length < 1000 ∧ R a' C dx fs := ⟨a, C, dx, fs, rfl, ho, c, n, l, k⟩
theorem aug {f : Str} {rd : V → V → Hp → VK → Prop} (h : ta σ H fun x H1 => ∃ a C dx fs v, x = .ref a ∧ H1 a = some (.ins C dx fs) ∧ Cls K C ∧ NoAttr K C f ∧ fs.lookup f = some v ∧
    tv σ H1 fun y H2 => rd v y H2 fun z H3 => ∃ dx' fs', H3 a = some (.ins C dx' fs') ∧ fs'.length < 1000 ∧ D.nx σ (upd H3 a (.ins C dx' (putF f z fs')))) : sFldAug K ta tv rd f D σ H := h
theorem augE {a C dx : Addr} {fs : List (Str × V)} {R : Addr → List (Str × V) → Prop} (ho : H a = some (.ins C dx fs)) (l : fs.length < 1000) (k : R dx fs) :
    ∃ dx fs, H a = some (.ins C dx fs) ∧ fs.length < 1000 ∧ R dx fs := ⟨dx, fs, ho, l, k⟩
theorem augV {a C dx : Addr} {fs : List (Str × V)} {f : Str} {R : Addr → Addr → V → Prop} (ho : H a = some (.ins C dx fs)) (c : Cls K C) (n : NoAttr K C f) (l : fs.lookup f = some v) (k : R a C v) :
    ∃ a' C dx fs v, (V.ref a) = .ref a' ∧ H a' = some (.ins C dx fs) ∧ Cls K C ∧ NoAttr K C f ∧ fs.lookup f = some v ∧ R a' C v := ⟨a, C, dx, fs, v, rfl, ho, c, n, l, k⟩
theorem rAddE {a b : Int} {R : V → Hp → Prop} (k : R (.int (a + b)) H) : rAdd (.int a) (.int b) H R := ⟨a, b, rfl, rfl, k⟩
theorem isN {P : Prop} (k : P) : (V.non = .non) ∧ P := ⟨rfl, k⟩
theorem lstE {vs : List V} (hz : vs.length ≤ 1000) (k : ∀ p, H p = none → Q (.ref p) (upd H p (.lst vs))) : vs.length ≤ sizeLine ∧ ∀ p, H p = none → Q (.ref p) (upd H p (.lst vs)) := ⟨Nat.le_trans hz (by decide), k⟩
theorem lst (h : tA σ H fun xs H1 => rLst xs H1 Q) : tLst tA σ H Q := h
theorem tup (h : tA σ H fun xs H1 => rTup xs H1 Q) : tTup tA σ H Q := h
theorem call {sp : Sp} {E : XK} (h : tA σ H fun vs H1 => sp (vs ++ []) H1 Q E) : tCall sp [] E tA σ H Q := h
theorem iteD {p A B : Prop} [Decidable p] (h1 : p → A) (h2 : ¬ p → B) : if decide p = true then A else B := by
  by_cases h : p
  · rw [if_pos (decide_eq_true h)]; exact h1 h
  · rw [if_neg (by rw [decide_eq_false h]; exact Bool.false_ne_true)]; exact h2 h
theorem iteN {p A B : Prop} [Decidable p] (h1 : ¬ p → A) (h2 : p → B) : if (!decide p) = true then A else B := by
  by_cases h : p
  · rw [if_neg (by rw [decide_eq_true h]; exact Bool.false_ne_true)]; exact h2 h
  · rw [if_pos (by rw [decide_eq_false h]; rfl)]; exact h1 h
theorem iteSelf {α : Type} {a : α} {A B : Prop} [Decidable (a = a)] (k : A) : if decide (a = a) = true then A else B := by rw [if_pos (decide_eq_true rfl)]; exact k
theorem iteNSelf {α : Type} {a : α} {A B : Prop} [Decidable (a = a)] (k : B) : if (!decide (a = a)) = true then A else B := by rw [if_neg (by rw [decide_eq_true rfl]; exact Bool.false_ne_true)]; exact k
theorem setLE {p : Addr} {xs : List V} {i : Nat} {v : V} {R : Hp → Prop} (ho : H p = some (.lst xs)) (hi : i < xs.length) (k : R (upd H p (.lst (xs.set i v)))) : rSetL (.ref p) (.int i) v H R :=
  ⟨p, xs, i, i, rfl, rfl, ho, by unfold ixN; rw [if_pos (by omega), if_pos (by omega)]; simp, k⟩
theorem m0 {r : V → List V → Hp → VK → Prop} (h : ta σ H fun x H1 => (∃ a, x = .str a) ∧ r x [] H1 Q) : tM0 r ta σ H Q := h
theorem m1 {r : V → List V → Hp → VK → Prop} (h : ta σ H fun x H1 => (∃ a, x = .str a) ∧ te σ H1 fun y H2 => r x [y] H2 Q) : tM1 r ta te σ H Q := h
theorem lenSeq {p : Addr} {xs : List V} {R : List V → Prop} (h : SqL K H p xs) (k : R xs) : ∃ q ys, [V.ref p] = [.ref q] ∧ (SqL K H q ys ∨ SqT K H q ys) ∧ R ys := ⟨p, xs, rfl, .inl h, k⟩
theorem ixAll {p : Addr} {xs : List V} {z : Int} {G : V → Prop} (h : SqL K H p xs) (h0 : 0 ≤ z) (h1 : z < xs.length) (hp : ∀ x ∈ xs, G x) (k : ∀ v, G v → xs[z.toNat]? = some v → Q v H) : rIxL K (.ref p) (.int z) H Q := by
  have hz : z.toNat < xs.length := by omega
  have e : xs[z.toNat]? = some xs[z.toNat] := List.getElem?_eq_getElem hz
  refine ⟨p, xs, z, xs[z.toNat], rfl, rfl, h, ?_, k _ (hp _ (List.getElem_mem hz)) e⟩
  have e2 := atI_nat e
  have e3 : ((z.toNat : Nat) : Int) = z := by omega
  rwa [e3] at e2
theorem ixL {p : Addr} {xs : List V} {i : Nat} {v : V} (h : SqL K H p xs) (e : xs[i]? = some v) (k : Q v H) : rIxL K (.ref p) (.int i) H Q := ⟨p, xs, i, v, rfl, rfl, h, atI_nat e, k⟩
theorem iteTd {b : Bool} {A B : Prop} (h : b = true) (k : A) : if b = true then A else B := by rw [if_pos h]; exact k
theorem iteFd {b : Bool} {A B : Prop} (h : b = false) (k : B) : if b = true then A else B := by rw [if_neg (by rw [h]; exact Bool.false_ne_true)]; exact k
theorem gcons {t : TG} {u : TGs} {v : V} {r : List V} {R : L2.St → Hp → Prop} (h : t v σ H fun σ' H' => u r σ' H' R) : gCons t u (v :: r) σ H R := ⟨v, r, rfl, h⟩
theorem gnil {R : L2.St → Hp → Prop} (k : R σ H) : gNil [] σ H R := ⟨rfl, k⟩
theorem gname {v : V} {R : L2.St → Hp → Prop} (k : R (σ.set i (some v)) H) : gName i v σ H R := k
theorem partN {R : Option Int → Hp → Prop} (h : te σ H fun x H1 => (x = .non ∧ R none H1) ∨ ∃ i, x = .int i ∧ R (some i) H1) : tPartN te σ H R := h
theorem forR1 {g : TG} (h : tA σ H fun vs H1 => ∃ j : Int, vs = [.int j] ∧ -(2 ^ 62) ≤ j ∧ j < 2 ^ 62 ∧ ∃ W : Nat → Nat → L2.St → Hp → Prop, (∃ m, W 0 m σ H1) ∧ ∀ i m σ H, W i m σ H →
      ((Itr 0 j.toNat).stop i H ∧ D.nx σ H) ∨ ((Itr 0 j.toNat).go i H ∧ ∃ N : L2.St → Hp → Prop, (∀ σ' H', N σ' H' → ∃ m', m' < m ∧ W (i + 1) m' σ' H') ∧ ∀ x H', (Itr 0 j.toNat).yld i H x H' → g x σ H' fun σ2 H2 => ts { D with nx := N, ct := N, bk := D.nx } σ2 H2)) :
    tFor (iRng1 tA) g ts D σ H := h
theorem forL {tl : TE} {g : TG} (h : tl σ H fun x H1 => ∃ a, x = .ref a ∧ (∃ xs, SqL K H1 a xs) ∧ ∃ W : Nat → Nat → L2.St → Hp → Prop, (∃ m, W 0 m σ H1) ∧ ∀ i m σ H, W i m σ H →
      ((Itl K a).stop i H ∧ D.nx σ H) ∨ ((Itl K a).go i H ∧ ∃ N : L2.St → Hp → Prop, (∀ σ' H', N σ' H' → ∃ m', m' < m ∧ W (i + 1) m' σ' H') ∧ ∀ x H', (Itl K a).yld i H x H' → g x σ H' fun σ2 H2 => ts { D with nx := N, ct := N, bk := D.nx } σ2 H2)) :
    tFor (iList K tl) g ts D σ H := h
theorem rng {n : Nat} {P : Nat → Prop} (hn : n ≤ 100000) (k : P n) : ∃ j : Int, [V.int (n : Int)] = [.int j] ∧ -(2 ^ 62) ≤ j ∧ j < 2 ^ 62 ∧ P j.toNat := ⟨n, rfl, by omega, by omega, by rw [Int.toNat_natCast]; exact k⟩
theorem cut {M : L2.St → Hp → Prop} (h : tu { D with nx := M } σ H) (k : ∀ σ' H', M σ' H' → ts D σ' H') : Evl.tCut tu ts D σ H := ⟨M, h, k⟩
theorem meth {C : Addr} {m : Str} {sp : Sp} {dvs : List V} {E : XK} (h : ta σ H fun x H1 => ∃ a dx fs, x = .ref a ∧ H1 a = some (.ins C dx fs) ∧ fs.lookup m = none ∧ tA σ H1 fun vs H2 => sp (x :: (vs ++ dvs)) H2 Q E) : tMeth C m sp dvs E ta tA σ H Q := h
theorem methE {C a dx : Addr} {fs : List (Str × V)} {m : Str} {P : Prop} (ho : H a = some (.ins C dx fs)) (l : fs.lookup m = none) (k : P) :
    ∃ a' dx fs, (V.ref a) = .ref a' ∧ H a' = some (.ins C dx fs) ∧ fs.lookup m = none ∧ P := ⟨a, dx, fs, rfl, ho, l, k⟩
theorem make {C : Addr} {sp : Sp} {dvs : List V} {E : XK} (h : tA σ H fun vs H1 => ∀ x dx, H1 x = none → H1 dx = none → dx ≠ x →
    sp (.ref x :: (vs ++ dvs)) (upd (upd H1 dx (.own x)) x (.ins C dx [])) (fun v H2 => v = .non ∧ Q (.ref x) H2) E) : tMake C sp dvs E tA σ H Q := h
theorem makeO {C : Addr} (h : ∀ a dx, H a = none → H dx = none → dx ≠ a → Q (.ref a) (upd (upd H dx (.own a)) a (.ins C dx []))) : tMakeO C σ H Q := h
theorem mkO {L : List (Addr × HO)} {F : Hp} {a dx C : Addr} (S : Hs L F H) (h1 : H a = none) (h2 : H dx = none) (h3 : dx ≠ a) : Hs ((a, .ins C dx []) :: L) F (upd (upd H dx (.own a)) a (.ins C dx [])) :=
  (S.ext (same_new h2)).new (by rw [upd_ne (Ne.symm h3)]; exact h1)
theorem sl {r : V → Option Int → Option Int → Hp → VK → Prop} {tl th : TO} (h : te σ H fun x H1 => tl σ H1 fun l H2 => th σ H2 fun u H3 => r x l u H3 Q) : tSl r te tl th σ H Q := h
theorem noPart {R : Option Int → Hp → Prop} (k : R none H) : tNoPart σ H R := k
theorem part {R : Option Int → Hp → Prop} (h : te σ H fun x H1 => ∃ i, x = .int i ∧ R (some i) H1) : tPart te σ H R := h
theorem partE {i : Int} {P : Int → Prop} (k : P i) : ∃ j, (V.int i) = .int j ∧ P j := ⟨i, rfl, k⟩
theorem slS {z : Str} {lo hi : Option Int} (hz : z.length ≤ 10000) (k : Q (.str (cutS z lo hi)) H) : rSlS (.str z) lo hi H Q := ⟨z, rfl, Nat.le_trans hz (by decide), k⟩
theorem bm {T : String} {r : V → List V → Hp → VK → Prop} (h : ta σ H fun x H1 => tyV K T x H1 ∧ tA σ H1 fun xs H2 => r x xs H2 Q) : tBM K T r ta tA σ H Q := h
theorem bm0 {T : String} {r : V → List V → Hp → VK → Prop} (h : ta σ H fun x H1 => tyV K T x H1 ∧ r x [] H1 Q) : tBM0 K T r ta σ H Q := h
theorem asgG {g : TG} (h : te σ H fun x H1 => g x σ H1 D.nx) : tAsg te g D σ H := h
theorem gsub {to ti : TE} {t : TSet} {v : V} {R : L2.St → Hp → Prop} (h : to σ H fun o H1 => ti σ H1 fun i H2 => t o i v H2 fun H3 => R σ H3) : gSub to ti t v σ H R := h
theorem dget {td ty : TE} (h : td σ H fun x H1 => ty σ H1 fun y H2 => ∃ a v, x = .ref a ∧ DGet H2 a y (some v) ∧ Q v H2) : tDGet td ty σ H Q := h
theorem dgetE {a : Addr} {kvs : List (Key × V)} {k : Key} {v : V} {R : V → Prop} (ho : H a = some (.dK kvs)) (e : valV kvs k = some v) (q : R v) : ∃ a' v, (V.ref a) = .ref a' ∧ DGet H a' (kV k) (some v) ∧ R v := ⟨a, v, rfl, e ▸ DGet.k ho, q⟩
theorem dgetS {a : Addr} {kvs : List (Key × V)} {k : Str} {v : V} {R : V → Prop} (ho : H a = some (.dK kvs)) (e : valV kvs (Sum.inr k) = some v) (q : R v) : ∃ a' v, (V.ref a) = .ref a' ∧ DGet H a' (.str k) (some v) ∧ R v := ⟨a, v, rfl, e ▸ DGet.k (k := Sum.inr k) ho, q⟩
theorem dput {td ty : TE} (h : tv σ H fun v H1 => td σ H1 fun x H2 => ty σ H2 fun y H3 => ∃ a H4, x = .ref a ∧ DPut H3 a y v H4 ∧ D.nx σ H4) : sDPut td ty tv D σ H := h
theorem dputS {a : Addr} {kvs kvs' : List (Key × V)} {k : Str} {v : V} {R : Hp → Prop} (ho : H a = some (.dK kvs)) (l : kvs.length < 1000) (e : putK kvs (Sum.inr k) v = kvs') (q : R (upd H a (.dK kvs'))) :
    ∃ a' H4, (V.ref a) = .ref a' ∧ DPut H a' (.str k) v H4 ∧ R H4 := ⟨a, _, rfl, DPut.k (k := Sum.inr k) ho (Nat.lt_of_lt_of_le l (by decide)), by rw [e]; exact q⟩
theorem pairsN {R : List (V × V) → Hp → Prop} (k : R [] H) : tPairs [] σ H R := k
theorem pairsC {tk : TE} {r : List (TE × TE)} {R : List (V × V) → Hp → Prop} (h : tk σ H fun x H1 => tv σ H1 fun y H2 => tPairs r σ H2 fun ps H3 => R ((x, y) :: ps) H3) : tPairs ((tk, tv) :: r) σ H R := h
theorem yes {R : Bool → Hp → Prop} (k : R true H) : tYes σ H R := k
theorem addS {a b : Str} {R : Str → Str → Prop} (hz : a.length + b.length ≤ 100000) (k : R a b) : ∃ i j, (V.str a) = .str i ∧ (V.str b) = .str j ∧ i.length + j.length ≤ sizeLine ∧ R i j := ⟨a, b, rfl, rfl, Nat.le_trans hz (by decide), k⟩
theorem cb {r : List V → Hp → VK → Prop} (h : tA σ H fun vs H1 => r vs H1 Q) : tCB r tA σ H Q := h
end
theorem look_ne {f g : Str} {v : V} {r : List (Str × V)} (h : decide (f = g) = false) : List.lookup f ((g, v) :: r) = List.lookup f r := by
  have hb : (f == g) = false := by simpa using h
  simp only [List.lookup, hb]
theorem look_eq {f : Str} {v : V} {r : List (Str × V)} : List.lookup f ((f, v) :: r) = some v := by simp [List.lookup]
theorem put_ne {f g : Str} {v w : V} {r : List (Str × V)} (h : decide (g = f) = false) : putF f v ((g, w) :: r) = (g, w) :: putF f v r := by
  have hb : ¬ g = f := by simpa using h
  rw [putF, if_neg hb]
theorem put_eq {f : Str} {v w : V} {r : List (Str × V)} : putF f v ((f, w) :: r) = (f, v) :: r := by rw [putF, if_pos rfl]
theorem put_nil {f : Str} {v : V} : putF f v [] = [(f, v)] := rfl
section
open PyProof.Rows
variable {X : Cx} {x : Str} {i : Int} {z : Str} {t : Tok} {pos : Pos}
theorem pe_gint (hg : Gl X x) (hm : ∃ t, X.mg x = some (.int i t)) (hd : (x == ("__debug__" : Str)) = false := by decide) : PE X (.Name x pos) (tC (.int i)) := let ⟨_, h⟩ := hm; pe_glob hg h ⟨_, rfl⟩ hd
theorem kit_self {K : PySem.W.Frag} {C : Addr} : PySem.W.kitOne K (.ref C) (.ref C) = some true := by
  unfold PySem.W.kitOne
  rw [if_pos (by simp)]
theorem kit_yes {K : PySem.W.Frag} {C R : Addr} (h1 : PySem.W.isClsIn K R = true) (h2 : PySem.W.typeIn K (.ref R) = some (.type "type")) (h3 : PySem.W.subIn K (.ref C) (.ref R) = some true) : PySem.W.kitOne K (.ref C) (.ref R) = some true := by
  unfold PySem.W.kitOne
  by_cases e : (Value.ref C == Value.ref R) = true
  · rw [if_pos e]
  · rw [if_neg e]
    unfold PySem.W.kitCls
    have h1' : (PySem.W.clsIn K R).isSome = true := h1
    have e2 : ((PySem.W.clsIn K R).isSome && PySem.W.typeIn K (.ref R) == some (.type "type")) = true := by rw [h1', h2] <;> rfl
    show (if ((PySem.W.clsIn K R).isSome && PySem.W.typeIn K (.ref R) == some (.type "type")) = true then PySem.W.subIn K (.ref C) (.ref R) else none) = some true
    rw [if_pos e2]
    exact h3
theorem kit_no {K : PySem.W.Frag} {C R : Addr} (h1 : PySem.W.isClsIn K R = true) (h2 : PySem.W.typeIn K (.ref R) = some (.type "type")) (h3 : PySem.W.subIn K (.ref C) (.ref R) = some false) (hne : C ≠ R) : PySem.W.kitOne K (.ref C) (.ref R) = some false := by
  unfold PySem.W.kitOne
  rw [if_neg (by simpa using hne)]
  unfold PySem.W.kitCls
  have h1' : (PySem.W.clsIn K R).isSome = true := h1
  have e2 : ((PySem.W.clsIn K R).isSome && PySem.W.typeIn K (.ref R) == some (.type "type")) = true := by rw [h1', h2] <;> rfl
  show (if ((PySem.W.clsIn K R).isSome && PySem.W.typeIn K (.ref R) == some (.type "type")) = true then PySem.W.subIn K (.ref C) (.ref R) else none) = some false
  rw [if_pos e2]
  exact h3
theorem pe_ex {X : Cx} {e : Expr} {ι : Type} {p : ι → Prop} {t : ι → TE} (h : ∀ i, p i → PE X e (t i)) : PE X e (tEx p t) := ⟨fun pins s σ H Q I ⟨i, hp, hq⟩ => (h i hp).run pins s σ H Q I hq⟩
theorem pe_makeO {X : Cx} {C : Addr} {x : Str} {p pos : Pos} (hmk : PySem.W.makesIn X.K C = true) (hi : PySem.W.findIn X.K (.ref C) "__init__" = some (some (.builtin "object.__init__"))) (kp : PySem.W.keepIn X.K (.ref C) = true) (hg : Gl X x) (hm : X.mg x = some (.ref C))
    (hdb : (x == ("__debug__" : Str)) = false := by decide) : PE X (.Call (.Name x p) [] [] pos) (tMakeO C) := by
  refine ⟨fun pins s σ H Q I h => ?_⟩
  refine wpAny_Call_Name_kw (ld_glob I hg hm ?_ hdb)
  refine PySem.W.callWith_K0 I.kIn kp ?_
  show wpAny _ _ (PySem.call (Value.ref C) []) _ _ _
  refine wpAny_call ?_
  have hq := h (s.heap.objs.size + 1) s.heap.objs.size (I.hok.fresh (Nat.le_succ _)) (I.hok.fresh (Nat.le_refl _)) (Nat.ne_of_lt (Nat.lt_succ_self _))
  have I2 := Inv.made (C := C) I
  have Y := PySem.W.makes_of (M := model X.prog X.w) I.kIn hmk
  have L0 := PySem.W.looks_findIn (M := model X.prog X.w) I.kIn hi
  obtain ⟨hh, g, d, t, os⟩ := s
  refine PySem.W.make_core Y L0 (fun self => PySem.W.Looks.of_pure (PySem.W.oi_bind self)) (.inr ⟨rfl, rfl⟩) ?_
  have e2 : ((hh.push PySem.W.emptyDict).push (PySem.W.instObj C hh.objs.size)).get? (hh.objs.size + 1) = some (PySem.W.instObj C hh.objs.size) := by
    have := Heap.get?_push_size (hh.push PySem.W.emptyDict) (o := PySem.W.instObj C hh.objs.size) rfl
    rwa [Heap.size_push] at this
  have t1 : PySem.W.Looks (model X.prog X.w) ((hh.push PySem.W.emptyDict).push (PySem.W.instObj C hh.objs.size)) (typeOf (.ref (hh.objs.size + 1))) (.ref C) := (PySem.W.Looks.ld e2).andThen .now
  have t2 : PySem.W.Looks (model X.prog X.w) ((hh.push PySem.W.emptyDict).push (PySem.W.instObj C hh.objs.size)) (isInstance (.ref (hh.objs.size + 1)) (.type "object")) true := t1.andThen (Y.top.keeps fun b o e => Heap.get?_push_of_some _ (Heap.get?_push_of_some _ e))
  refine codeAny_call_builtin PySem.W.oi_plain PySem.W.entry_oi (@PySem.W.check_slot (model X.prog X.w) _ _ _ "object.__init__" "object" "__init__" (.ref (hh.objs.size + 1)) [] [] _ PySem.W.oi_kind PySem.W.oi_split t2 (PySem.W.oi_args (.ref (hh.objs.size + 1))) ?_)
  rw [PySem.W.oi_run]
  exact wpAny_pure (And.intro rfl ⟨V.ref _, _, I2, rfl, hq⟩)
theorem pe_gstr (hg : Gl X x) (hm : ∃ t, X.mg x = some (.str z t)) (hd : (x == ("__debug__" : Str)) = false := by decide) : PE X (.Name x pos) (tC (.str z)) := let ⟨_, h⟩ := hm; pe_glob hg h ⟨_, rfl⟩ hd
end
end Z
/-! ### further rules -/
namespace Z
open PySem L2 PyProof.Rows
/-- a text times an int -/
def rRepS : R2 := fun x y H Q => ∃ (z : Str) (n : Int), x = .str z ∧ y = .int n ∧ z.length ≤ 1000 ∧ 0 ≤ n ∧ n ≤ 1000 ∧ ∀ r : Str, r = Txt.mul z n → r.length ≤ z.length * n.toNat → Q (.str r) H
theorem mul_len (z : Str) (n : Int) : (Txt.mul z n).length ≤ z.length * n.toNat := by
  unfold Txt.mul
  by_cases h : n < 1
  · rw [if_pos h]
    exact Nat.zero_le _
  · rw [if_neg h]
    by_cases h2 : (n == 1 || z.length == 0) = true
    · rw [if_pos h2]
      have : 1 ≤ n.toNat := by omega
      exact Nat.le_mul_of_pos_right _ this
    · rw [if_neg h2]
      have gen : ∀ (k : Nat) (a : Array Nat), ((List.replicate k z.cps).foldl (· ++ ·) a).size = a.size + k * z.cps.size := by
        intro k
        induction k with
        | zero => intro a; simp
        | succ k ih =>
          intro a
          rw [List.replicate_succ, List.foldl_cons, ih, Array.size_append, Nat.succ_mul]
          omega
      show ((List.replicate n.toNat z.cps).foldl (· ++ ·) #[]).size ≤ z.cps.size * n.toNat
      rw [gen, Nat.mul_comm]
      simp
theorem op_repS {X : Cx} : OpR X (binaryOp .Mult) rRepS := by
  intro pins s σ H x y v u Q I rx ry h
  obtain ⟨z, n, rfl, rfl, hz, h0, h1, q⟩ := h
  obtain ⟨t, rfl⟩ := rx
  obtain ⟨t', rfl⟩ := ry
  refine SB.mul ⟨?_, fun _ _ => ?_, fun _ _ => ?_⟩ fun t2 k => ⟨.str (Txt.mul z n), H, I.tok _, ⟨_, rfl⟩, q _ rfl (mul_len z n)⟩
  · rw [Bool.or_eq_false_iff]
    exact ⟨decide_eq_false (by omega), decide_eq_false (by omega)⟩
  · have hn : 1 ≤ n := by omega
    have : (z.length : Int) ≤ (2 ^ 63 - 1) / n := by
      refine Int.le_ediv_of_mul_le (by omega) ?_
      have h2 : (z.length : Int) * n ≤ 1000 * 1000 := Int.mul_le_mul (by omega) h1 (by omega) (by omega)
      omega
    omega
  · show decide (z.length * n.toNat > sizeLine) = false
    refine decide_eq_false ?_
    have h2 : z.length * n.toNat ≤ 1000 * 1000 := Nat.mul_le_mul hz (by omega)
    rw [sizeLine_eq]
    omega
theorem po_val {X : Cx} {e : Expr} {te : TE} (h : PE X e te) : PO X (some e) (tPartN te) := by
  refine ⟨fun pins s σ H Q I hw => ?_⟩
  rw [evalPart_some]
  refine thn (h.run pins s σ H _ I hw) fun u s1 ⟨x, H1, I1, r1, q1⟩ => ?_
  rcases q1 with ⟨rfl, q⟩ | ⟨i, rfl, q⟩
  · cases r1
    exact ⟨none, H1, I1, .none, q⟩
  · obtain ⟨t, rfl⟩ := r1
    exact ⟨some i, H1, I1, .int i t, q⟩
def cutT (xs : List Str) (lo hi : Option Int) : List Str := (xs.drop (HT.sIx xs.length 0 lo)).take (HT.sIx xs.length xs.length hi - HT.sIx xs.length 0 lo)
theorem cutV_str (xs : List Str) (lo hi : Option Int) : cutV (xs.map V.str) lo hi = (cutT xs lo hi).map V.str := by
  unfold cutV cutT
  rw [List.length_map, List.map_take, List.map_drop]
theorem cutT_len (xs : List Str) (lo hi : Option Int) : (cutT xs lo hi).length ≤ xs.length := by
  unfold cutT
  rw [List.length_take, List.length_drop]
  omega
theorem dp_strs {K : PySem.W.Frag} {H : Hp} : ∀ xs : List Str, DpAll K H (xs.map V.str) (xs.map PyData.str)
  | [] => .nil
  | x :: r => .cons (.str x) (dp_strs r)
theorem lay_strs : ∀ xs : List Str, (∀ x ∈ xs, PyData.strOk x = true) → PyData.canLayAll0 (xs.map PyData.str) = true
  | [], _ => by simp [PyData.canLayAll0]
  | x :: r, h => by
    rw [List.map_cons, PyData.canLayAll0, lay_strs r fun y hy => h y (List.mem_cons_of_mem _ hy), Bool.and_true, PyData.canLay0]
    exact h x List.mem_cons_self
theorem depth_strs : ∀ xs : List Str, PyData.depthAll (xs.map PyData.str) = 0
  | [] => by simp [PyData.depthAll]
  | x :: r => by rw [List.map_cons, PyData.depthAll, depth_strs r]; simp [PyData.depth]
theorem shaped_strs {xs : List Str} (h : ∀ x ∈ xs, PyData.strOk x = true) : SeqAt.shaped (.list (xs.map PyData.str)) = true := by
  unfold SeqAt.shaped
  rw [Bool.and_eq_true]
  refine ⟨by rw [PyData.canLay0]; exact lay_strs xs h, decide_eq_true ?_⟩
  rw [PyData.depth, depth_strs]
  decide
theorem eqv_strs : ∀ xs : List Str, PyData.eqvAll (xs.map PyData.str) (xs.map PyData.str) = true
  | [] => by simp [PyData.eqvAll]
  | x :: r => by rw [List.map_cons, PyData.eqvAll, eqv_strs r]; simp [PyData.eqv]
theorem ok_app {x y : Str} (h1 : PyData.strOk x = true) (h2 : PyData.strOk y = true) : PyData.strOk (x ++ y) = true := by
  unfold PyData.strOk at *
  show (x.cps ++ y.cps).all _ = true
  rw [Array.all_append, h1, h2]
  rfl
theorem ok_cut {z : Str} {lo hi : Option Int} (h : PyData.strOk z = true) : PyData.strOk (cutS z lo hi) = true := by
  unfold PyData.strOk cutS at *
  rw [List.all_toArray, List.all_eq_true]
  intro x hx
  rw [Array.all_eq_true_iff_forall_mem] at h
  exact h x (by simpa using List.mem_of_mem_drop (List.mem_of_mem_take hx))
theorem ixS {z : Str} {i : Int} {Q : VK} {H : Hp} (hz : z.length ≤ 100000) (h0 : 0 ≤ i) (h1 : i < z.length) (k : ∀ c, z.cps.toList[i.toNat]? = some c → Q (.str ⟨#[c]⟩) H) : rIxS (.str z) (.int i) H Q := by
  have hl : i.toNat < z.cps.toList.length := by
    rw [Array.length_toList]
    have : z.length = z.cps.size := rfl
    omega
  have e := List.getElem?_eq_getElem hl
  refine ⟨z, i, _, rfl, rfl, Nat.le_trans hz (by decide), ?_, k _ e⟩
  have e2 := atI_nat e
  have e3 : ((i.toNat : Nat) : Int) = i := by omega
  rwa [e3] at e2
section
variable {K : PySem.W.Frag} {H : Hp} {Q : VK} {a b : Addr} {xs : List Str}
/-- two lists of the same texts -/
theorem eqStrs (ha : SqL K H a (xs.map V.str)) (hb : SqL K H b (xs.map V.str)) (h : ∀ x ∈ xs, PyData.strOk x = true) (k : Q (.bl true) H) : rEqD K (.ref a) (.ref b) H Q :=
  ⟨_, _, .lst ha (dp_strs xs), .lst hb (dp_strs xs), shaped_strs h, shaped_strs h, by rw [PyData.eqv, eqv_strs]; exact k⟩
theorem neStrs (ha : SqL K H a (xs.map V.str)) (hb : SqL K H b (xs.map V.str)) (h : ∀ x ∈ xs, PyData.strOk x = true) (k : Q (.bl false) H) : rNeD K (.ref a) (.ref b) H Q :=
  ⟨_, _, .lst ha (dp_strs xs), .lst hb (dp_strs xs), shaped_strs h, shaped_strs h, by rw [PyData.eqv, eqv_strs]; exact k⟩
end
end Z
local macro_rules | `(tactic| walk_at "z ne") => `(tactic| first | assumption | (refine Ne.symm ?_; assumption))
local macro_rules | `(tactic| walk_at "z hp") => `(tactic| first | assumption | (with_reducible exact L2.upd_same) | (refine (L2.upd_ne ?_).trans ?_; (walk_at "z ne"); walk_at "z hp"))
local macro_rules | `(tactic| walk_at "z ic") => `(tactic| first | decide | (show (0 : Int) < _; first | decide | omega) | (show (0 : Int) ≤ _; first | decide | omega) | exact ⟨by decide, by decide⟩ | exact ⟨by decide, by decide, by decide⟩ | exact .inl ⟨by omega, by omega⟩ | exact .inr ⟨by omega, by omega⟩ | exact ⟨by omega, by omega⟩)
local macro_rules | `(tactic| walk_at "z small") => `(tactic| (first | decide | (simp only [List.length_cons, List.length_nil]; decide) | omega))
local macro_rules | `(tactic| walk_at "z no") => `(tactic| rfl)
/-- a slot, an expression, a statement: as far as nothing is asked -/
local macro_rules | `(tactic| walk_at "z1") => `(tactic| first
  | (with_reducible refine Z.seq ?_) | (with_reducible refine Z.asg ?_) | (with_reducible refine Z.ret ?_) | (with_reducible refine Z.retN ?_) | (with_reducible refine Z.drop ?_) | (with_reducible refine Z.next ?_)
  | (with_reducible refine Z.ifS ?_) | (with_reducible refine Z.op ?_) | (with_reducible refine Z.un ?_) | (with_reducible refine Z.con ?_) | ((with_reducible refine' Z.var ?hv ?_); (case hv => exact rfl))
  | (with_reducible refine Z.i0 ?_) | ((with_reducible refine Z.eqS ?hs ?_); (case hs => exact rfl)) | ((with_reducible refine Z.neS ?hs ?_); (case hs => exact rfl))
  | (with_reducible refine Z.test (b := true) ?_) | (with_reducible refine Z.tstB ?_) | (with_reducible refine Z.bB ?_) | (with_reducible refine Z.andT ?_) | (with_reducible refine Z.orT ?_) | (with_reducible refine Z.notT ?_)
  | (with_reducible refine Z.andV ?_) | (with_reducible refine Z.orV ?_) | (with_reducible refine Z.notV ?_) | (with_reducible refine Z.ifE ?_) | (with_reducible refine Z.blE ?_)
  | (with_reducible refine Z.nil ?_) | (with_reducible refine Z.cons ?_) | (with_reducible refine Z.fld ?_) | (with_reducible refine Z.sfld ?_) | (with_reducible refine Z.aug ?_) | (with_reducible refine Z.rAddE ?_)
  | ((with_reducible refine' Z.fldE ?ho ?hc ?hn ?hl ?_); (case ho => walk_at "z hp"); (case hc => walk_at "z cls"); (case hn => walk_at "z attr"); (case hl => walk_at "z look"))
  | ((with_reducible refine' Z.augV ?ho ?hc ?hn ?hl ?_); (case ho => walk_at "z hp"); (case hc => walk_at "z cls"); (case hn => walk_at "z attr"); (case hl => walk_at "z look"))
  | ((with_reducible refine' Z.sfldE ?ho ?hc ?hn ?hl ?_); (case ho => walk_at "z hp"); (case hc => walk_at "z cls"); (case hn => walk_at "z attr"); (case hl => walk_at "z small"); walk_at "z put")
  | ((with_reducible refine' Z.augE ?ho ?hl ?_); (case ho => walk_at "z hp"); (case hl => walk_at "z small"); walk_at "z put")
  | (with_reducible refine Z.meth ?_) | ((with_reducible refine' Z.methE ?ho ?hl ?_); (case ho => walk_at "z hp"); (case hl => walk_at "z no"))
  | (with_reducible refine Z.make ?_) | (with_reducible refine Z.makeO ?_) | (with_reducible refine Z.m0 ?_) | (with_reducible refine Z.m1 ?_) | (with_reducible refine Z.sl ?_) | (with_reducible refine Z.noPart ?_) | (with_reducible refine Z.part ?_) | (with_reducible refine Z.partE ?_) | (with_reducible refine Z.bm ?_) | (with_reducible refine Z.bm0 ?_)
  | (with_reducible refine Z.pairsC ?_) | (with_reducible refine Z.pairsN ?_) | (with_reducible refine Z.yes ?_)
  | (with_reducible refine Z.gcons ?_) | (with_reducible refine Z.gnil ?_) | (with_reducible refine Z.gname ?_) | (with_reducible refine Z.partN ?_) | (with_reducible refine Z.forR1 ?_) | (with_reducible refine Z.forL ?_)
  | (with_reducible refine Z.asgG ?_) | (with_reducible refine Z.gsub ?_) | (with_reducible refine Z.dget ?_) | (with_reducible refine Z.dput ?_)
  | ((with_reducible refine' Z.dgetS ?ho ?he ?_); (case ho => walk_at "z hp"); (case he => walk_at "z val"))
  | ((with_reducible refine' Z.dputS ?ho ?hl ?he ?_); (case ho => walk_at "z hp"); (case hl => walk_at "z small"); (case he => walk_at "z putK"))
  | (with_reducible refine Z.lst ?_) | (with_reducible refine Z.tup ?_) | (with_reducible refine Z.call ?_) | (with_reducible refine Z.cb ?_) | ((with_reducible refine Z.ic ?hc ?_); (case hc => walk_at "z ic")))
local macro_rules | `(tactic| walk_at "z dec") => `(tactic| first | (refine Z.iteTd (by decide +kernel) ?_) | (refine Z.iteFd (by decide +kernel) ?_) | skip)
/-- .. and the tests whose answer stands there -/
theorem Z.iteId {b : Bool} {A B : Prop} (h : if b = true then A else B) : if b = true then A else B := h
local macro_rules | `(tactic| walk_at "z") => `(tactic| repeat (first | walk_at "z1" | ((with_reducible refine Z.iteId ?_); first | (refine L2.iteT ?_) | (refine L2.iteF ?_)) | (with_reducible refine Z.isN ?_) | (with_reducible refine Z.iteSelf ?_) | (with_reducible refine Z.iteNSelf ?_)))

/-! ### raising, catching -/
namespace Z
open PySem PySem.Spec L2 PyProof.Rows
section
variable {X : Cx} {C : Addr} {bmB : List Value} {B newId initId : String}
/-- X(), X an own exception class without own __init__ -/
theorem pmk_own0 {x : Str} {p pos : Pos} (F : ExcBaseFacts B newId initId bmB) (q : PySem.W.excIn X.K C bmB newId = true) (gC : X.mg x = some (.ref C)) (kC : PySem.W.keepIn X.K (.ref C) = true) (r : Raises X (.ref C)) (hg : Gl X x := by rfl)
    (hdb : (x == ("__debug__" : Str)) = false := by decide) : PMk X (.Call (.Name x p) [] [] pos) (fun _ H Q => Q (.ref C) none H) := by
  intro pins s σ H Q I h
  refine wpAny_Call_Name_kw (ld_glob I hg gC ?_ hdb)
  refine PySem.W.callWith_K0 I.kIn kC ?_
  show wpAny _ _ (PySem.call (Value.ref C) []) _ _ _
  obtain ⟨bm, N, nm, qn, bs, hdct, sn, sub, ab, col, dd, k0, k1, k2, k3, k5, mN, hC, hN, hni, T⟩ := exc_obj I.kIn q
  refine wpAny_call_exc_subT F T hC hN hni (fun h' e hm => ?_) (Nat.zero_le _)
  exact mk_of I hm r h (I.hok.gone hm.new)
/-- isinstance(e, c), e what the suite holds, of the class cls -/
def rIsG (K : PySem.W.Frag) (cls : Value) (d : Option Addr) (a : Addr) : List V → Hp → VK → Prop := fun xs H Q => ∃ (D : Addr) (c : V) (cv : Value) (b : Bool), cls = .ref D ∧ d = none ∧ ExcC K D ∧ xs = [.ref a, c] ∧ ClsV c cv ∧ PySem.W.kitOne K (.ref D) cv = some b ∧ Q (.bl b) H
theorem call_isG {a : Addr} {cls : Value} {d : Option Addr} {oe : Obj} {pn : List (Addr × Obj)} (hz : Zc cls d oe) (hf : ∃ vs, oe.data = .fields vs) : CallR (X.suite a ((a, oe) :: pn)) (.builtin "isinstance") (rIsG X.K cls d a) := by
  intro pins s σ H xs us Q I r h
  obtain ⟨D, c, cv, b, rfl, rfl, C, rfl, hc, e, q⟩ := h
  exact call_isE C hz hf pins s σ H _ us Q I r ⟨c, cv, b, rfl, fun u ru => hc.eq ru, e, q⟩
def rIsGT (K : PySem.W.Frag) (cls : Value) (d : Option Addr) (a : Addr) : List V → Hp → VK → Prop := fun xs H Q => ∃ (D tp : Addr) (cs : List V) (ws : List Value) (b : Bool), cls = .ref D ∧ d = none ∧ ExcC K D ∧ xs = [.ref a, .ref tp] ∧ H tp = some (.tup cs) ∧ Paired ClsV cs ws ∧
  PySem.W.kitAny K (.ref D) ws = some b ∧ Q (.bl b) H
theorem call_isGT {a : Addr} {cls : Value} {d : Option Addr} {oe : Obj} {pn : List (Addr × Obj)} (hz : Zc cls d oe) (hf : ∃ vs, oe.data = .fields vs) : CallR (X.suite a ((a, oe) :: pn)) (.builtin "isinstance") (rIsGT X.K cls d a) := by
  intro pins s σ H xs us Q I r h
  obtain ⟨D, tp, cs, ws, b, rfl, rfl, C, rfl, hT, k, e, q⟩ := h
  obtain ⟨u1, u2, rfl, r1, r2⟩ := vals2 r
  cases (show u1 = Value.ref a from r1)
  cases (show u2 = Value.ref tp from r2)
  obtain ⟨hget, _⟩ := I.pin (a, oe) (List.mem_append.mpr (.inl List.mem_cons_self))
  obtain ⟨vs, hv⟩ := hf
  have J : PySem.W.InstAt s.heap a oe D none := by
    obtain ⟨oc, od, oda, osl⟩ := oe
    obtain ⟨h1, h2⟩ := hz
    dsimp only at h1 h2 hv
    subst h1 h2 hv
    exact ⟨hget, rfl, rfl, trivial⟩
  obtain ⟨_, its, rv, o, h1, h2, n, h3⟩ := (show ObjOk _ _ H s.heap tp (.tup cs) from I.hok tp _ hT)
  have e3 := ClsV.all k rv
  subst e3
  obtain ⟨oc, od, dt, sl⟩ := o
  simp only at h2 h3
  subst h2 h3
  exact PySem.W.kia_tup (PySem.W.handS_kitx_exc C.hg C.hk C.hs C.hd C.ha C.hn C.ht C.hm) I.kIn J h1 e (fun z => nomatch z) fun tk => ⟨.bl b, H, I.kept (t' := tk) fun _ _ z => z, rfl, q⟩
theorem exm_of {K : PySem.W.Frag} {D S : Addr} {b : Bool} (h1 : PySem.W.subIn K (.ref S) (.type "BaseException") = some true) (h2 : PySem.W.isClsIn K S = true) (h3 : PySem.W.typeIn K (.ref S) = some (.type "type")) (h4 : PySem.W.subIn K (.ref D) (.ref S) = some b) :
    PySem.W.exmOne K (.ref D) (.ref S) = some b := by
  have e1 : (PySem.W.subIn K (.ref S) (.type "BaseException") == some true) = true := by rw [h1] <;> rfl
  have e2 : ((PySem.W.clsIn K S).isSome && PySem.W.typeIn K (.ref S) == some (.type "type")) = true := by
    have h2' : (PySem.W.clsIn K S).isSome = true := h2
    rw [h2', h3] <;> rfl
  show (if (PySem.W.subIn K (.ref S) (.type "BaseException") == some true) = true then (if ((PySem.W.clsIn K S).isSome && PySem.W.typeIn K (.ref S) == some (.type "type")) = true then PySem.W.subIn K (.ref D) (.ref S) else none) else none) = some b
  rw [if_pos e1, if_pos e2]
  exact h4
end
section
variable {X : Cx} {CX : CXT} {k : Nat} {f C : Addr} {fd : FuncData} {ps : List Str} {sp : Sp} {E : L2.St → XK} {x m : Str} {p pos apos : Pos} {e o : Expr} {es : List Expr} {ta : TE} {t : TA}
/-- o.m(..) that may raise, within a try: what is raised is wished for at the slots -/
def tMethX (C : Addr) (m : Str) (sp : Sp) (E : L2.St → XK) (ta : TE) (t : TA) : TE := fun σ H Q => ta σ H fun x H1 => ∃ a dx fs, x = .ref a ∧ H1 a = some (.ins C dx fs) ∧ fs.lookup m = none ∧ t σ H1 fun vs H2 => sp (x :: vs) H2 Q (E σ)
theorem pe_methX {pl : Sem Bool} (he : PE X o ta) (c : Cls X.K C) (hm : Meth X.K C m f) (F : FnOk X.prog X.w X.K X.mg X.base CX k f fd ps sp) (hr : Room k X.A) (hb : Binds X.K fd ps []) (hx : ∀ σ, PassesAt CX X σ (E σ)) (ha : PA X (e :: es) t)
    (hst : starEach (e :: es) X.env = (false, eval e X.env) :: starEach es X.env := by rfl) (hpl : (backTo pos (starEach es X.env)).any (·.1) = false := by rfl)
    (ht : eval (.Call (.Attribute o m apos) (e :: es) [] pos) X.env = (do
      let ov ← eval o X.env
      standAt apos.atName
      let (f, first) ← holding [ov] (getMethod ov m pl)
      callWith pos f first (backTo pos (starEach (e :: es) X.env)) (backToKw pos (keywordEach [] X.env))) := by rfl) :
    PE X (.Call (.Attribute o m apos) (e :: es) [] pos) (tMethX C m sp E ta t) := by
  refine ⟨fun pins s σ H Q I h => ?_⟩
  refine PySem.W.methodCall_KW (pl := pl) (thn (he.run pins s σ H _ I h) fun u s1 ⟨x, H1, I1, rx, a, dx, fs, ex, ea, l, q⟩ => ?_) ht
  subst ex
  obtain rfl : u = Value.ref a := rx
  refine getmeth_ok I1 ea c hm l ?_
  refine PySem.W.callWith_K (first := [.ref a]) (h₀ := X.base) I.ok.mod.kin hm.kp (thn (ha.run pos pins s1 σ H1 _ I1 q) fun us s2 ⟨vs, H2, I2, r, q2⟩ => ⟨I2.kIn, ?_⟩) hst hpl
  exact run_fnS (us := .ref a :: us) (vs := .ref a :: vs) F hr hb (hx σ) I2 (.cons rfl r) q2
variable {σ : L2.St} {H : Hp} {Q : VK}
theorem methX {E : L2.St → XK} (h : ta σ H fun x H1 => ∃ a dx fs, x = .ref a ∧ H1 a = some (.ins C dx fs) ∧ fs.lookup m = none ∧ t σ H1 fun vs H2 => sp (x :: vs) H2 Q (E σ)) : tMethX C m sp E ta t σ H Q := h
end
end Z
local macro_rules | `(tactic| walk_at "z1") => `(tactic| (with_reducible refine Z.methX ?_))

/-! ### data that stands: what is known (F) within a heap (H); both grow -/
namespace Z
open PySem L2
section
variable {K : PySem.W.Frag} {F F' G H H' H0 F0 F1 H1 F2 H2 : Hp} {p : Addr} {o o' : HO} {L L1 : List (Addr × HO)}
theorem seqT {a : Addr} {xs : List V} (e : Same H H') (h : SqT K H a xs) : SqT K H' a xs := by
  rcases h with h | h
  · rcases h with h | ⟨o, h⟩
    · exact .inl (.inl (e _ _ h))
    · exact .inl (.inr ⟨o, e _ _ h⟩)
  · exact .inr h
theorem dp_same {v : V} {d : PyData} (e : Same H H') (h : Dp K H v d) : Dp K H' v d :=
  Dp.rec (motive_1 := fun v d _ => Dp K H' v d) (motive_2 := fun vs ds _ => DpAll K H' vs ds) .non .bl .int .str (fun h _ k => .lst (e.seq h) k) (fun h _ k => .tup (seqT e h) k) .nil (fun _ _ a b => .cons a b) h
theorem dpa_same {vs : List V} {ds : List PyData} (e : Same H H') (h : DpAll K H vs ds) : DpAll K H' vs ds :=
  DpAll.rec (motive_1 := fun v d _ => Dp K H' v d) (motive_2 := fun vs ds _ => DpAll K H' vs ds) .non .bl .int .str (fun h _ k => .lst (e.seq h) k) (fun h _ k => .tup (seqT e h) k) .nil (fun _ _ a b => .cons a b) h
theorem dp_int {v : V} {i : Int} (h : Dp K H v (.int i)) : v = .int i := by cases h; rfl
theorem dp_str {v : V} {z : Str} (h : Dp K H v (.str z)) : v = .str z := by cases h; rfl
theorem dp_bool {v : V} {b : Bool} (h : Dp K H v (.bool b)) : v = .bl b := by cases h; rfl
theorem dp_none {v : V} (h : Dp K H v .none) : v = .non := by cases h; rfl
theorem dp_tup {v : V} {ds : List PyData} (h : Dp K H v (.tuple ds)) : ∃ a vs, v = .ref a ∧ SqT K H a vs ∧ DpAll K H vs ds := by
  cases h with
  | tup h1 h2 => exact ⟨_, _, rfl, h1, h2⟩
theorem dp_lst {v : V} {ds : List PyData} (h : Dp K H v (.list ds)) : ∃ a vs, v = .ref a ∧ SqL K H a vs ∧ DpAll K H vs ds := by
  cases h with
  | lst h1 h2 => exact ⟨_, _, rfl, h1, h2⟩
theorem dpa_len : ∀ {vs : List V} {ds : List PyData}, DpAll K H vs ds → vs.length = ds.length
  | _, _, .nil => rfl
  | _, _, .cons _ r => by rw [List.length_cons, List.length_cons, dpa_len r]
theorem dpa_get : ∀ {vs : List V} {ds : List PyData} {i : Nat} {d : PyData}, DpAll K H vs ds → ds[i]? = some d → ∃ v, vs[i]? = some v ∧ Dp K H v d
  | _, _, i, _, .nil, e => by simp at e
  | _, _, 0, _, .cons h _, e => by cases e; exact ⟨_, rfl, h⟩
  | _, _, i + 1, _, .cons _ r, e => by
    obtain ⟨v, e1, e2⟩ := dpa_get (i := i) r (by simpa using e)
    exact ⟨v, by simpa using e1, e2⟩
theorem dpa_ix : ∀ {vs : List V} {ds : List PyData} {i : Nat} {v : V}, DpAll K H vs ds → vs[i]? = some v → ∃ d, ds[i]? = some d ∧ Dp K H v d
  | _, _, i, _, .nil, e => by simp at e
  | _, _, 0, _, .cons h _, e => by cases e; exact ⟨_, rfl, h⟩
  | _, _, i + 1, _, .cons _ r, e => by
    obtain ⟨v, e1, e2⟩ := dpa_ix (i := i) r (by simpa using e)
    exact ⟨v, by simpa using e1, e2⟩
theorem dpa_app : ∀ {vs ws : List V} {ds es : List PyData}, DpAll K H vs ds → DpAll K H ws es → DpAll K H (vs ++ ws) (ds ++ es)
  | _, _, _, _, .nil, k => k
  | _, _, _, _, .cons h r, k => .cons h (dpa_app r k)
theorem dpa_snoc {vs : List V} {ds : List PyData} {v : V} {d : PyData} (h : DpAll K H vs ds) (k : Dp K H v d) : DpAll K H (vs ++ [v]) (ds ++ [d]) := dpa_app h (.cons k .nil)
theorem dpa_drop : ∀ {vs : List V} {ds : List PyData} (n : Nat), DpAll K H vs ds → DpAll K H (vs.drop n) (ds.drop n)
  | _, _, 0, h => h
  | _, _, _ + 1, .nil => .nil
  | _, _, n + 1, .cons _ r => dpa_drop n r
theorem dpa_take : ∀ {vs : List V} {ds : List PyData} (n : Nat), DpAll K H vs ds → DpAll K H (vs.take n) (ds.take n)
  | _, _, 0, _ => .nil
  | _, _, _ + 1, .nil => .nil
  | _, _, n + 1, .cons h r => .cons h (dpa_take n r)
theorem dpa_eraseIdx : ∀ {vs : List V} {ds : List PyData} (n : Nat), DpAll K H vs ds → DpAll K H (vs.eraseIdx n) (ds.eraseIdx n)
  | _, _, 0, .nil => .nil
  | _, _, _ + 1, .nil => .nil
  | _, _, 0, .cons _ r => r
  | _, _, n + 1, .cons h r => .cons h (dpa_eraseIdx n r)
theorem dpa_strs : ∀ {vs : List V} {zs : List Str}, DpAll K H vs (zs.map PyData.str) → vs = zs.map V.str
  | _, [], .nil => rfl
  | _, z :: r, .cons h k => by rw [dp_str h, dpa_strs k]; rfl
theorem dpa_ints : ∀ {vs : List V} {zs : List Int}, DpAll K H vs (zs.map PyData.int) → vs = zs.map V.int
  | _, [], .nil => rfl
  | _, z :: r, .cons h k => by rw [dp_int h, dpa_ints k]; rfl
theorem dpa_of_strs : ∀ (zs : List Str), DpAll K H (zs.map V.str) (zs.map PyData.str)
  | [] => .nil
  | z :: r => .cons (.str z) (dpa_of_strs r)
theorem dpa_of_ints : ∀ (zs : List Int), DpAll K H (zs.map V.int) (zs.map PyData.int)
  | [] => .nil
  | z :: r => .cons (.int z) (dpa_of_ints r)
def cutD (xs : List PyData) (lo hi : Option Int) : List PyData := (xs.drop (HT.sIx xs.length 0 lo)).take (HT.sIx xs.length xs.length hi - HT.sIx xs.length 0 lo)
theorem dpa_cut {vs : List V} {ds : List PyData} {lo hi : Option Int} (h : DpAll K H vs ds) : DpAll K H (cutV vs lo hi) (cutD ds lo hi) := by
  unfold cutV cutD
  rw [dpa_len h]
  exact dpa_take _ (dpa_drop _ h)
/-- from (F0, H0) to (F, H): what is known grows within what stands; new knowledge is of new places -/
structure Gr (F0 H0 F H : Hp) : Prop where
  f : Same F0 F
  h : Same H0 H
  fh : Same F H
  nw : ∀ b o, F b = some o → F0 b = some o ∨ H0 b = none
theorem Gr.refl (e : Same F H) : Gr F H F H := ⟨Same.refl _, Same.refl _, e, fun _ _ h => .inl h⟩
theorem Gr.trans (a : Gr F0 H0 F1 H1) (b : Gr F1 H1 F2 H2) : Gr F0 H0 F2 H2 := ⟨a.f.trans b.f, a.h.trans b.h, b.fh, fun c o e => (b.nw c o e).elim (a.nw c o) fun n => .inr (a.h.free n)⟩
/-- the state of a def that changes nothing of its caller's: own cells L, all new -/
structure Ws (L : List (Addr × HO)) (F0 H0 F H : Hp) : Prop where
  g : Gr F0 H0 F H
  nd : (L.map (·.1)).Nodup
  own : ∀ p o, (p, o) ∈ L → H p = some o ∧ F p = none ∧ H0 p = none
theorem Ws.init (e : Same F H) : Ws [] F H F H := ⟨Gr.refl e, List.nodup_nil, fun _ _ m => nomatch m⟩
theorem Ws.fh (W : Ws L F0 H0 F H) : Same F H := W.g.fh
theorem Ws.f0 (W : Ws L F0 H0 F H) : Same F0 F := W.g.f
theorem Ws.sees (W : Ws L F0 H0 F H) : Sees L H := fun p o m => (W.own p o m).1
theorem Ws.at (W : Ws L F0 H0 F H) (i : Nat) (h : L[i]? = some (p, o)) : H p = some o := W.sees.at i h
theorem Ws.same (W : Ws L F0 H0 F H) : Same H0 H := W.g.h
theorem Ws.freeF (W : Ws L F0 H0 F H) (hp : H p = none) : F p = none := W.fh.free hp
theorem Ws.fresh (W : Ws L F0 H0 F H) (hp : H p = none) : p ∉ L.map (·.1) := fun m => by
  obtain ⟨⟨q, u⟩, m, e⟩ := List.mem_map.mp m
  have h := (W.own q u m).1
  have e' : q = p := e
  rw [e', hp] at h
  cases h
/-- an own cell made -/
theorem Ws.new (W : Ws L F0 H0 F H) (hp : H p = none) : Ws ((p, o) :: L) F0 H0 F (upd H p o) := by
  refine ⟨⟨W.g.f, W.g.h.trans (same_new hp), W.g.fh.trans (same_new hp), W.g.nw⟩, List.nodup_cons.mpr ⟨W.fresh hp, W.nd⟩, fun q u m => ?_⟩
  rcases List.mem_cons.mp m with m | m
  · cases m
    exact ⟨upd_same, W.freeF hp, W.g.h.free hp⟩
  · obtain ⟨a, b, c⟩ := W.own q u m
    exact ⟨same_new hp q u a, b, c⟩
/-- a piece of data made -/
theorem Ws.dat (W : Ws L F0 H0 F H) (hp : H p = none) : Ws L F0 H0 (upd F p o) (upd H p o) := by
  have fp := W.freeF hp
  refine ⟨⟨W.g.f.trans (same_new fp), W.g.h.trans (same_new hp), fun b u e => ?_, fun b u e => ?_⟩, W.nd, fun q u m => ?_⟩
  · by_cases h : b = p
    · subst h; rw [upd_same] at e ⊢; exact e
    · rw [upd_ne h] at e ⊢; exact W.g.fh b u e
  · by_cases h : b = p
    · subst h; exact .inr (W.g.h.free hp)
    · rw [upd_ne h] at e; exact W.g.nw b u e
  · obtain ⟨a, b, c⟩ := W.own q u m
    have hne : q ≠ p := ne_of_none a hp
    exact ⟨by rw [upd_ne hne]; exact a, by rw [upd_ne hne]; exact b, c⟩
theorem Ws.perm (W : Ws L F0 H0 F H) (e : L.Perm L1) : Ws L1 F0 H0 F H := ⟨W.g, (e.map _).nodup_iff.mp W.nd, fun p o m => W.own p o (e.mem_iff.mpr m)⟩
theorem Ws.head (W : Ws ((p, o) :: L) F0 H0 F H) (o' : HO) : Ws ((p, o') :: L) F0 H0 F (upd H p o') := by
  obtain ⟨a, b, c⟩ := W.own p o List.mem_cons_self
  have nd := W.nd
  rw [List.map_cons, List.nodup_cons] at nd
  refine ⟨⟨W.g.f, fun q u e => ?_, fun q u e => ?_, W.g.nw⟩, by rw [List.map_cons, List.nodup_cons]; exact nd, fun q u m => ?_⟩
  · have hne : q ≠ p := fun h => by rw [h, c] at e; cases e
    rw [upd_ne hne]; exact W.g.h q u e
  · have hne : q ≠ p := fun h => by rw [h, b] at e; cases e
    rw [upd_ne hne]; exact W.g.fh q u e
  · rcases List.mem_cons.mp m with m | m
    · cases m
      exact ⟨upd_same, b, c⟩
    · have hne : q ≠ p := fun e => nd.1 (List.mem_map.mpr ⟨(q, u), m, e⟩)
      obtain ⟨x, y, z⟩ := W.own q u (List.mem_cons_of_mem _ m)
      exact ⟨by rw [upd_ne hne]; exact x, y, z⟩
theorem Ws.set (W : Ws L F0 H0 F H) (i : Nat) (h : L[i]? = some (p, o)) (o' : HO) : Ws (L.set i (p, o')) F0 H0 F (upd H p o') :=
  ((W.perm (self_perm h)).head o').perm (set_perm h (p, o')).symm
theorem Ws.sub (W : Ws L F0 H0 F H) (e : L1.Sublist L) : Ws L1 F0 H0 F H := ⟨W.g, (e.map _).nodup W.nd, fun p o m => W.own p o (e.subset m)⟩
/-- an own cell becomes data -/
theorem Ws.frz1 (W : Ws ((p, o) :: L) F0 H0 F H) : Ws L F0 H0 (upd F p o) H := by
  obtain ⟨a, b, c⟩ := W.own p o List.mem_cons_self
  have nd := W.nd
  rw [List.map_cons, List.nodup_cons] at nd
  refine ⟨⟨W.g.f.trans (same_new b), W.g.h, fun q u e => ?_, fun q u e => ?_⟩, nd.2, fun q u m => ?_⟩
  · by_cases h : q = p
    · subst h; rw [upd_same] at e; cases e; exact a
    · rw [upd_ne h] at e; exact W.g.fh q u e
  · by_cases h : q = p
    · subst h; exact .inr c
    · rw [upd_ne h] at e; exact W.g.nw q u e
  · have hne : q ≠ p := fun e => nd.1 (List.mem_map.mpr ⟨(q, u), m, e⟩)
    obtain ⟨x, y, z⟩ := W.own q u (List.mem_cons_of_mem _ m)
    exact ⟨x, by rw [upd_ne hne]; exact y, z⟩
theorem Ws.frz (W : Ws L F0 H0 F H) (i : Nat) (h : L[i]? = some (p, o)) : ∃ F', Ws (L.eraseIdx i) F0 H0 F' H ∧ Same F F' ∧ F' p = some o := by
  have W1 := W.perm (self_perm h)
  exact ⟨_, W1.frz1, same_new (W1.own p o List.mem_cons_self).2.1, upd_same⟩
/-- behind a def that changed nothing -/
theorem Ws.ext (W : Ws L F0 H0 F H) (g : Gr F H F' H') : Ws L F0 H0 F' H' := by
  refine ⟨W.g.trans g, W.nd, fun p o m => ?_⟩
  obtain ⟨a, b, c⟩ := W.own p o m
  refine ⟨g.h p o a, ?_, c⟩
  cases e : F' p with
  | none => rfl
  | some u =>
    rcases g.nw p u e with h | h
    · rw [b] at h; cases h
    · rw [a] at h; cases h
theorem Ws.exts (W : Ws L F0 H0 F H) (g : Same H H') : Ws L F0 H0 F H' := ⟨⟨W.g.f, W.g.h.trans g, W.g.fh.trans g, W.g.nw⟩, W.nd, fun p o m => let ⟨a, b, c⟩ := W.own p o m; ⟨g p o a, b, c⟩⟩
end
section
variable {K : PySem.W.Frag} {F H F0 H0 : Hp} {L : List (Addr × HO)} {Q : VK} {vs xs : List V} {ds es : List PyData} {d : PyData} {v : V} {a p : Addr}
theorem lstW (W : Ws L F0 H0 F H) (k : ∀ p H', Ws ((p, .lst vs) :: L) F0 H0 F H' → Q (.ref p) H') (hz : vs.length ≤ 100000 := by first | decide | (simp only [List.length_cons, List.length_nil]; decide)) : rLst vs H Q :=
  ⟨Nat.le_trans hz (by decide), fun p hp => k p _ (W.new hp)⟩
/-- a list that nobody changes any more -/
theorem lstD (W : Ws L F0 H0 F H) (hd : DpAll K F vs ds) (k : ∀ v F' H', Ws L F0 H0 F' H' → Same F F' → Dp K F' v (.list ds) → Q v H') (hz : vs.length ≤ 100000 := by first | decide | (simp only [List.length_cons, List.length_nil]; decide)) : rLst vs H Q :=
  ⟨Nat.le_trans hz (by decide), fun p hp => k _ _ _ (W.dat hp) (same_new (W.freeF hp)) (.lst (SqL.of upd_same) (dpa_same (same_new (W.freeF hp)) hd))⟩
theorem tupD (W : Ws L F0 H0 F H) (hd : DpAll K F vs ds) (k : ∀ v F' H', Ws L F0 H0 F' H' → Same F F' → Dp K F' v (.tuple ds) → Q v H') (hz : vs.length ≤ 100000 := by first | decide | (simp only [List.length_cons, List.length_nil]; decide)) : rTup vs H Q :=
  ⟨Nat.le_trans hz (by decide), fun p hp => k _ _ _ (W.dat hp) (same_new (W.freeF hp)) (.tup (SqT.of upd_same) (dpa_same (same_new (W.freeF hp)) hd))⟩
/-- xs.append(e) of an own list -/
theorem appW (W : Ws L F0 H0 F H) (i : Nat) (h : L[i]? = some (p, .lst xs)) (k : ∀ H', Ws (L.set i (p, .lst (xs ++ [v]))) F0 H0 F H' → Q .non H') (hz : xs.length < 100000) : rAppend (.ref p) [v] H Q :=
  ⟨p, xs, v, rfl, rfl, W.at i h, Nat.lt_of_lt_of_le hz (by decide), k _ (W.set i h _)⟩
end
end Z
/-! ### readings over data -/
namespace Z
open PySem PySem.Spec L2 PyProof.Rows
theorem Ws.hs {L : List (Addr × HO)} {F0 H0 F H : Hp} (W : Ws L F0 H0 F H) : Hs L F H := ⟨W.nd, fun p o m => ⟨(W.own p o m).1, (W.own p o m).2.1⟩, W.fh⟩
theorem Ws.hs0 {L : List (Addr × HO)} {F0 H0 F H : Hp} (W : Ws L F0 H0 F H) : Hs L H0 H := ⟨W.nd, fun p o m => ⟨(W.own p o m).1, (W.own p o m).2.2⟩, W.same⟩
theorem Ws.pick {L L' : List (Addr × HO)} {F0 H0 F H : Hp} (W : Ws L F0 H0 F H) (is : List Nat) (hn : is.Nodup) (h : is.map (fun i => L[i]?) = L'.map some) : Ws L' F0 H0 F H :=
  ⟨W.g, (W.hs.pick is hn h).nd, fun p o m => ⟨((W.hs.pick is hn h).own p o m).1, ((W.hs.pick is hn h).own p o m).2, ((W.hs0.pick is hn h).own p o m).2⟩⟩
theorem Ws.join {L N : List (Addr × HO)} {F0 H0 F H F' H' : Hp} (W : Ws L F0 H0 F H) (M : Ws N F H F' H') : Ws (N ++ L) F0 H0 F' H' := by
  have W1 := W.ext M.g
  refine ⟨W1.g, ?_, fun p o m => ?_⟩
  · rw [List.map_append, List.nodup_append]
    refine ⟨M.nd, W1.nd, fun a ha b hb e => ?_⟩
    subst e
    obtain ⟨⟨q, u⟩, m, rfl⟩ := List.mem_map.mp ha
    obtain ⟨⟨q', u'⟩, m', e⟩ := List.mem_map.mp hb
    have e' : q' = q := e
    subst e'
    have h1 := (M.own _ u m).2.2
    rw [(W.own _ u' m').1] at h1
    cases h1
  · rcases List.mem_append.mp m with m | m
    · obtain ⟨h1, h2, h3⟩ := M.own p o m
      exact ⟨h1, h2, W.g.h.free h3⟩
    · exact W1.own p o m
theorem Ws.many {L : List (Addr × HO)} {F0 H0 F H H' : Hp} (W : Ws L F0 H0 F H) (s : Same H H') {ts : List Addr} (hts : ∀ t ∈ ts, H t = none) : ∃ F', Ws L F0 H0 F' H' ∧ Same F F' ∧ ∀ t ∈ ts, F' t = H' t := by
  have fno : ∀ b o, F b = some o → b ∉ ts := fun b o e m => by
    have := W.fh b o e
    rw [hts b m] at this
    cases this
  refine ⟨fun b => if b ∈ ts then H' b else F b, ⟨⟨fun b o e => ?_, W.g.h.trans s, fun b o e => ?_, fun b o e => ?_⟩, W.nd, fun p o m => ?_⟩, fun b o e => ?_, fun t ht => if_pos ht⟩
  · have := W.g.f b o e
    exact (if_neg (fno b o this)).trans this
  · by_cases h : b ∈ ts
    · have e' : H' b = some o := (if_pos h).symm.trans e
      exact e'
    · have e' : F b = some o := (if_neg h).symm.trans e
      exact s b o (W.g.fh b o e')
  · by_cases h : b ∈ ts
    · exact .inr (W.g.h.free (hts b h))
    · exact W.g.nw b o ((if_neg h).symm.trans e)
  · obtain ⟨a, b, c⟩ := W.own p o m
    have hn : p ∉ ts := fun h => by rw [hts p h] at a; cases a
    exact ⟨s p o a, (if_neg hn).trans b, c⟩
  · exact (if_neg (fno b o e)).trans e
theorem Ws.add {L : List (Addr × HO)} {F0 H0 F H H' : Hp} {p : Addr} {o : HO} (W : Ws L F0 H0 F H) (e : Same H H') (hp : H p = none) (h : H' p = some o) : Ws ((p, o) :: L) F0 H0 F H' := by
  have W1 := W.exts e
  refine ⟨W1.g, List.nodup_cons.mpr ⟨W.fresh hp, W1.nd⟩, fun q u m => ?_⟩
  rcases List.mem_cons.mp m with m | m
  · cases m
    exact ⟨h, W.freeF hp, W.g.h.free hp⟩
  · exact W1.own q u m
section
variable {K : PySem.W.Frag} {F F' H H' F0 H0 : Hp} {L : List (Addr × HO)} {Q : VK} {vs xs : List V} {ds es : List PyData} {d e : PyData} {v w x : V} {a p : Addr} {σ : L2.St} {i : Nat}
/-- the word of a comprehension that makes data -/
def LcP (K : PySem.W.Frag) (D : Addr) (L : List (Addr × HO)) (F0 H0 F : Hp) (ds : List PyData) (i : Nat) (H : Hp) : Prop := ∃ F' vs, Ws ((D, .lst vs) :: L) F0 H0 F' H ∧ Same F F' ∧ DpAll K F' vs (ds.take i)
theorem lc0 {D : Addr} (W : Ws L F0 H0 F H) (hD : H D = none) : LcP K D L F0 H0 F ds 0 (upd H D (.lst [])) := ⟨F, [], W.new hD, Same.refl _, by rw [List.take_zero]; exact .nil⟩
theorem lcS {D : Addr} {F1 : Hp} (W : Ws ((D, .lst vs) :: L) F0 H0 F1 H) (s : Same F F1) (ha : DpAll K F1 vs (ds.take i)) (hi : ds[i]? = some d) (hv : Dp K F1 v d) (hz : ds.length ≤ 100000) :
    ∃ acc, H D = some (.lst acc) ∧ acc.length < sizeLine ∧ LcP K D L F0 H0 F ds (i + 1) (upd H D (.lst (acc ++ [v]))) := by
  have hlt := (List.getElem?_eq_some_iff.mp hi).1
  refine ⟨vs, W.at 0 rfl, ?_, F1, vs ++ [v], W.set 0 rfl _, s, ?_⟩
  · rw [dpa_len ha, List.length_take]
    exact Nat.lt_of_lt_of_le (show min i ds.length < 100001 by omega) (by decide)
  · rw [List.take_add_one, hi]
    exact dpa_snoc ha hv
theorem ixT (h : Dp K F v (.tuple ds)) (s : Same F H) (i : Nat) (e : ds[i]? = some d) (k : ∀ w, Dp K F w d → Q w H) : rIxT K v (.int (i : Int)) H Q := by
  obtain ⟨a, vs, rfl, h1, h2⟩ := dp_tup h
  obtain ⟨w, e1, e2⟩ := dpa_get h2 e
  exact ⟨a, vs, i, w, rfl, rfl, seqT s h1, atI_nat e1, k w e2⟩
theorem ixD (h : Dp K F v (.list ds)) (s : Same F H) (i : Nat) (e : ds[i]? = some d) (k : ∀ w, Dp K F w d → Q w H) : rIxL K v (.int (i : Int)) H Q := by
  obtain ⟨a, vs, rfl, h1, h2⟩ := dp_lst h
  obtain ⟨w, e1, e2⟩ := dpa_get h2 e
  exact ⟨a, vs, i, w, rfl, rfl, s.seq h1, atI_nat e1, k w e2⟩
theorem gtupD {n : Nat} {t : TGs} {R : L2.St → Hp → Prop} (h : Dp K F v (.tuple ds)) (s : Same F H) (k : ∀ vs, DpAll K F vs ds → t vs σ H R) (hn : ds.length = n := by rfl) : gTup K n t v σ H R := by
  obtain ⟨a, vs, rfl, h1, h2⟩ := dp_tup h
  exact ⟨a, vs, rfl, seqT s h1, (dpa_len h2).trans hn, k vs h2⟩
theorem dpa2 {d1 d2 : PyData} (h : DpAll K F vs [d1, d2]) : ∃ v1 v2, vs = [v1, v2] ∧ Dp K F v1 d1 ∧ Dp K F v2 d2 := by
  cases h with
  | cons h1 h2 =>
    cases h2 with
    | cons h2 h3 =>
      cases h3
      exact ⟨_, _, rfl, h1, h2⟩
theorem dpa1 {d1 : PyData} (h : DpAll K F vs [d1]) : ∃ v1, vs = [v1] ∧ Dp K F v1 d1 := by
  cases h with
  | cons h1 h2 =>
    cases h2
    exact ⟨_, rfl, h1⟩
theorem eqD (h1 : Dp K F v d) (h2 : Dp K F w e) (s : Same F H) (o1 : SeqAt.shaped d = true) (o2 : SeqAt.shaped e = true) (k : Q (.bl (PyData.eqv d e)) H) : rEqD K v w H Q := ⟨d, e, dp_same s h1, dp_same s h2, o1, o2, k⟩
theorem neD (h1 : Dp K F v d) (h2 : Dp K F w e) (s : Same F H) (o1 : SeqAt.shaped d = true) (o2 : SeqAt.shaped e = true) (k : Q (.bl (!PyData.eqv d e)) H) : rNeD K v w H Q := ⟨d, e, dp_same s h1, dp_same s h2, o1, o2, k⟩
/-- t + u -/
theorem catD (W : Ws L F0 H0 F H) (h1 : Dp K F v (.tuple ds)) (h2 : Dp K F w (.tuple es)) (hz : ds.length + es.length ≤ 100000) (k : ∀ r F' H', Ws L F0 H0 F' H' → Same F F' → Dp K F' r (.tuple (ds ++ es)) → Q r H') : rCatA K v w H Q := by
  obtain ⟨a, vs, rfl, a1, a2⟩ := dp_tup h1
  obtain ⟨b, ws, rfl, b1, b2⟩ := dp_tup h2
  refine ⟨a, b, vs, ws, rfl, rfl, seqT W.fh a1, seqT W.fh b1, by rw [dpa_len a2, dpa_len b2]; exact Nat.le_trans hz (by decide), fun e => ?_, fun e1 e2 => ?_, fun e1 e2 p hp => ?_⟩
  · subst e
    have := dpa_len a2
    have e : ds = [] := List.length_eq_zero_iff.mp this.symm
    subst e
    exact k _ _ _ W (Same.refl _) h2
  · subst e2
    have := dpa_len b2
    have e : es = [] := List.length_eq_zero_iff.mp this.symm
    subst e
    rw [List.append_nil] at k
    exact k _ _ _ W (Same.refl _) h1
  · have s := same_new (o := .tup (vs ++ ws)) (W.freeF hp)
    exact k _ _ _ (W.dat hp) s (.tup (SqT.of upd_same) (dpa_app (dpa_same s a2) (dpa_same s b2)))
/-- t[lo:hi] -/
theorem slT {lo hi : Option Int} (W : Ws L F0 H0 F H) (h1 : Dp K F v (.tuple ds)) (k : ∀ r F' H', Ws L F0 H0 F' H' → Same F F' → Dp K F' r (.tuple (cutD ds lo hi)) → Q r H') : rSlA K v lo hi H Q := by
  obtain ⟨a, vs, rfl, a1, a2⟩ := dp_tup h1
  refine ⟨a, vs, rfl, seqT W.fh a1, fun e => ?_, fun e p hp => ?_⟩
  · have hw : cutD ds lo hi = ds := by
      unfold cutD
      rw [dpa_len a2] at e
      rw [e.1, e.2]
      simp
    rw [hw] at k
    exact k _ _ _ W (Same.refl _) h1
  · have s := same_new (o := .tup (cutV vs lo hi)) (W.freeF hp)
    exact k _ _ _ (W.dat hp) s (.tup (SqT.of upd_same) (dpa_same s (dpa_cut a2)))
theorem slD {lo hi : Option Int} (W : Ws L F0 H0 F H) (h1 : Dp K F v (.list ds)) (k : ∀ r F' H', Ws L F0 H0 F' H' → Same F F' → Dp K F' r (.list (cutD ds lo hi)) → Q r H') : rSlL K v lo hi H Q := by
  obtain ⟨a, vs, rfl, a1, a2⟩ := dp_lst h1
  refine ⟨a, vs, rfl, W.fh.seq a1, fun p hp => ?_⟩
  have s := same_new (o := .lst (cutV vs lo hi)) (W.freeF hp)
  exact k _ _ _ (W.dat hp) s (.lst (SqL.of upd_same) (dpa_same s (dpa_cut a2)))
/-! isinstance over data -/
def tyN : PyData → String
  | .none => "NoneType"
  | .bool _ => "bool"
  | .int _ => "int"
  | .str _ => "str"
  | .list _ => "list"
  | .tuple _ => "tuple"
  | .dict _ => "dict"
theorem ty_dp (h : Dp K H v d) : TyX K H v (.type (tyN d)) := by
  cases h with
  | non => exact .base .non
  | bl b => exact .base (.bl b)
  | int i => exact .base (.int i)
  | str z => exact .base (.str z)
  | lst h _ =>
    rcases h with (h | ⟨o, h⟩) | ⟨o, its, n, h, hc, _⟩
    · exact .base (.lst h)
    · exact .base (.frz h)
    · exact .kList h hc
  | tup h _ =>
    rcases h with (h | ⟨o, h⟩) | ⟨o, its, n, h, hc, _⟩
    · exact .base (.tup h)
    · exact .fTuple h
    · exact .kTuple h hc
end
end Z

/-! ### isinstance, in, for over data; tuple(d.items()) -/
namespace Z
open PySem PySem.Spec L2 PyProof.Rows
section
variable {K : PySem.W.Frag} {F F' H H' F0 H0 : Hp} {L : List (Addr × HO)} {Q : VK} {vs xs : List V} {ds es : List PyData} {d e : PyData} {v w x : V} {a p : Addr} {σ : L2.St} {i : Nat}
def isTy (T : String) (d : PyData) : Bool := tyN d == T || (T == "int" && tyN d == "bool")
theorem kitN : ∀ n ∈ ["NoneType", "bool", "int", "str", "list", "tuple", "dict"], ∀ T ∈ ["str", "int", "bool", "list", "tuple"], kitB n T = some (n == T || (T == "int" && n == "bool")) := by decide +kernel
theorem tyN_in (d : PyData) : tyN d ∈ ["NoneType", "bool", "int", "str", "list", "tuple", "dict"] := by cases d <;> simp [tyN]
theorem kitD {T : String} (hT : T ∈ ["str", "int", "bool", "list", "tuple"]) : PySem.W.kitOne K (.type (tyN d)) (.type T) = some (isTy T d) := kit_ty (kitN _ (tyN_in d) T hT)
theorem isiD {T : String} (h : Dp K F v d) (s : Same F H) (hT : T ∈ ["str", "int", "bool", "list", "tuple"]) (k : Q (.bl (isTy T d)) H) : rIsi K [v, .ty T] H Q := ⟨v, .ty T, _, .type T, _, rfl, .ty T, ty_dp (dp_same s h), kitD hT, k⟩
theorem kitSeq : PySem.W.kitAny K (.type (tyN d)) [.type "list", .type "tuple"] = some (isTy "list" d || isTy "tuple" d) :=
  kitAny_cons (kitD (by simp)) (fun e => kitAny_cons (kitD (by simp)) (fun e2 => by rw [e, e2]; exact kitAny_nil) (fun e2 => by rw [e2]; simp)) (fun e => by rw [e]; rfl)
theorem isiSeq (h : Dp K F v d) (s : Same F H) (hp : H p = some (.tup [.ty "list", .ty "tuple"])) (k : Q (.bl (isTy "list" d || isTy "tuple" d)) H) : rIsiT K [v, .ref p] H Q :=
  ⟨v, p, _, _, _, _, rfl, hp, .cons (.ty "list") (.cons (.ty "tuple") .nil), ty_dp (dp_same s h), kitSeq, k⟩
def rInDT (K : PySem.W.Frag) : R2 := fun x y H Q => ∃ d ds, Dp K H x d ∧ Dp K H y (.tuple ds) ∧ SeqAt.shaped d = true ∧ SeqAt.shaped (.tuple ds) = true ∧ Q (.bl (ds.any fun z => PyData.eqv z d)) H
theorem op_inDT {X : Cx} (hu : X.A.units + 65 < cLine) : OpR X (compareOp .In) (rInDT X.K) := by
  intro pins s σ H x y v u Q I rx ry h
  obtain ⟨d, ds, hd, he, sd, se, q⟩ := h
  obtain ⟨as, r1⟩ := Dp.reads I d x v hd rx
  obtain ⟨bs, r2⟩ := Dp.reads I (.tuple ds) y u he ry
  exact SeqAt.in_tuple_reads r2 r1 (SeqAt.canLay_of_shaped se) (SeqAt.canLay_of_shaped sd) (room_in_shaped sd hu) ⟨.bl _, H, I, rfl, q⟩
theorem hu65 {k : Nat} {A : Around} (r : Room k A) : A.units + 65 < cLine := by have := r.un; omega
theorem din {ty td : TE} (h : ty σ H fun y H1 => td σ H1 fun x H2 => ∃ a o, x = .ref a ∧ DGet H2 a y o ∧ Q (.bl o.isSome) H2) : tDIn ty td σ H Q := h
theorem dnotin {ty td : TE} (h : ty σ H fun y H1 => td σ H1 fun x H2 => ∃ a o, x = .ref a ∧ DGet H2 a y o ∧ Q (.bl (!o.isSome)) H2) : tDNotIn ty td σ H Q := h
theorem lcE {wi : TI} {g : TG} {tt : TT} {te : TE} {ws : List Nat} (h : wi σ H fun J H1 => ∀ D, H1 D = none → ∃ W : Nat → Nat → Hp → Prop, (∃ m, W 0 m (upd H1 D (.lst []))) ∧ ∀ i m H, W i m H →
  (J.stop i H ∧ Q (.ref D) H) ∨ (J.go i H ∧ ∃ Nx : Hp → Prop, (∀ H', Nx H' → ∃ m', m' < m ∧ W (i + 1) m' H') ∧ ∀ x H', J.yld i H x H' → g x (wipe σ ws) H' fun σ2 H2 => wipe σ2 ws = wipe σ ws ∧ tt σ2 H2 fun b H3 =>
    if b = true then te σ2 H3 fun y H4 => ∃ acc, H4 D = some (.lst acc) ∧ acc.length < sizeLine ∧ Nx (upd H4 D (.lst (acc ++ [y]))) else Nx H3)) : tLc wi g tt te ws σ H Q := h
theorem iTupE {te : TE} {R : It → Hp → Prop} (h : te σ H fun x H1 => ∃ a, x = .ref a ∧ (∃ xs, SqT K H1 a xs) ∧ R (Itt K a) H1) : iTup K te σ H R := h
theorem iListE {te : TE} {R : It → Hp → Prop} (h : te σ H fun x H1 => ∃ a, x = .ref a ∧ (∃ xs, SqL K H1 a xs) ∧ R (Itl K a) H1) : iList K te σ H R := h
theorem iEnumE {ta : TA} {R : It → Hp → Prop} (h : ta σ H fun vs H1 => ∃ a xs, vs = [.ref a] ∧ SqL K H1 a xs ∧ R (Ite K a) H1) : iEnum K ta σ H R := h
theorem iZipAE {ta : TA} {R : It → Hp → Prop} (h : ta σ H fun vs H1 => ∃ a b xs ys, vs = [.ref a, .ref b] ∧ ((SqL K H1 a xs ∧ SqL K H1 b ys ∧ R (Itz K a b) H1) ∨ (SqT K H1 a xs ∧ SqT K H1 b ys ∧ R (RZ.ItzT K a b) H1))) : RZ.iZipA K ta σ H R := h
theorem forE {wi : TI} {g : TG} {ts : TS} {D : Ends} (h : wi σ H fun J H1 => ∃ W : Nat → Nat → L2.St → Hp → Prop, (∃ m, W 0 m σ H1) ∧ ∀ i m σ H, W i m σ H →
      (J.stop i H ∧ D.nx σ H) ∨ (J.go i H ∧ ∃ N : L2.St → Hp → Prop, (∀ σ' H', N σ' H' → ∃ m', m' < m ∧ W (i + 1) m' σ' H') ∧ ∀ x H', J.yld i H x H' → g x σ H' fun σ2 H2 => ts { D with nx := N, ct := N, bk := D.nx } σ2 H2)) : tFor wi g ts D σ H := h
/-- for over a list or a tuple -/
def iSeq (K : PySem.W.Frag) (tl : TE) : TI := fun σ H R => tl σ H fun x H1 => ∃ a, x = .ref a ∧ (((∃ xs, SqL K H1 a xs) ∧ R (Itl K a) H1) ∨ ((∃ xs, SqT K H1 a xs) ∧ R (Itt K a) H1))
theorem pi_seq {X : Cx} {tg l : Expr} {tl : TE} (hl : PE X l tl) : PI X tg l (iSeq X.K tl) := by
  refine ⟨fun pins s σ H R I h => ?_⟩
  refine thn (hl.run pins s σ H _ I h) fun v s1 ⟨x, H1, I1, r1, q1⟩ => ?_
  obtain ⟨a, e, q⟩ := q1
  subst e
  cases r1
  rcases q with ⟨⟨xs, hq⟩, q⟩ | ⟨⟨xs, hq⟩, q⟩
  · obtain ⟨its, rv, p, hz⟩ := I1.list hq
    refine wpAny_pyIter_list p.isList ?_
    refine ⟨s1.heap.objs.size, [s1.heap.objs.size], _, _, H1, rfl, I1.kept (t' := s1.toks) fun b o e => Heap.get?_push_of_some _ e, turn_list a _, ⟨_, Heap.get?_push_size _ rfl, rfl, rfl⟩, fun b hb => ?_, q⟩
    have e : b = s1.heap.objs.size := by simpa using hb
    subst e
    exact I1.fpOk (Nat.le_refl _) (I1.hok.fresh (Nat.le_refl _))
  · obtain ⟨its, rv, p, hz⟩ := I1.tuple hq
    refine wpAny_pyIter_tuple (show s1.heap.IsTuple a its.toArray from p) ?_
    refine ⟨s1.heap.objs.size, [s1.heap.objs.size], _, _, H1, rfl, I1.kept (t' := s1.toks) fun b o e => Heap.get?_push_of_some _ e, turn_tuple a _, ⟨_, Heap.get?_push_size _ rfl, rfl, rfl⟩, fun b hb => ?_, q⟩
    have e : b = s1.heap.objs.size := by simpa using hb
    subst e
    exact I1.fpOk (Nat.le_refl _) (I1.hok.fresh (Nat.le_refl _))
theorem forSq {te : TE} {g : TG} {ts : TS} {D : Ends} {σ : L2.St} {H : Hp} (h : te σ H fun x H1 => ∃ a, x = .ref a ∧ (((∃ xs, SqL K H1 a xs) ∧ ∃ W : Nat → Nat → L2.St → Hp → Prop, (∃ m, W 0 m σ H1) ∧ ∀ i m σ H, W i m σ H →
      ((Itl K a).stop i H ∧ D.nx σ H) ∨ ((Itl K a).go i H ∧ ∃ N : L2.St → Hp → Prop, (∀ σ' H', N σ' H' → ∃ m', m' < m ∧ W (i + 1) m' σ' H') ∧ ∀ x H', (Itl K a).yld i H x H' → g x σ H' fun σ2 H2 => ts { D with nx := N, ct := N, bk := D.nx } σ2 H2)) ∨
      ((∃ xs, SqT K H1 a xs) ∧ ∃ W : Nat → Nat → L2.St → Hp → Prop, (∃ m, W 0 m σ H1) ∧ ∀ i m σ H, W i m σ H →
      ((Itt K a).stop i H ∧ D.nx σ H) ∨ ((Itt K a).go i H ∧ ∃ N : L2.St → Hp → Prop, (∀ σ' H', N σ' H' → ∃ m', m' < m ∧ W (i + 1) m' σ' H') ∧ ∀ x H', (Itt K a).yld i H x H' → g x σ H' fun σ2 H2 => ts { D with nx := N, ct := N, bk := D.nx } σ2 H2)))) : tFor (iSeq K te) g ts D σ H := h
/-- a for over a list or a tuple of which each turn keeps what stands -/
theorem forSqD {g : TG} {ts : TS} {D : Ends} {σ : L2.St} {Hb H1 : Hp} (hq : SqL K H1 a xs ∨ SqT K H1 a xs) (Pv : Nat → L2.St → Hp → Prop) (h0 : Pv 0 σ H1) (hb : SqL K Hb a xs ∨ SqT K Hb a xs) (hk : ∀ i σ H, Pv i σ H → Same Hb H)
    (hs : ∀ i x σ H, xs[i]? = some x → Pv i σ H → g x σ H fun σ2 H2 => ts { D with nx := Pv (i + 1), ct := Pv (i + 1), bk := D.nx } σ2 H2) (hd : ∀ σ H, Pv xs.length σ H → D.nx σ H) :
    ∃ b, V.ref a = .ref b ∧ (((∃ xs, SqL K H1 b xs) ∧ ∃ W : Nat → Nat → L2.St → Hp → Prop, (∃ m, W 0 m σ H1) ∧ ∀ i m σ H, W i m σ H →
      ((Itl K b).stop i H ∧ D.nx σ H) ∨ ((Itl K b).go i H ∧ ∃ N : L2.St → Hp → Prop, (∀ σ' H', N σ' H' → ∃ m', m' < m ∧ W (i + 1) m' σ' H') ∧ ∀ x H', (Itl K b).yld i H x H' → g x σ H' fun σ2 H2 => ts { D with nx := N, ct := N, bk := D.nx } σ2 H2)) ∨
      ((∃ xs, SqT K H1 b xs) ∧ ∃ W : Nat → Nat → L2.St → Hp → Prop, (∃ m, W 0 m σ H1) ∧ ∀ i m σ H, W i m σ H →
      ((Itt K b).stop i H ∧ D.nx σ H) ∨ ((Itt K b).go i H ∧ ∃ N : L2.St → Hp → Prop, (∀ σ' H', N σ' H' → ∃ m', m' < m ∧ W (i + 1) m' σ' H') ∧ ∀ x H', (Itt K b).yld i H x H' → g x σ H' fun σ2 H2 => ts { D with nx := N, ct := N, bk := D.nx } σ2 H2))) := by
  refine ⟨a, rfl, ?_⟩
  rcases hb with hb | hb
  · exact .inl ⟨⟨xs, (hk _ _ _ h0).seq hb⟩, for_list Pv h0 (fun i σ H hi p => (hk i σ H p).seq hb) hs hd⟩
  · exact .inr ⟨⟨xs, seqT (hk _ _ _ h0) hb⟩, for_tup Pv h0 (fun i σ H hi p => seqT (hk i σ H p) hb) hs hd⟩
end
end Z
/-! tuple(d.items()) -/
namespace ZT
open PySem PySem.Spec L2 PyProof.Rows
section
variable {prog : Program} {w : World} {Kk : Type} [DecidableEq Kk] {knd : KeyKind prog w Kk} {A : Around} {E : Value → Shared → Prop} {s : Shared} {r d : Addr} {kvs : List (Kk × Value)} {ep : Nat}
theorem call_tuple_items {Q : Value → Shared → Prop} (hh : A.handled = none) (hv : s.heap.IsItemsView r d) (hm : s.heap.DictAt knd d kvs ep) (hn : kvs.length ≤ sizeLine)
    (hQ : ∀ (h' : Heap) (tk : Nat) (as : List Addr), (∀ b o, s.heap.get? b = some o → h'.get? b = some o) → as.length = kvs.length → PySem.W.KdxG knd kvs s.heap.objs.size h' as →
      Q (.ref h'.objs.size) { s with heap := h'.push { cls := .type "tuple", data := .seq (as.map Value.ref).toArray }, toks := tk }) :
    wpAny (model prog w) A (call (.type "tuple") [.ref r]) Q E s := by
  have key : codeAny (model prog w) A.in1 (.call (.builtin "tuple.__new__") ⟨[.type "tuple", .ref r], []⟩) (wants (fun obj s₁ => s₁.TypeIs obj "tuple" ∧ Q obj s₁) E) s := by
    refine codeAny_of_tree ?_
    show wpAny _ A.in1.in1 (do checkBuiltinCall "tuple.__new__" ⟨[.type "tuple", .ref r], []⟩; again (.builtin "tuple.__new__" ⟨[.type "tuple", .ref r], []⟩)) _ _ s
    refine wpAny_bind (wpAny_of_eq (F.newCall_tuple_1 _) (wpAny_pure ⟨plainId_quiet F.plain_tuple_new _, codeAny_builtin F.entry_tuple_new ?_⟩))
    rw [Around.under_plainId F.plain_tuple_new _]
    have hsub := sub_tuple_self
    have hinit := init_tuple_lookup
    have hmh := madeHere_tuple
    obtain ⟨o, ho, hc, hdt⟩ := id hv
    have hTI : s.TypeIs (.ref r) "dict_items" := ⟨o, ho, hc⟩
    have hh1 : A.in1.in1.handled = none := hh
    wp_walk using wpAny_typeOf hTI, PySem.W.kdx_collect (A := A.in1.in1) (knd := knd) (kvs := kvs) (ep := ep) hh1 hv hm hn
    intro h' tk as hk hl hG
    show wpAny _ _ (Builtin.Tuple.tupleExact (as.map Value.ref).toArray >>= fun v => ret v) _ _ _
    unfold Builtin.Tuple.tupleExact
    refine wpAny_bind (wpAny_newObj_type ?_ (by show (as.map Value.ref).toArray.size ≤ sizeLine; simp; omega))
    refine wpAny_pure ?_
    exact ⟨⟨_, Heap.get?_push_size _ rfl, rfl⟩, hQ h' tk as hk hl hG⟩
  refine callType_codes (Q₁ := fun obj s₁ => s₁.TypeIs obj "tuple" ∧ Q obj s₁) F.called_tuple (F.typeCall_tuple_1 _) F.entry_object_init key fun obj s₁ h₁ => ?_
  exact ⟨h₁.1, F.args_object_init_2 obj _, object_init_meets F.called_tuple.init.lookup F.called_tuple.made (by decide) prog w A.in1 _ s₁ ⟨h₁.1, rfl, h₁.2⟩⟩
end
theorem items_laid2 {X : Cx} {pins : List (Addr × Obj)} {σ : L2.St} {H : Hp} {s : Shared} {h' : Heap} {tk : Nat} {kvs : List (Key × V)} {vs : List (Key × Value)} {as : List Addr} (I : Inv X pins σ H s) (hz : kvs.length ≤ sizeLine) (kv : KV kvs vs)
    (hk : ∀ b o, s.heap.get? b = some o → h'.get? b = some o) (hl : as.length = vs.length) (hG : PySem.W.KdxG (mixKind X.prog X.w) vs s.heap.objs.size h' as) :
    ∃ H' : Hp, (∀ b o, H b = some o → H' b = some o) ∧ (∀ t ∈ as, H t = none) ∧ (∀ b, b ∉ as → H' b = H b) ∧ Paired (fun (t : Addr) (q : Key × V) => H' t = some (.tup [kV q.1, q.2])) as kvs ∧ Inv X pins σ H' { s with heap := h', toks := tk } := by
  have lk : kvs.length = vs.length := Paired.length kv
  have nd : as.Nodup := List.Pairwise.imp (fun {a b} (h : a < b) => Nat.ne_of_lt h) hG.rise
  have new : ∀ t ∈ as, H t = none := fun t ht => I.hok.fresh (Nat.le_of_lt (hG.above t ht))
  have atP := LiI.putT_at as kvs H (by omega) nd
  have off : ∀ b, b ∉ as → LiI.putT H as kvs b = H b := fun b h1 => LiI.putT_off as kvs _ h1
  have low : ∀ b o, s.heap.get? b = some o → b ∉ as := fun b o e z => absurd (Heap.lt_size e) (Nat.not_lt.mpr (Nat.le_of_lt (hG.above b z)))
  have kp : ∀ b u, H b = some u → (LiI.putT H as kvs) b = some u := fun b u e => by
    rw [off b (fun z => by rw [new b z] at e; cases e)]
    exact e
  refine ⟨LiI.putT H as kvs, kp, new, off, atP, ?_⟩
  refine I.call' (ch := []) rfl ⟨fun b o q _ _ _ => hk b o q, fun b o q _ _ _ => ⟨o.slots, hk b o q⟩, fun b o q n _ => ?_, fun b o q _ => ⟨o, hk b o q⟩, fun b xs q => kp b _ q, fun b o u q => kp b _ q, fun b ps q => ⟨#[], by rw [kp b _ q]; simp⟩⟩ (fun b u q => ?_) I.bare fun b z => by simp at z
  · rw [off b (low b o q)]
    exact n
  · by_cases hb : b ∈ as
    · obtain ⟨j, pk, e1, e2, e3⟩ := LiI.paired_ix atP hb
      rw [e3] at q
      cases q
      obtain ⟨key, k, x, f1, f2, f3⟩ := hG.pairs j b e1
      obtain ⟨qv, g1, g2, g3⟩ := LiI.paired_get kv e2
      rw [f1] at g1
      cases g1
      have rk : RelV (kV pk.1) key := by
        rw [g2]
        exact relV_key (show keyIs k key = true from f2)
      exact ⟨by show 2 ≤ sizeLine; decide, [key, x], .cons rk (.cons g3 .nil), ⟨_, f3, rfl, _, rfl⟩⟩
    · rw [off b hb] at q
      exact (I.hok b u q).stay (fun d v _ y => hk d v y) (fun d y => kp d _ y) fun d xs y => kp d _ y
/-- tuple(e.items()): a new tuple of new pairs -/
def rItemsT2 : V → Hp → VK → Prop := fun x H Q => ∃ (d : Addr) (kvs : List (Key × V)), x = .ref d ∧ H d = some (.dK kvs) ∧
  ∀ (H' : Hp) (p : Addr) (ts : List Addr), Same H H' → H p = none → (∀ t ∈ ts, H t = none) → (∀ b, b ∉ ts → H' b = H b) → H' p = none → Paired (fun (t : Addr) (q : Key × V) => H' t = some (.tup [kV q.1, q.2])) ts kvs → Q (.ref p) (upd H' p (.tup (ts.map V.ref)))
def tTupItems (te : TE) : TE := fun σ H Q => te σ H fun x H1 => rItemsT2 x H1 Q
theorem pe_tupItems {X : Cx} {e : Expr} {te : TE} {p apos cpos pos : Pos} (hc : X.calm = true) (he : PE X e te) (hg : Gl X "tuple") (hm : X.mg "tuple" = none) (hbase : attributeBase e "items" X.env (eval e X.env) = eval e X.env := by rfl) (hline : (apos.endLine == cpos.line) = true := by rfl)
    (hs : starEach [.Call (.Attribute e "items" apos) [] [] cpos] X.env = (false, eval (.Call (.Attribute e "items" apos) [] [] cpos) X.env) :: starEach [] X.env := by rfl) :
    PE X (.Call (.Name "tuple" p) [.Call (.Attribute e "items" apos) [] [] cpos] [] pos) (tTupItems te) := by
  refine ⟨fun pins s σ H Q I hq => ?_⟩
  refine wpAny_Call_Name_kw (ld_blt I hg hm boot_tuple ?_)
  refine PyProof.Rows.callWith_type1 ?_ hs rfl
  rw [hs]
  show wpAny _ _ (spliced ((false, eval (.Call (.Attribute e "items" apos) [] [] cpos) X.env) :: backTo pos (starEach [] X.env))) _ _ s
  refine Calls.spliced_cons ?_
  refine wpAny_Call_method (T := "dict") (id := "dict.items") hbase rfl hline F.plainAttrs_dict F.slot_dict_items F.type_dict_items (thn (he.run pins s σ H _ I hq) fun u s1 ⟨x, H1, I1, rx, d, kvs, ex, hd, q⟩ => ?_)
  subst ex
  obtain rfl : u = Value.ref d := rx
  obtain ⟨hz, hs0, vs, kv, hdo⟩ := I1.hok d _ hd
  obtain ⟨ep, hat⟩ := hdo.dictAt
  have lk : kvs.length = vs.length := Paired.length kv
  have I2 : Inv X pins σ H1 { s1 with heap := s1.heap.push { cls := .type "dict_items", data := .fields #[.ref d] } } := I1.kept (t' := s1.toks) fun b ob q => Heap.get?_push_of_some _ q
  refine ⟨hdo.typeIs, hdo.mapOf.noDict, ?_⟩
  show wpAny _ _ (callWith cpos (.builtin "dict.items") [.ref d] [] []) _ X.xe s1
  refine method_meetsIn F.slot_dict_items F.entry_dict_items rfl (PySem.evalArgs_none ⟨rfl, hdo.typeIs, F.args_dict_items_1 _, _, meets_dict_items (mixKind X.prog X.w) d hs0, ⟨vs, hdo⟩, ?_⟩)
  refine Calls.spliced_nil ?_
  refine call_tuple_items (knd := mixKind X.prog X.w) (kvs := vs) (ep := ep) (I1.ok.hd hc) ⟨_, Heap.get?_push_size _ rfl, rfl, rfl⟩ (hat.push _) (by omega) fun h' tk as hk hl hG => ?_
  obtain ⟨H', k1, k3, k4, k5, J⟩ := items_laid2 (tk := tk) I2 hz kv hk hl hG
  have hp : H1 h'.objs.size = none := by
    refine I1.hok.fresh ?_
    exact Nat.le_of_lt (Heap.lt_size (hk _ _ (Heap.get?_push_size s1.heap (o := { cls := .type "dict_items", data := .fields #[.ref d] }) rfl)))
  have hp' : H' h'.objs.size = none := J.hok.fresh (Nat.le_refl _)
  refine ⟨.ref h'.objs.size, upd H' h'.objs.size (.tup (as.map V.ref)), J.laid (t' := tk) (fun c o e => Heap.get?_push_of_some _ e) (Nat.le_refl _) (show ObjOk X.prog X.w _ _ _ (.tup (as.map V.ref)) from ⟨?_, as.map Value.ref, LiI.vals_refs as, IsTup.new _ _⟩), rfl, q H' _ as k1 hp k3 k4 hp' k5⟩
  rw [List.length_map]
  omega
end ZT

/-! ### defs with a default -/
namespace FD
open PySem PySem.Spec L2 PyProof.Rows
def Dfn (K : PySem.W.Frag) (x q : Str) (st : Stmt) (ps : List Str) (dvs : List V) (f : Addr) : Prop := ∃ fd, FunD K x q (defArgs st) (defBody st) (defScope st) dvs [] f fd ∧ Binds K fd ps [] ∧ ∃ ds, Vals dvs ds ∧ Binds K fd ps ds
theorem Dfn.kp {K : PySem.W.Frag} {x q : Str} {st : Stmt} {ps : List Str} {dvs : List V} {f : Addr} (d : Dfn K x q st ps dvs f) : PySem.W.keepIn K (.ref f) = true := let ⟨_, F, _⟩ := d; F.kp
section
variable {P : Program} {w : World} {K : PySem.W.Frag} {mg : Str → Option Value} {base : Heap} {x qual : Str} {params : Arguments} {body : List Stmt} {scope : Scope} {dvs : List V} {kws : List (Str × V)} {f : Addr} {fd : FuncData}
theorem ok0 {N ps : List Str} {k : Nat} {sp : Sp} (F : FunD K x qual params body scope dvs kws f fd) (S : FnScope N ps scope) (len : ∀ vs H Q E, sp vs H Q E → vs.length = ps.length)
    (hbody : ∀ (cdv : Value) (A : Around) (outer : List Env) (s : Shared) (H : Hp) (vs : List V) (Q : VK) (E : XK), Room k (A.deeper (envOfC qual scope s.heap.objs.size f cdv)) → sp vs H Q E →
      ∃ t, PSs (cxOf CX0 P w K mg base N qual scope f cdv A outer s H E).nox body t ∧ t { nx := fun _ H' => Q .non H', rt := Q } (start N vs) H) : FnOk P w K mg base CX0 (k + 1) f fd ps sp :=
  F.ok S len fun cdv A outer s H vs Q E hr hsp => let ⟨t, h, q⟩ := hbody cdv A outer s H vs Q E hr hsp; ⟨t, h.nox, q⟩
theorem okX {CX : CXT} {N ps : List Str} {k : Nat} {sp : Sp} (F : FunD K x qual params body scope dvs kws f fd) (S : FnScope N ps scope) (len : ∀ vs H Q E, sp vs H Q E → vs.length = ps.length)
    (hbody : ∀ (cdv : Value) (A : Around) (outer : List Env) (s : Shared) (H : Hp) (vs : List V) (Q : VK) (E : XK), Room k (A.deeper (envOfC qual scope s.heap.objs.size f cdv)) → sp vs H Q E →
      ∃ t, PSs (cxOf CX P w K mg base N qual scope f cdv A outer s H E) body t ∧ t { nx := fun _ H' => Q .non H', rt := Q } (start N vs) H) : FnOk P w K mg base CX (k + 1) f fd ps sp := F.ok S len hbody
theorem mk {st : Stmt} {q : Str} {T : Addr} {oc oc2 : Value} {od od2 an : Option Addr} {osl osl2 : Array (Option Value)} {kV doc pm cdv ct : Value} {m : Nat} {ps : List Str} (l : K.lookup f = some ⟨oc, od, .func (PySem.W.fnOf x q (defArgs st) (defBody st) (defScope st) (.ref T) kV doc pm an cdv ct), osl⟩)
    (c : PySem.W.codeIn K cdv q = true) (k : PySem.W.keepIn K (.ref f) = true) (lD : K.lookup T = some ⟨oc2, od2, .seq #[.none] m, osl2⟩)
    (h1 : ∀ (T : Addr) (kV doc pm : Value) (an : Option Addr) (cdv ct : Value) (us its : List Value), us.length = ps.length → its.length = 1 →
      ∃ k, bindArgs (PySem.W.fnOf x q (defArgs st) (defBody st) (defScope st) (.ref T) kV doc pm an cdv ct) ⟨us, []⟩ = seqItems? (.ref T) >>= k ∧ k (some its.toArray) = pure (ps.zip (us ++ its.drop 1)))
    (h2 : ∀ (T : Addr) (kV doc pm : Value) (an : Option Addr) (cdv ct : Value) (us its : List Value), us.length = ps.length - 1 → its.length = 1 →
      ∃ k, bindArgs (PySem.W.fnOf x q (defArgs st) (defBody st) (defScope st) (.ref T) kV doc pm an cdv ct) ⟨us, []⟩ = seqItems? (.ref T) >>= k ∧ k (some its.toArray) = pure (ps.zip (us ++ its.drop 0)))
    (hp : 0 < ps.length := by decide) : Dfn K x q st ps [.non] f := by
  have F : FunD K x q (defArgs st) (defBody st) (defScope st) [.non] [] f _ := ⟨⟨oc, od, .ref T, kV, doc, pm, an, cdv, ct, osl, rfl, l, c, .inr ⟨by simp, T, _, [.none], m, rfl, lD, rfl, .cons rfl .nil⟩, .inl rfl⟩, k⟩
  obtain ⟨ds, v, b⟩ := F.binds1 (ps := ps) ps.length 1 (by simp) (by simp) h1
  cases v
  exact ⟨_, F, b, F.binds1 (ps := ps) (ps.length - 1) 0 (by simp) (by simp; omega) h2⟩
end
end FD

/-! ### data, dicts among it -/
namespace Z
open PySem PySem.Spec L2 PyProof.Rows
mutual
inductive DX (K : PySem.W.Frag) (H : Hp) : V → PyData → Prop
  | non : DX K H .non .none
  | bl (b : Bool) : DX K H (.bl b) (.bool b)
  | int (i : Int) : DX K H (.int i) (.int i)
  | str (x : Str) : DX K H (.str x) (.str x)
  | lst {a : Addr} {xs : List V} {ds : List PyData} : SqL K H a xs → DXs K H xs ds → DX K H (.ref a) (.list ds)
  | tup {a : Addr} {xs : List V} {ds : List PyData} : SqT K H a xs → DXs K H xs ds → DX K H (.ref a) (.tuple ds)
  | dic {a : Addr} {kv : List (Key × V)} : H a = some (.dK kv) → DX K H (.ref a) (.dict [])
inductive DXs (K : PySem.W.Frag) (H : Hp) : List V → List PyData → Prop
  | nil : DXs K H [] []
  | cons {v : V} {vs : List V} {d : PyData} {ds : List PyData} : DX K H v d → DXs K H vs ds → DXs K H (v :: vs) (d :: ds)
end
section
variable {K : PySem.W.Frag} {F H H' H0 F0 : Hp} {v w : V} {d : PyData} {vs ws : List V} {ds es : List PyData} {L : List (Addr × HO)} {Q : VK} {σ : L2.St}
theorem dx_same (e : Same H H') (h : DX K H v d) : DX K H' v d :=
  DX.rec (motive_1 := fun v d _ => DX K H' v d) (motive_2 := fun vs ds _ => DXs K H' vs ds) .non .bl .int .str (fun h _ k => .lst (e.seq h) k) (fun h _ k => .tup (seqT e h) k) (fun h => .dic (e _ _ h)) .nil (fun _ _ a b => .cons a b) h
theorem dxs_same (e : Same H H') (h : DXs K H vs ds) : DXs K H' vs ds :=
  DXs.rec (motive_1 := fun v d _ => DX K H' v d) (motive_2 := fun vs ds _ => DXs K H' vs ds) .non .bl .int .str (fun h _ k => .lst (e.seq h) k) (fun h _ k => .tup (seqT e h) k) (fun h => .dic (e _ _ h)) .nil (fun _ _ a b => .cons a b) h
theorem dx_of (h : Dp K H v d) : DX K H v d :=
  Dp.rec (motive_1 := fun v d _ => DX K H v d) (motive_2 := fun vs ds _ => DXs K H vs ds) .non .bl .int .str (fun h _ k => .lst h k) (fun h _ k => .tup h k) .nil (fun _ _ a b => .cons a b) h
theorem dxs_of (h : DpAll K H vs ds) : DXs K H vs ds :=
  DpAll.rec (motive_1 := fun v d _ => DX K H v d) (motive_2 := fun vs ds _ => DXs K H vs ds) .non .bl .int .str (fun h _ k => .lst h k) (fun h _ k => .tup h k) .nil (fun _ _ a b => .cons a b) h
theorem dx_int {i : Int} (h : DX K H v (.int i)) : v = .int i := by cases h; rfl
theorem dx_str {z : Str} (h : DX K H v (.str z)) : v = .str z := by cases h; rfl
theorem dx_bool {b : Bool} (h : DX K H v (.bool b)) : v = .bl b := by cases h; rfl
theorem dx_none (h : DX K H v .none) : v = .non := by cases h; rfl
theorem dx_tup (h : DX K H v (.tuple ds)) : ∃ a vs, v = .ref a ∧ SqT K H a vs ∧ DXs K H vs ds := by
  cases h with
  | tup h1 h2 => exact ⟨_, _, rfl, h1, h2⟩
theorem dx_lst (h : DX K H v (.list ds)) : ∃ a vs, v = .ref a ∧ SqL K H a vs ∧ DXs K H vs ds := by
  cases h with
  | lst h1 h2 => exact ⟨_, _, rfl, h1, h2⟩
theorem dxs_len : ∀ {vs : List V} {ds : List PyData}, DXs K H vs ds → vs.length = ds.length
  | _, _, .nil => rfl
  | _, _, .cons _ r => by rw [List.length_cons, List.length_cons, dxs_len r]
theorem dxs_get : ∀ {vs : List V} {ds : List PyData} {i : Nat} {d : PyData}, DXs K H vs ds → ds[i]? = some d → ∃ v, vs[i]? = some v ∧ DX K H v d
  | _, _, i, _, .nil, e => by simp at e
  | _, _, 0, _, .cons h _, e => by cases e; exact ⟨_, rfl, h⟩
  | _, _, i + 1, _, .cons _ r, e => by
    obtain ⟨v, e1, e2⟩ := dxs_get (i := i) r (by simpa using e)
    exact ⟨v, by simpa using e1, e2⟩
theorem dxs_ix : ∀ {vs : List V} {ds : List PyData} {i : Nat} {v : V}, DXs K H vs ds → vs[i]? = some v → ∃ d, ds[i]? = some d ∧ DX K H v d
  | _, _, i, _, .nil, e => by simp at e
  | _, _, 0, _, .cons h _, e => by cases e; exact ⟨_, rfl, h⟩
  | _, _, i + 1, _, .cons _ r, e => by
    obtain ⟨v, e1, e2⟩ := dxs_ix (i := i) r (by simpa using e)
    exact ⟨v, by simpa using e1, e2⟩
theorem dxs_app : ∀ {vs ws : List V} {ds es : List PyData}, DXs K H vs ds → DXs K H ws es → DXs K H (vs ++ ws) (ds ++ es)
  | _, _, _, _, .nil, k => k
  | _, _, _, _, .cons h r, k => .cons h (dxs_app r k)
theorem dxs_drop : ∀ {vs : List V} {ds : List PyData} (n : Nat), DXs K H vs ds → DXs K H (vs.drop n) (ds.drop n)
  | _, _, 0, h => h
  | _, _, _ + 1, .nil => .nil
  | _, _, n + 1, .cons _ r => dxs_drop n r
theorem dxs_take : ∀ {vs : List V} {ds : List PyData} (n : Nat), DXs K H vs ds → DXs K H (vs.take n) (ds.take n)
  | _, _, 0, _ => .nil
  | _, _, _ + 1, .nil => .nil
  | _, _, n + 1, .cons h r => .cons h (dxs_take n r)
theorem dxs_cut {lo hi : Option Int} (h : DXs K H vs ds) : DXs K H (cutV vs lo hi) (cutD ds lo hi) := by
  unfold cutV cutD
  rw [dxs_len h]
  exact dxs_take _ (dxs_drop _ h)
/-- no dict within -/
def plain : PyData → Bool
  | .dict _ => false
  | _ => true
theorem ty_dx (h : DX K H v d) : TyX K H v (.type (tyN d)) := by
  cases h with
  | non => exact .base .non
  | bl b => exact .base (.bl b)
  | int i => exact .base (.int i)
  | str z => exact .base (.str z)
  | lst h _ =>
    rcases h with (h | ⟨o, h⟩) | ⟨o, its, n, h, hc, _⟩
    · exact .base (.lst h)
    · exact .base (.frz h)
    · exact .kList h hc
  | tup h _ =>
    rcases h with (h | ⟨o, h⟩) | ⟨o, its, n, h, hc, _⟩
    · exact .base (.tup h)
    · exact .fTuple h
    · exact .kTuple h hc
  | dic h => exact .base (.dK h)
theorem isiX {T : String} (h : DX K F v d) (s : Same F H) (hT : T ∈ ["str", "int", "bool", "list", "tuple"]) (k : Q (.bl (isTy T d)) H) : rIsi K [v, .ty T] H Q := ⟨v, .ty T, _, .type T, _, rfl, .ty T, ty_dx (dx_same s h), kitD hT, k⟩
theorem isiSeqX {p : Addr} (h : DX K F v d) (s : Same F H) (hp : H p = some (.tup [.ty "list", .ty "tuple"])) (k : Q (.bl (isTy "list" d || isTy "tuple" d)) H) : rIsiT K [v, .ref p] H Q :=
  ⟨v, p, _, _, _, _, rfl, hp, .cons (.ty "list") (.cons (.ty "tuple") .nil), ty_dx (dx_same s h), kitSeq, k⟩
theorem ixTX (h : DX K F v (.tuple ds)) (s : Same F H) (i : Nat) (e : ds[i]? = some d) (k : ∀ w, DX K F w d → Q w H) : rIxT K v (.int (i : Int)) H Q := by
  obtain ⟨a, vs, rfl, h1, h2⟩ := dx_tup h
  obtain ⟨w, e1, e2⟩ := dxs_get h2 e
  exact ⟨a, vs, i, w, rfl, rfl, seqT s h1, atI_nat e1, k w e2⟩
theorem dxs2 {d1 d2 : PyData} (h : DXs K F vs [d1, d2]) : ∃ v1 v2, vs = [v1, v2] ∧ DX K F v1 d1 ∧ DX K F v2 d2 := by
  cases h with
  | cons h1 h2 =>
    cases h2 with
    | cons h2 h3 =>
      cases h3
      exact ⟨_, _, rfl, h1, h2⟩
theorem gtupX {n : Nat} {t : TGs} {R : L2.St → Hp → Prop} (h : DX K F v (.tuple ds)) (s : Same F H) (k : ∀ vs, DXs K F vs ds → t vs σ H R) (hn : ds.length = n := by rfl) : gTup K n t v σ H R := by
  obtain ⟨a, vs, rfl, h1, h2⟩ := dx_tup h
  exact ⟨a, vs, rfl, seqT s h1, (dxs_len h2).trans hn, k vs h2⟩
/-- a piece of data made, dicts among it -/
theorem lstX (W : Ws L F0 H0 F H) (hd : DXs K F vs ds) (k : ∀ v F' H', Ws L F0 H0 F' H' → Same F F' → DX K F' v (.list ds) → Q v H') (hz : vs.length ≤ 100000 := by first | decide | (simp only [List.length_cons, List.length_nil]; decide)) : rLst vs H Q :=
  ⟨Nat.le_trans hz (by decide), fun p hp => k _ _ _ (W.dat hp) (same_new (W.freeF hp)) (.lst (SqL.of upd_same) (dxs_same (same_new (W.freeF hp)) hd))⟩
theorem tupX (W : Ws L F0 H0 F H) (hd : DXs K F vs ds) (k : ∀ v F' H', Ws L F0 H0 F' H' → Same F F' → DX K F' v (.tuple ds) → Q v H') (hz : vs.length ≤ 100000 := by first | decide | (simp only [List.length_cons, List.length_nil]; decide)) : rTup vs H Q :=
  ⟨Nat.le_trans hz (by decide), fun p hp => k _ _ _ (W.dat hp) (same_new (W.freeF hp)) (.tup (SqT.of upd_same) (dxs_same (same_new (W.freeF hp)) hd))⟩
theorem dicX (W : Ws L F0 H0 F H) (k : ∀ v F' H', Ws L F0 H0 F' H' → Same F F' → DX K F' v (.dict []) → Q v H') : ∀ p, H p = none → Q (.ref p) (upd H p (.dK [])) :=
  fun p hp => k _ _ _ (W.dat hp) (same_new (W.freeF hp)) (.dic upd_same)
/-- a slice, a sum of lists: own cells -/
theorem slW {lo hi : Option Int} {a : Addr} {xs : List V} (W : Ws L F0 H0 F H) (h : SqL K H a xs) (k : ∀ p H', Ws ((p, .lst (cutV xs lo hi)) :: L) F0 H0 F H' → Q (.ref p) H') : rSlL K (.ref a) lo hi H Q := ⟨a, xs, rfl, h, fun p hp => k p _ (W.new hp)⟩
theorem catW {a b : Addr} {xs ys : List V} (W : Ws L F0 H0 F H) (h1 : H a = some (.lst xs)) (h2 : H b = some (.lst ys)) (hz : xs.length + ys.length ≤ 100000) (k : ∀ p H', Ws ((p, .lst (xs ++ ys)) :: L) F0 H0 F H' → Q (.ref p) H') : rCat (.ref a) (.ref b) H Q :=
  ⟨a, b, xs, ys, rfl, rfl, h1, h2, Nat.le_trans hz (by decide), fun p hp => k p _ (W.new hp)⟩
end
end Z
/-! ### C(..) that may raise, within a try -/
namespace ZX
open PySem PySem.Spec L2 PyProof.Rows
section
variable {X : Cx} {CX : CXT} {k : Nat} {f C : Addr} {fd : FuncData} {ps : List Str} {sp : Sp} {dvs : List V} {ds : List Value} {E : L2.St → XK} {x : Str} {p pos : Pos} {e : Expr} {es : List Expr} {t : TA}
def tMakeX (C : Addr) (sp : Sp) (dvs : List V) (E : L2.St → XK) (t : TA) : TE := fun σ H Q => t σ H fun vs H1 => ∀ x dx, H1 x = none → H1 dx = none → dx ≠ x →
  sp (.ref x :: (vs ++ dvs)) (upd (upd H1 dx (.own x)) x (.ins C dx [])) (fun v H2 => v = .non ∧ Q (.ref x) H2) (E σ)
theorem pe_makeX (M : Mk X.K C f) (F : FnOk X.prog X.w X.K X.mg X.base CX k f fd ps sp) (hr : Room (k + 1) X.A) (hg : Gl X x) (hm : X.mg x = some (.ref C)) (hb : Binds X.K fd ps ds) (hd : Vals dvs ds) (hx : ∀ σ, PassesAt CX X σ (E σ)) (ha : PA X (e :: es) t)
    (hdb : (x == ("__debug__" : Str)) = false := by decide) (he : starEach (e :: es) X.env = (false, eval e X.env) :: starEach es X.env := by rfl) (hpl : (backTo pos (starEach es X.env)).any (·.1) = false := by rfl) :
    PE X (.Call (.Name x p) (e :: es) [] pos) (tMakeX C sp dvs E t) := by
  refine ⟨fun pins s σ H Q I h => wpAny_Call_Name_kw (ld_glob I hg hm ?_ hdb)⟩
  refine PySem.W.callWith_K (h₀ := X.base) I.ok.mod.kin M.kp (thn (ha.run pos pins s σ H _ I h) fun us s1 ⟨vs, H1, J, rv, q⟩ => ⟨J.kIn, ?_⟩) he hpl
  have hx1 := J.hok.fresh (Nat.le_succ s1.heap.objs.size)
  have hx0 := J.hok.fresh (Nat.le_refl s1.heap.objs.size)
  have want := q _ _ hx1 hx0 (Nat.ne_of_lt (Nat.lt_succ_self _))
  have J2 := Inv.made (C := C) J
  have args : Vals (V.ref (s1.heap.objs.size + 1) :: (vs ++ dvs)) (Value.ref (s1.heap.objs.size + 1) :: (us ++ ds)) := .cons rfl (rv.append hd)
  have many : (Value.ref (s1.heap.objs.size + 1) :: us ++ ds).length = ps.length := (args.length.symm).trans (F.len _ _ _ _ want)
  have bound := hb _ (Value.ref (s1.heap.objs.size + 1) :: us) J2.kIn many
  have ran := F.run _ X.stack _ _ _ _ _ _ (E σ) (hr.make C us []) (J2.env0.make C us []) bound args want
  refine wpAny_call (make_map (f := f) J.kIn M.makes M.init (beq_iff_eq.mp M.fn) (codeAny_mono ran fun r s' got => ?_))
  match r, got with
  | .error er, got => exact hx σ pins _ _ er s' J2 got
  | .ok (.ret u), got =>
    obtain ⟨v, H', J3, r3, rfl, q3⟩ := J2.after got
    exact ⟨r3, ⟨V.ref (s1.heap.objs.size + 1), H', J3, rfl, q3⟩⟩
variable {σ : L2.St} {H : Hp} {Q : VK}
theorem makeX (h : t σ H fun vs H1 => ∀ x dx, H1 x = none → H1 dx = none → dx ≠ x → sp (.ref x :: (vs ++ dvs)) (upd (upd H1 dx (.own x)) x (.ins C dx [])) (fun v H2 => v = .non ∧ Q (.ref x) H2) (E σ)) : tMakeX C sp dvs E t σ H Q := h
end
end ZX

namespace Toy
open PySem L2
section
variable {P : Program} {w : World} {K : PySem.W.Frag} {mg : Str → Option Value} {base : Heap}
def top (i : Nat) : Stmt := PySem.Challenge.pw_planstore_k03_no_schemas.main.body.getD i (.Pass ⟨0, 0, 0, 0⟩)
abbrev s_is_name : Stmt := top 12
theorem sc_is_name : FnScope ["thing", "sign"] ["thing"] (defScope s_is_name) := ⟨rfl, rfl, rfl, by decide +kernel, rfl, by decide +kernel, by decide +kernel⟩
abbrev s_is_kind : Stmt := top 13
theorem sc_is_kind : FnScope ["thing"] ["thing"] (defScope s_is_kind) := ⟨rfl, rfl, rfl, by decide +kernel, rfl, by decide +kernel, by decide +kernel⟩
abbrev s_is_row_of : Stmt := top 18
theorem sc_is_row_of : FnScope ["thing", "least", "most"] ["thing", "least", "most"] (defScope s_is_row_of) := ⟨rfl, rfl, rfl, by decide +kernel, rfl, by decide +kernel, by decide +kernel⟩
abbrev s_need_pair : Stmt := top 19
theorem sc_need_pair : FnScope ["thing"] ["thing"] (defScope s_need_pair) := ⟨rfl, rfl, rfl, by decide +kernel, rfl, by decide +kernel, by decide +kernel⟩
abbrev s_columns_in : Stmt := top 20
theorem sc_columns_in : FnScope ["thing", "names", "column", "name", "kind"] ["thing"] (defScope s_columns_in) := ⟨rfl, rfl, rfl, by decide +kernel, rfl, by decide +kernel, by decide +kernel⟩
abbrev s_tables_in : Stmt := top 21
theorem sc_tables_in : FnScope ["thing", "found", "table"] ["thing"] (defScope s_tables_in) := ⟨rfl, rfl, rfl, by decide +kernel, rfl, by decide +kernel, by decide +kernel⟩
abbrev s_orders_in : Stmt := top 22
theorem sc_orders_in : FnScope ["thing", "tables", "found", "order", "table", "column", "name", "kind"] ["thing", "tables"] (defScope s_orders_in) := ⟨rfl, rfl, rfl, by decide +kernel, rfl, by decide +kernel, by decide +kernel⟩
abbrev s_Schema___init__ : Stmt := inClass (top 23) 0
theorem sc_Schema___init__ : FnScope ["self", "tables", "orders"] ["self", "tables", "orders"] (defScope s_Schema___init__) := ⟨rfl, rfl, rfl, by decide +kernel, rfl, by decide +kernel, by decide +kernel⟩
abbrev s_Schema_table_names : Stmt := inClass (top 23) 2
theorem sc_Schema_table_names : FnScope ["self"] ["self"] (defScope s_Schema_table_names) := ⟨rfl, rfl, rfl, by decide +kernel, rfl, by decide +kernel, by decide +kernel⟩
abbrev s_law_cell : Stmt := top 25
theorem sc_law_cell : FnScope ["_law_script", "_law_k"] ["_law_script", "_law_k"] (defScope s_law_cell) := ⟨rfl, rfl, rfl, by decide +kernel, rfl, by decide +kernel, by decide +kernel⟩
abbrev s_law_draws : Stmt := top 26
theorem sc_law_draws : FnScope ["_law_cell_here", "_law_many", "_law_found", "_law_left", "_law_mixed", "_law_k"] ["_law_cell_here", "_law_many"] (defScope s_law_draws) := ⟨rfl, rfl, rfl, by decide +kernel, rfl, by decide +kernel, by decide +kernel⟩
abbrev s_law_names : Stmt := top 27
theorem sc_law_names : FnScope ["_law_cell_here", "_law_many", "_law_letters", "_law_draws_here", "_law_size", "_law_at", "_law_names_here", "_law_k", "_law_signs", "_law_j", "_law_sign"] ["_law_cell_here", "_law_many"] (defScope s_law_names) := ⟨rfl, rfl, rfl, by decide +kernel, rfl, by decide +kernel, by decide +kernel⟩
abbrev s_law_schema : Stmt := top 28
theorem sc_law_schema : FnScope ["_law_cell_here", "_law_draws_here", "_law_tables", "_law_some", "_law_k", "_law_name", "_law_columns", "_law_names_here", "_law_j", "_law_column", "_law_orders"] ["_law_cell_here"] (defScope s_law_schema) := ⟨rfl, rfl, rfl, by decide +kernel, rfl, by decide +kernel, by decide +kernel⟩
abbrev s_law_refused : Stmt := top 29
theorem sc_law_refused : FnScope ["_law_tables", "_law_orders", "_law_told", "e"] ["_law_tables", "_law_orders"] (defScope s_law_refused) := ⟨rfl, rfl, rfl, by decide +kernel, rfl, by decide +kernel, by decide +kernel⟩
abbrev s_law_strange : Stmt := top 30
theorem sc_law_strange : FnScope ["_law_draw"] ["_law_draw"] (defScope s_law_strange) := ⟨rfl, rfl, rfl, by decide +kernel, rfl, by decide +kernel, by decide +kernel⟩
abbrev s_law_bad_column : Stmt := top 31
theorem sc_law_bad_column : FnScope ["_law_column", "_law_columns", "_law_draws_here", "_law_name", "_law_kind", "_law_other", "_law_some", "_law_one"] ["_law_column", "_law_columns", "_law_draws_here"] (defScope s_law_bad_column) := ⟨rfl, rfl, rfl, by decide +kernel, rfl, by decide +kernel, by decide +kernel⟩
abbrev s_law_bad_table : Stmt := top 32
theorem sc_law_bad_table : FnScope ["_law_tables", "_law_draws_here", "_law_at", "_law_name", "_law_columns", "_law_spot", "_law_bad", "_law_many", "_law_strange_here", "_law_some", "_law_sign"] ["_law_tables", "_law_draws_here"] (defScope s_law_bad_table) := ⟨rfl, rfl, rfl, by decide +kernel, rfl, by decide +kernel, by decide +kernel⟩
abbrev s_law_bad_order : Stmt := top 33
theorem sc_law_bad_order : FnScope ["_law_tables", "_law_orders", "_law_draws_here", "_law_name", "_law_columns", "_law_none", "_law_lost", "_law_some", "_law_at", "_law_one", "_law_column", "_law_kind", "_law_table", "_law_rows"] ["_law_tables", "_law_orders", "_law_draws_here"] (defScope s_law_bad_order) := ⟨rfl, rfl, rfl, by decide +kernel, rfl, by decide +kernel, by decide +kernel⟩
abbrev s_law_whole : Stmt := top 34
theorem sc_law_whole : FnScope ["_law_draws_here", "_law_names_here", "_law_columns", "_law_tables", "_law_orders", "_law_k"] ["_law_draws_here"] (defScope s_law_whole) := ⟨rfl, rfl, rfl, by decide +kernel, rfl, by decide +kernel, by decide +kernel⟩
abbrev s_law : Stmt := top 35
theorem sc_law : FnScope ["_law_script", "_law_tables", "_law_orders", "_law_cell_here", "_law_draws_here", "_law_bad", "_law_more", "_law_name", "_law_columns"] ["_law_script"] (defScope s_law) := ⟨rfl, rfl, rfl, by decide +kernel, rfl, by decide +kernel, by decide +kernel⟩
structure Adr where
  Schema : Addr
  StoreError : Addr
  NoSchema : Addr
  TooMany : Addr
  NoOrder : Addr
  NoTable : Addr
  NoColumn : Addr
  NoPlan : Addr
  f_is_name : Addr
  f_is_kind : Addr
  f_is_row_of : Addr
  f_need_pair : Addr
  f_columns_in : Addr
  f_tables_in : Addr
  f_orders_in : Addr
  f_Schema___init__ : Addr
  f_Schema_table_names : Addr
  f_law_cell : Addr
  f_law_draws : Addr
  f_law_names : Addr
  f_law_schema : Addr
  f_law_refused : Addr
  f_law_strange : Addr
  f_law_bad_column : Addr
  f_law_bad_table : Addr
  f_law_bad_order : Addr
  f_law_whole : Addr
  f_law : Addr
/-- a def of the text as it stands, and how its arguments bind -/
def Dfn (K : PySem.W.Frag) (x q : Str) (st : Stmt) (ps : List Str) (f : Addr) : Prop := ∃ fd, Fun K x q st f fd ∧ Binds K fd ps []
theorem Dfn.kp {K : PySem.W.Frag} {x q : Str} {st : Stmt} {ps : List Str} {f : Addr} (d : Dfn K x q st ps f) : PySem.W.keepIn K (.ref f) = true := let ⟨_, F, _⟩ := d; F.kp
structure Txt (K : PySem.W.Frag) (mg : Str → Option Value) (A : Adr) : Prop where
  d_is_name : Dfn K "is_name" "is_name" s_is_name ["thing"] A.f_is_name
  g_is_name : mg "is_name" = some (.ref A.f_is_name)
  d_is_kind : Dfn K "is_kind" "is_kind" s_is_kind ["thing"] A.f_is_kind
  g_is_kind : mg "is_kind" = some (.ref A.f_is_kind)
  d_is_row_of : Dfn K "is_row_of" "is_row_of" s_is_row_of ["thing", "least", "most"] A.f_is_row_of
  g_is_row_of : mg "is_row_of" = some (.ref A.f_is_row_of)
  d_need_pair : Dfn K "need_pair" "need_pair" s_need_pair ["thing"] A.f_need_pair
  g_need_pair : mg "need_pair" = some (.ref A.f_need_pair)
  d_columns_in : Dfn K "columns_in" "columns_in" s_columns_in ["thing"] A.f_columns_in
  g_columns_in : mg "columns_in" = some (.ref A.f_columns_in)
  d_tables_in : Dfn K "tables_in" "tables_in" s_tables_in ["thing"] A.f_tables_in
  g_tables_in : mg "tables_in" = some (.ref A.f_tables_in)
  d_orders_in : Dfn K "orders_in" "orders_in" s_orders_in ["thing", "tables"] A.f_orders_in
  g_orders_in : mg "orders_in" = some (.ref A.f_orders_in)
  d_Schema___init__ : FD.Dfn K "__init__" "Schema.__init__" s_Schema___init__ ["self", "tables", "orders"] [.non] A.f_Schema___init__
  mk_Schema : Mk K A.Schema A.f_Schema___init__
  d_Schema_table_names : Dfn K "table_names" "Schema.table_names" s_Schema_table_names ["self"] A.f_Schema_table_names
  m_Schema_table_names : Meth K A.Schema "table_names" A.f_Schema_table_names
  d_law_cell : Dfn K "_law_cell" "_law_cell" s_law_cell ["_law_script", "_law_k"] A.f_law_cell
  g_law_cell : mg "_law_cell" = some (.ref A.f_law_cell)
  d_law_draws : Dfn K "_law_draws" "_law_draws" s_law_draws ["_law_cell_here", "_law_many"] A.f_law_draws
  g_law_draws : mg "_law_draws" = some (.ref A.f_law_draws)
  d_law_names : Dfn K "_law_names" "_law_names" s_law_names ["_law_cell_here", "_law_many"] A.f_law_names
  g_law_names : mg "_law_names" = some (.ref A.f_law_names)
  d_law_schema : Dfn K "_law_schema" "_law_schema" s_law_schema ["_law_cell_here"] A.f_law_schema
  g_law_schema : mg "_law_schema" = some (.ref A.f_law_schema)
  d_law_refused : Dfn K "_law_refused" "_law_refused" s_law_refused ["_law_tables", "_law_orders"] A.f_law_refused
  g_law_refused : mg "_law_refused" = some (.ref A.f_law_refused)
  d_law_strange : Dfn K "_law_strange" "_law_strange" s_law_strange ["_law_draw"] A.f_law_strange
  g_law_strange : mg "_law_strange" = some (.ref A.f_law_strange)
  d_law_bad_column : Dfn K "_law_bad_column" "_law_bad_column" s_law_bad_column ["_law_column", "_law_columns", "_law_draws_here"] A.f_law_bad_column
  g_law_bad_column : mg "_law_bad_column" = some (.ref A.f_law_bad_column)
  d_law_bad_table : Dfn K "_law_bad_table" "_law_bad_table" s_law_bad_table ["_law_tables", "_law_draws_here"] A.f_law_bad_table
  g_law_bad_table : mg "_law_bad_table" = some (.ref A.f_law_bad_table)
  d_law_bad_order : Dfn K "_law_bad_order" "_law_bad_order" s_law_bad_order ["_law_tables", "_law_orders", "_law_draws_here"] A.f_law_bad_order
  g_law_bad_order : mg "_law_bad_order" = some (.ref A.f_law_bad_order)
  d_law_whole : Dfn K "_law_whole" "_law_whole" s_law_whole ["_law_draws_here"] A.f_law_whole
  g_law_whole : mg "_law_whole" = some (.ref A.f_law_whole)
  d_law : Dfn K "law" "law" s_law ["_law_script"] A.f_law
  g_law : mg "law" = some (.ref A.f_law)
  c_Schema : Cls K A.Schema
  g_Schema : mg "Schema" = some (.ref A.Schema)
  n_Schema_columns : NoAttr K A.Schema "columns"
  n_Schema_kept_orders : NoAttr K A.Schema "kept_orders"
  g_StoreError : mg "StoreError" = some (.ref A.StoreError)
  g_NoSchema : mg "NoSchema" = some (.ref A.NoSchema)
  g_TooMany : mg "TooMany" = some (.ref A.TooMany)
  g_NoOrder : mg "NoOrder" = some (.ref A.NoOrder)
  g_NoTable : mg "NoTable" = some (.ref A.NoTable)
  g_NoColumn : mg "NoColumn" = some (.ref A.NoColumn)
  g_NoPlan : mg "NoPlan" = some (.ref A.NoPlan)
  xF_NoSchema : PySem.W.excIn K A.NoSchema [.type "ValueError", .type "Exception", .type "BaseException", .type "object"] "ValueError.__new__" = true
  kc_NoSchema : PySem.W.keepIn K (.ref A.NoSchema) = true
  xg_NoSchema : PySem.W.findIn K (.ref A.NoSchema) "__getattribute__" = some (some (.builtin "BaseException.__getattribute__"))
  xk_NoSchema : PySem.W.findIn K (.ref A.NoSchema) "__getattr__" = some none
  xd_NoSchema : PySem.W.hasDictIn K A.NoSchema = true
  xa_NoSchema : PySem.W.findIn K (.ref A.NoSchema) "__class__" = some (some (.builtin "object.__class__"))
  xm_NoSchema : PySem.W.mroIn K A.NoSchema (.type "object") = some true
  sb_NoSchema : PySem.W.subIn K (.ref A.NoSchema) (.type "BaseException") = some true
  cb_NoSchema : PySem.W.isClsIn K A.NoSchema = true
  tb_NoSchema : PySem.W.typeIn K (.ref A.NoSchema) = some (.type "type")
  sb_StoreError : PySem.W.subIn K (.ref A.StoreError) (.type "BaseException") = some true
  cb_StoreError : PySem.W.isClsIn K A.StoreError = true
  tb_StoreError : PySem.W.typeIn K (.ref A.StoreError) = some (.type "type")
  sb_TooMany : PySem.W.subIn K (.ref A.TooMany) (.type "BaseException") = some true
  cb_TooMany : PySem.W.isClsIn K A.TooMany = true
  tb_TooMany : PySem.W.typeIn K (.ref A.TooMany) = some (.type "type")
  sb_NoOrder : PySem.W.subIn K (.ref A.NoOrder) (.type "BaseException") = some true
  cb_NoOrder : PySem.W.isClsIn K A.NoOrder = true
  tb_NoOrder : PySem.W.typeIn K (.ref A.NoOrder) = some (.type "type")
  sb_NoTable : PySem.W.subIn K (.ref A.NoTable) (.type "BaseException") = some true
  cb_NoTable : PySem.W.isClsIn K A.NoTable = true
  tb_NoTable : PySem.W.typeIn K (.ref A.NoTable) = some (.type "type")
  sb_NoColumn : PySem.W.subIn K (.ref A.NoColumn) (.type "BaseException") = some true
  cb_NoColumn : PySem.W.isClsIn K A.NoColumn = true
  tb_NoColumn : PySem.W.typeIn K (.ref A.NoColumn) = some (.type "type")
  sb_NoPlan : PySem.W.subIn K (.ref A.NoPlan) (.type "BaseException") = some true
  cb_NoPlan : PySem.W.isClsIn K A.NoPlan = true
  tb_NoPlan : PySem.W.typeIn K (.ref A.NoPlan) = some (.type "type")
  xn : PySem.W.specialIn K (.builtin "object.__class__") "__get__" = some (some (.builtin "getset_descriptor.__get__"))
  xt : PySem.W.takesIn K (.builtin "object.__class__") = some true
  sub_NoSchema_NoSchema : PySem.W.subIn K (.ref A.NoSchema) (.ref A.NoSchema) = some true
  sub_NoSchema_StoreError : PySem.W.subIn K (.ref A.NoSchema) (.ref A.StoreError) = some true
  sub_NoSchema_NoColumn : PySem.W.subIn K (.ref A.NoSchema) (.ref A.NoColumn) = some false
  sub_NoSchema_NoOrder : PySem.W.subIn K (.ref A.NoSchema) (.ref A.NoOrder) = some false
  sub_NoSchema_NoPlan : PySem.W.subIn K (.ref A.NoSchema) (.ref A.NoPlan) = some false
  sub_NoSchema_NoTable : PySem.W.subIn K (.ref A.NoSchema) (.ref A.NoTable) = some false
  sub_NoSchema_TooMany : PySem.W.subIn K (.ref A.NoSchema) (.ref A.TooMany) = some false
  sub_NoColumn_NoColumn : PySem.W.subIn K (.ref A.NoColumn) (.ref A.NoColumn) = some true
  sub_NoOrder_NoOrder : PySem.W.subIn K (.ref A.NoOrder) (.ref A.NoOrder) = some true
  sub_NoPlan_NoPlan : PySem.W.subIn K (.ref A.NoPlan) (.ref A.NoPlan) = some true
  sub_NoTable_NoTable : PySem.W.subIn K (.ref A.NoTable) (.ref A.NoTable) = some true
  sub_TooMany_TooMany : PySem.W.subIn K (.ref A.TooMany) (.ref A.TooMany) = some true
  b_abs : mg "abs" = none
  b_enumerate : mg "enumerate" = none
  b_int : mg "int" = none
  b_isinstance : mg "isinstance" = none
  b_len : mg "len" = none
  b_list : mg "list" = none
  b_range : mg "range" = none
  b_str : mg "str" = none
  b_tuple : mg "tuple" = none
  v_LETTERS : ∃ t, mg "LETTERS" = some (.str "abcdefghijklmnopqrstuvwxyz" t)
  v_MOST_COLUMNS : ∃ t, mg "MOST_COLUMNS" = some (.int (4) t)
  v_MOST_ORDERS : ∃ t, mg "MOST_ORDERS" = some (.int (4) t)
  v_MOST_SIGNS : ∃ t, mg "MOST_SIGNS" = some (.int (8) t)
  v_MOST_TABLES : ∃ t, mg "MOST_TABLES" = some (.int (4) t)
local macro_rules | `(tactic| walk_at "z cls") => `(tactic| first | assumption | exact (‹Txt _ _ _›).c_Schema)
local macro_rules | `(tactic| walk_at "z attr") => `(tactic| first | (with_reducible exact (‹Txt _ _ _›).n_Schema_columns) | (with_reducible exact (‹Txt _ _ _›).n_Schema_kept_orders) | fail)
def schF (x0 : Addr) (x1 : V) : List (Str × V) := [("columns", .ref x0), ("kept_orders", x1)]
section
variable {x0 : Addr} {x1 : V} {y0 : Addr} {y1 : V}
theorem schF_g0 : (schF x0 x1).lookup ("columns" : Str) = some (.ref x0) := by unfold schF; exact Z.look_eq
theorem schF_p0 : putF ("columns" : Str) (.ref y0) (schF x0 x1) = schF y0 x1 := by unfold schF; first | exact Z.put_eq | rw [Z.put_eq]
theorem schF_g1 : (schF x0 x1).lookup ("kept_orders" : Str) = some (x1) := by unfold schF; rw [Z.look_ne (by decide +kernel)]; exact Z.look_eq
theorem schF_p1 : putF ("kept_orders" : Str) (y1) (schF x0 x1) = schF x0 y1 := by unfold schF; rw [Z.put_ne (by decide +kernel)]; first | exact Z.put_eq | rw [Z.put_eq]
theorem schF_no {m : Str} (h : (["columns", "kept_orders"] : List Str).all (fun f => !decide (m = f)) = true) : (schF x0 x1).lookup m = none := by
  simp only [List.all_cons, List.all_nil, Bool.and_true, Bool.and_eq_true, Bool.not_eq_true'] at h
  obtain ⟨h0, h1⟩ := h
  unfold schF
  rw [Z.look_ne h0, Z.look_ne h1]
  rfl
theorem schF_len : (schF x0 x1).length < 1000 := by unfold schF; simp only [List.length_cons, List.length_nil]; decide
end
local macro_rules | `(tactic| walk_at "z look") => `(tactic| first | (with_reducible exact schF_g0) | (with_reducible exact schF_g1) | rfl)
local macro_rules | `(tactic| walk_at "z put") => `(tactic| first | rw [schF_p0] | rw [schF_p1] | (simp (disch := decide +kernel) only [Z.put_ne, Z.put_eq, Z.put_nil]))
local macro_rules | `(tactic| walk_at "z no") => `(tactic| first | (with_reducible refine schF_no (by decide +kernel)) | rfl)
local macro_rules | `(tactic| walk_at "z small") => `(tactic| first | (with_reducible exact schF_len) | decide | (simp only [List.length_cons, List.length_nil]; decide) | omega)
variable {A : Adr}
theorem ix_listK {X : Cx} {K : PySem.W.Frag} (h : X.K = K) : IxR X (rIxL K) := by subst h; exact ix_list
theorem pg_tupK {X : Cx} {K : PySem.W.Frag} {es : List Expr} {k : Nat} {t : TGs} {n : Nat} {pos : Pos} (hK : X.K = K) (hc : X.calm = true) (h : PGs X es t)
    (hn : (assignEach es X.env).length = n := by rfl) (hst : (assignEach es X.env).findIdx? (·.1) = none := by rfl) : PG X (.Tuple es k pos) (gTup K n t) := by subst hK; exact pg_tup hc h hn hst
theorem call_list_ofK {X : Cx} {K : PySem.W.Frag} (h : X.K = K) : CallR X (.type "list") (fun xs H Q => ∃ p ys, xs = [.ref p] ∧ (SqL K H p ys ∨ SqT K H p ys) ∧ ∀ l, H l = none → Q (.ref l) (upd H l (.lst ys))) := by subst h; exact call_list_of
theorem call_tuple_ofK {X : Cx} {K : PySem.W.Frag} (h : X.K = K) : CallR X (.type "tuple") (fun xs H Q => ∃ p ys, xs = [.ref p] ∧ ((SqL K H p ys ∧ ∀ l, H l = none → Q (.ref l) (upd H l (.tup ys))) ∨ (SqT K H p ys ∧ Q (.ref p) H))) := by subst h; exact call_tuple_of
theorem ix_tupK {X : Cx} {K : PySem.W.Frag} (h : X.K = K) : IxR X (rIxT K) := by subst h; exact ix_tup
theorem call_isiK {X : Cx} {K : PySem.W.Frag} (h : X.K = K) : CallR X (.builtin "isinstance") (rIsi K) := by subst h; exact call_isi
/-! ### texts, names, kinds, values -/
def LET : Str := "abcdefghijklmnopqrstuvwxyz"
def InS (S z : Str) : Prop := ∀ c ∈ z.cps.toList, c ∈ S.cps.toList
instance {S z : Str} : Decidable (InS S z) := inferInstanceAs (Decidable (∀ c ∈ z.cps.toList, c ∈ S.cps.toList))
def Name (z : Str) : Prop := 1 ≤ z.length ∧ z.length ≤ 8 ∧ InS LET z
instance {z : Str} : Decidable (Name z) := inferInstanceAs (Decidable (_ ∧ _ ∧ _))
def Kind (z : Str) : Prop := z = "number" ∨ z = "word"
instance {z : Str} : Decidable (Kind z) := inferInstanceAs (Decidable (_ ∨ _))
def whole : PyData → Bool
  | .int _ => true
  | _ => false
def named : PyData → Bool
  | .str z => decide (Name z)
  | _ => false
def kinded : PyData → Bool
  | .str z => decide (Kind z)
  | _ => false
def numb : PyData → Bool
  | .int i => decide (-(10 ^ 9) ≤ i ∧ i ≤ 10 ^ 9)
  | _ => false
def SmallS : PyData → Prop
  | .str z => z.length ≤ 10000
  | _ => True
def valOk (k : Str) (d : PyData) : Bool := if k = "word" then named d else numb d
theorem iteB {b : Bool} {A B : Prop} (h1 : b = true → A) (h2 : b = false → B) : if b = true then A else B := by
  cases b
  · rw [if_neg Bool.false_ne_true]; exact h2 rfl
  · rw [if_pos rfl]; exact h1 rfl
theorem chain {r r' : R2} {ta tb tc : TE} {σ : L2.St} {H : Hp} {Q : VK} (h : ta σ H fun x H1 => tb σ H1 fun y H2 => r x y H2 fun z H3 => ∃ k, z = .bl k ∧ (if k = true then tc σ H3 fun w' H4 => r' y w' H4 Q else Q (.bl false) H3)) : tChain r r' ta tb tc σ H Q := h
theorem forS {te : TE} {g : TG} {ts : TS} {D : Ends} {σ : L2.St} {H : Hp} (h : te σ H fun v H1 => ∃ x, v = .str x ∧ ∃ W : Nat → Nat → L2.St → Hp → Prop, (∃ m, W 0 m σ H1) ∧ ∀ i m σ H, W i m σ H →
      ((Its x).stop i H ∧ D.nx σ H) ∨ ((Its x).go i H ∧ ∃ N : L2.St → Hp → Prop, (∀ σ' H', N σ' H' → ∃ m', m' < m ∧ W (i + 1) m' σ' H') ∧ ∀ v H', (Its x).yld i H v H' → g v σ H' fun σ2 H2 => ts { D with nx := N, ct := N, bk := D.nx } σ2 H2)) : tFor (iStr te) g ts D σ H := h
theorem tupItems {te : TE} {σ : L2.St} {H : Hp} {Q : VK} (h : te σ H fun x H1 => ZT.rItemsT2 x H1 Q) : ZT.tTupItems te σ H Q := h
theorem isN2 {v : V} {H : Hp} {Q : VK} (k : Q (.bl (decide (v = .non))) H) : (V.non = .non) ∧ Q (.bl (decide (v = .non))) H := ⟨rfl, k⟩
local macro_rules | `(tactic| walk_at "z1") => `(tactic| first | (with_reducible refine forS ?_) | (with_reducible refine chain ?_) | (with_reducible refine Z.forSq ?_) | (with_reducible refine Z.lcE ?_) | (with_reducible refine Z.iTupE ?_) | (with_reducible refine Z.iListE ?_) | (with_reducible refine Z.iEnumE ?_) | (with_reducible refine Z.iZipAE ?_) | (with_reducible refine Z.din ?_) | (with_reducible refine Z.dnotin ?_))
theorem allIn_of {S z : Str} (h : ∀ j c, j < z.cps.size → z.cps[j]? = some c → c ∈ S.cps.toList) : InS S z := fun c hc => by
  obtain ⟨j, hj, e⟩ := List.mem_iff_getElem.mp hc
  exact h j c (by simpa using hj) (by rw [← Array.getElem?_toList, List.getElem?_eq_getElem hj, e])
theorem let_lt : ∀ c ∈ LET.cps.toList, c < 123 := by decide +kernel
theorem Name.ok {z : Str} (n : Name z) : PyData.strOk z = true := by
  unfold PyData.strOk
  rw [← Array.all_toList, List.all_eq_true]
  intro c hc
  have := let_lt c (n.2.2 c hc)
  exact decide_eq_true (by omega)
theorem whole_ty (d : PyData) : whole d = (Z.isTy "int" d && !Z.isTy "bool" d) := by cases d <;> rfl
theorem named_no {d : PyData} (h : Z.isTy "str" d = false) : named d = false := by cases d <;> first | rfl | exact absurd h (by simp [Z.isTy, Z.tyN])
theorem kinded_no {d : PyData} (h : Z.isTy "str" d = false) : kinded d = false := by cases d <;> first | rfl | exact absurd h (by simp [Z.isTy, Z.tyN])
theorem isStr {d : PyData} (h : Z.isTy "str" d = true) : ∃ z, d = .str z := by cases d <;> first | exact ⟨_, rfl⟩ | exact absurd h (by simp [Z.isTy, Z.tyN])
theorem in2 (z a b : Str) : decide (z = a ∨ z = b) = inV (.str z) [.str a, .str b] := by
  rw [Bool.eq_iff_iff]
  simp only [inV, List.any_cons, List.any_nil, Bool.or_false, eqV, Bool.or_eq_true, decide_eq_true_eq, beq_iff_eq]
  exact ⟨fun h => h.imp Eq.symm Eq.symm, fun h => h.imp Eq.symm Eq.symm⟩
def sp_is_whole (K : PySem.W.Frag) (A : Adr) : Sp := fun vs H Q _ => ∃ v d, vs = [v] ∧ Z.DX K H v d ∧ Q (.bl (whole d)) H
def sp_is_name (K : PySem.W.Frag) (A : Adr) : Sp := fun vs H Q _ => ∃ v d, vs = [v] ∧ Z.DX K H v d ∧ SmallS d ∧ Q (.bl (named d)) H
def sp_is_kind (K : PySem.W.Frag) (A : Adr) : Sp := fun vs H Q _ => ∃ v d, vs = [v] ∧ Z.DX K H v d ∧ ∀ H', Same H H' → Q (.bl (kinded d)) H'
def sp_is_value (K : PySem.W.Frag) (A : Adr) : Sp := fun vs H Q _ => ∃ k v d, vs = [.str k, v] ∧ Z.DX K H v d ∧ SmallS d ∧ Q (.bl (valOk k d)) H
theorem ok_is_name (T : Txt K mg A) : ∃ fd, FnOk P w K mg base CX0 1 A.f_is_name fd ["thing"] (sp_is_name K A) ∧ Binds K fd ["thing"] [] := by
  have ⟨fd, F, b⟩ := T.d_is_name
  refine ⟨fd, F.ok sc_is_name (fun vs H Q E h => ?_) (fun cdv Ar outer s H vs Q E hr h => ?_), b⟩
  · obtain ⟨v, d, rfl, _⟩ := h
    rfl
  · obtain ⟨v, d, rfl, h, hz, k⟩ := h
    have nd := sc_is_name.nd
    have hu := hu_of hr
    refine ⟨_, (pss_cons (ps_if (PW.pt (pw_or (pt_not (pt_val (pe_callB call_isi (by rfl) T.b_isinstance (by decide +kernel) (pa_cons (pv 0) (pa_cons (pe_bltn (v := .ty "str") (u := .type "str") (by rfl) T.b_str (by decide +kernel) rfl) pa_nil))))) (pw_or1 (pt_not (pt_chain op_le op_le pe_int (pe_callB call_len_str (by rfl) T.b_len PySem.boot_len (pa_cons (pv 0) pa_nil)) (Z.pe_gint rfl T.v_MOST_SIGNS)))))) (pss_one (ps_ret pe_bl)) pss_nil)
      (pss_cons (ps_for PassesOwn.never rfl (pi_str (pv 0)) (pg_name (i := 1) nd rfl (Or.inl rfl)) (pss_one (ps_if (pt_cmpR op_notIn_sign (pv 1) (Z.pe_gstr rfl T.v_LETTERS) (by rfl)) (pss_one (ps_ret pe_bl)) pss_nil)))
      (pss_one (ps_ret pe_bl)))), ?_⟩
    simp only [cxOf, Cx.nox, L2.start, List.map_cons, List.map_nil, List.length_cons, List.length_nil, Nat.reduceAdd, Nat.reduceSub, List.replicate, List.cons_append, List.nil_append]
    walk_at "z"
    refine Z.isiX h (Same.refl _) (by simp) ?_
    walk_at "z"
    refine iteB (fun e => ?_) (fun e => ?_)
    · have e' : Z.isTy "str" d = false := by simpa using e
      walk_at "z"
      rw [named_no e'] at k
      exact k
    · have e' : Z.isTy "str" d = true := by simpa using e
      obtain ⟨z, rfl⟩ := isStr e'
      have hz : z.length ≤ 10000 := hz
      cases Z.dx_str h
      have k : Q (.bl (decide (Name z))) H := k
      walk_at "z"
      refine ⟨z, rfl, Nat.le_trans hz (by decide), ?_⟩
      walk_at "z"
      refine Z.iteD (fun h1 => ?_) (fun h1 => ?_)
      · walk_at "z"
        refine Z.iteN (fun h2 => ?_) (fun h2 => ?_)
        · walk_at "z"
          rw [show decide (Name z) = false from decide_eq_false fun n => h2 (by have := n.2.1; omega)] at k
          exact k
        · walk_at "z"
          refine ⟨z, rfl, for_it walk_str (fun i σ H' => H' = H ∧ (∃ v, σ = [some (.str z), v]) ∧ ∀ j c, j < i → z.cps[j]? = some c → c ∈ LET.cps.toList) ⟨rfl, ⟨_, rfl⟩, fun j c h => absurd h (Nat.not_lt_zero _)⟩ (fun _ _ _ _ _ => True.intro) ?_ ?_⟩
          · rintro i x σ H' H'' hi ⟨rfl, ⟨v, rfl⟩, hall⟩ ⟨rfl, c, hc, rfl⟩
            walk_at "z"
            refine ⟨c, _, rfl, rfl, ?_⟩
            walk_at "z"
            refine Z.iteN (fun h3 => ?_) (fun h3 => ?_)
            · walk_at "z"
              rw [show decide (Name z) = false from decide_eq_false fun n => h3 (n.2.2 c (by rw [Array.mem_toList_iff]; exact Array.mem_of_getElem? hc))] at k
              exact k
            · walk_at "z"
              refine ⟨rfl, ⟨_, rfl⟩, fun j c' hj hc' => ?_⟩
              by_cases e : j = i
              · subst e
                rw [hc] at hc'
                cases hc'
                exact h3
              · exact hall j c' (by omega) hc'
          · rintro σ H' ⟨rfl, ⟨v, rfl⟩, hall⟩
            walk_at "z"
            rw [show decide (Name z) = true from decide_eq_true ⟨by omega, by omega, allIn_of hall⟩] at k
            exact k
      · walk_at "z"
        rw [show decide (Name z) = false from decide_eq_false fun n => h1 (by have := n.1; omega)] at k
        exact k
theorem ok_is_kind (T : Txt K mg A) : ∃ fd, FnOk P w K mg base CX0 1 A.f_is_kind fd ["thing"] (sp_is_kind K A) ∧ Binds K fd ["thing"] [] := by
  have ⟨fd, F, b⟩ := T.d_is_kind
  refine ⟨fd, F.ok sc_is_kind (fun vs H Q E h => ?_) (fun cdv Ar outer s H vs Q E hr h => ?_), b⟩
  · obtain ⟨v, d, rfl, _⟩ := h
    rfl
  · obtain ⟨v, d, rfl, h, k⟩ := h
    have nd := sc_is_kind.nd
    have hu := hu_of hr
    refine ⟨_, (pss_one (ps_ret (pe_and (pe_callB call_isi (by rfl) T.b_isinstance (by decide +kernel) (pa_cons (pv 0) (pa_cons (pe_bltn (v := .ty "str") (u := .type "str") (by rfl) T.b_str (by decide +kernel) rfl) pa_nil))) (pe_one (pe_cmpR op_in_seq (pv 0) (pe_tup (pa_cons pe_str (pa_cons pe_str pa_nil))) (by rfl)))))), ?_⟩
    simp only [cxOf, Cx.nox, L2.start, List.map_cons, List.map_nil, List.length_cons, List.length_nil, Nat.reduceAdd, Nat.reduceSub, List.replicate, List.cons_append, List.nil_append]
    walk_at "z"
    refine Z.isiX h (Same.refl _) (by simp) ?_
    walk_at "z"
    refine iteB (fun e => ?_) (fun e => ?_)
    · obtain ⟨z, rfl⟩ := isStr e
      cases Z.dx_str h
      walk_at "z"
      refine ⟨by simp only [List.length_cons, List.length_nil]; decide, fun p hp => ?_⟩
      refine ⟨p, _, rfl, .inr (SqT.of upd_same), rfl, rfl, ?_⟩
      have := k _ (Z.same_new (o := .tup [.str "number", .str "word"]) hp)
      rw [show kinded (.str z) = inV (.str z) [.str "number", .str "word"] from in2 z _ _] at this
      exact this
    · rw [kinded_no e] at k
      exact k _ (Same.refl _)
/-! ### the law's draws and names -/
def sp_law_cell (K : PySem.W.Frag) (A : Adr) : Sp := fun vs H Q _ => ∃ (a : Addr) (ns : List Int) (i : Nat), vs = [.ref a, .int i] ∧ SqL K H a (ns.map V.int) ∧ ns.length ≤ 63 ∧ i ≤ 1000 ∧ ∀ c, Q (.int c) H
theorem ok_law_cell (T : Txt K mg A) : ∃ fd, FnOk P w K mg base CX0 1 A.f_law_cell fd ["_law_script", "_law_k"] (sp_law_cell K A) ∧ Binds K fd ["_law_script", "_law_k"] [] := by
  have ⟨fd, F, b⟩ := T.d_law_cell
  refine ⟨fd, F.ok sc_law_cell (fun vs H Q E h => ?_) (fun cdv Ar outer s H vs Q E hr h => ?_), b⟩
  · obtain ⟨a, ns, i, rfl, _⟩ := h
    rfl
  · obtain ⟨a, ns, i, rfl, hS, hl, hi, k⟩ := h
    have nd := sc_law_cell.nd
    have hu := hu_of hr
    refine ⟨_, (pss_cons (ps_if (pt_cmpR op_lt (pv 1) (pe_callB call_len_seq (by rfl) T.b_len PySem.boot_len (pa_cons (pv 0) pa_nil)) (nomark _)) (pss_one (ps_ret (pe_ix ix_list (pv 0) (pv 1) (fun _ _ => rfl)))) pss_nil)
      (pss_one (ps_ret (pe_op op_add (pe_op op_mul pe_int (pv 1)) pe_int)))), ?_⟩
    simp only [cxOf, Cx.nox, L2.start, List.map_cons, List.map_nil, List.length_cons, List.length_nil, Nat.reduceAdd, Nat.reduceSub, List.replicate, List.cons_append, List.nil_append]
    walk_at "z"
    refine Z.lenSeq hS ?_
    walk_at "z"
    rw [List.length_map]
    refine Z.iteD (fun h1 => ?_) (fun h1 => ?_)
    · walk_at "z"
      have e : ns[i]? = some (ns[i]'(by omega)) := List.getElem?_eq_getElem _
      refine Z.ixL (i := i) hS (by rw [List.getElem?_map, e]; rfl) ?_
      exact k _
    · walk_at "z"
      exact k _
def sp_law_draws (K : PySem.W.Frag) (A : Adr) : Sp := fun vs H Q _ => ∃ (F : Hp) (c : Int) (n : Nat), vs = [.int c, .int n] ∧ Same F H ∧ n ≤ 100 ∧ ∀ F' H' v (xs : List Int), xs.length = n → (∀ x ∈ xs, 0 ≤ x ∧ x < 10 ^ 10) → Z.Gr F H F' H' → Dp K F' v (.list (xs.map .int)) → Q v H'
theorem ok_law_draws (T : Txt K mg A) : ∃ fd, FnOk P w K mg base CX0 1 A.f_law_draws fd ["_law_cell_here", "_law_many"] (sp_law_draws K A) ∧ Binds K fd ["_law_cell_here", "_law_many"] [] := by
  have ⟨fd, F, b⟩ := T.d_law_draws
  refine ⟨fd, F.ok sc_law_draws (fun vs H Q E h => ?_) (fun cdv Ar outer s H vs Q E hr h => ?_), b⟩
  · obtain ⟨F0, c, n, rfl, _⟩ := h
    rfl
  · obtain ⟨F0, c, n, rfl, sm, hn, k⟩ := h
    have nd := sc_law_draws.nd
    have hu := hu_of hr
    refine ⟨_, (pss_cons (ps_set (i := 2) nd rfl (Or.inl rfl) (pe_lst pa_nil))
      (pss_cons (ps_set (i := 3) nd rfl (Or.inl rfl) (pe_callB call_abs (by rfl) T.b_abs (by decide +kernel) (pa_cons (pv 0) pa_nil)))
      (pss_cons (ps_set (i := 4) nd rfl (Or.inl rfl) (pe_op op_mod (pv 3) pe_int))
      (pss_cons (ps_for PassesOwn.never rfl (pi_range1 rfl T.b_range (pa_cons (pv 1) pa_nil)) (pg_name (i := 5) nd rfl (Or.inl rfl)) (pss_cons (ps_set (i := 4) nd rfl (Or.inl rfl) (pe_op op_mod (pe_op op_add (pe_op op_add (pe_op op_mul (pv 4) pe_int) (pe_op op_mul pe_int (pv 5))) pe_int) pe_int))
      (pss_one (ps_if (pt_cmpR op_ge (pv 3) (pe_op op_pow pe_int pe_int) (nomark _)) (pss_cons (ps_expr (pe_bm PySem.F.plainAttrs_list PySem.F.slot_list_append PySem.F.type_list_append mt_append (pv 2) (pa_cons (pe_op op_mod (pv 3) (pe_op op_pow pe_int pe_int)) pa_nil)))
      (pss_one (ps_set (i := 3) nd rfl (Or.inl rfl) (pe_op op_fdivW (pv 3) (pe_op op_pow pe_int pe_int))))) (pss_one (ps_expr (pe_bm PySem.F.plainAttrs_list PySem.F.slot_list_append PySem.F.type_list_append mt_append (pv 2) (pa_cons (pe_op op_mod (pe_op op_mul (pv 4) (pe_op op_add (pv 4) pe_int)) pe_int) pa_nil))))))))
      (pss_one (ps_ret (pv 2))))))), ?_⟩
    simp only [cxOf, Cx.nox, L2.start, List.map_cons, List.map_nil, List.length_cons, List.length_nil, Nat.reduceAdd, Nat.reduceSub, List.replicate, List.cons_append, List.nil_append]
    walk_at "z"
    refine ⟨by simp only [List.length_cons, List.length_nil]; decide, fun q hq => ?_⟩
    have W0 := (Z.Ws.init sm).new (o := .lst []) hq
    walk_at "z"
    refine ⟨c, rfl, ?_⟩
    walk_at "z"
    refine ⟨(n : Int), rfl, by omega, by omega, ?_⟩
    rw [Int.toNat_natCast]
    refine (for_range (lo := 0) (n := n) (fun i σ H' => ∃ (xs : List Int) (l m : Int) (v : Option V), σ = [some (.int c), some (.int n), some (.ref q), some (.int l), some (.int m), v] ∧ 0 ≤ l ∧ 0 ≤ m ∧ m < 2147483647 ∧ xs.length = i ∧ (∀ x ∈ xs, 0 ≤ x ∧ x < 10 ^ 10) ∧ Z.Ws [(q, .lst (xs.map .int))] F0 H F0 H')
      ⟨[], _, _, none, rfl, by split <;> omega, Int.emod_nonneg _ (by decide), Int.emod_lt_of_pos _ (by decide), rfl, fun x h => (nomatch h), W0⟩ ?_ ?_)
    · rintro i σ H1 hi ⟨xs, l, m, v, rfl, l0, m0, m1, hx, pos, W⟩
      walk_at "z"
      have p1 : (0 : Int) < 10 ^ Int.toNat 10 := by decide
      refine Z.iteD (fun h1 => ?_) (fun h1 => ?_)
      · walk_at "z"
        refine ⟨.inl ⟨rfl, _, SqL.of (W.at 0 rfl)⟩, ?_⟩
        walk_at "z"
        refine Z.appW W 0 rfl (fun H' W' => ?_) (by rw [List.length_map]; omega)
        walk_at "z"
        refine ⟨xs ++ [l % 10 ^ Int.toNat 10], _, _, _, rfl, Int.ediv_nonneg l0 (Int.le_of_lt p1), Int.emod_nonneg _ (by decide), Int.emod_lt_of_pos _ (by decide), by simp; omega, fun x hx => ?_, by rw [List.map_append]; exact W'⟩
        rcases List.mem_append.mp hx with h | h
        · exact pos x h
        · rw [List.mem_singleton.mp h]; exact ⟨Int.emod_nonneg _ (by decide), Int.emod_lt_of_pos _ (by decide)⟩
      · walk_at "z"
        refine ⟨.inl ⟨rfl, _, SqL.of (W.at 0 rfl)⟩, ?_⟩
        walk_at "z"
        refine Z.appW W 0 rfl (fun H' W' => ?_) (by rw [List.length_map]; omega)
        walk_at "z"
        refine ⟨xs ++ [_], _, _, _, rfl, l0, Int.emod_nonneg _ (by decide), Int.emod_lt_of_pos _ (by decide), by simp; omega, fun x hx => ?_, by rw [List.map_append]; exact W'⟩
        rcases List.mem_append.mp hx with h | h
        · exact pos x h
        · rw [List.mem_singleton.mp h]; exact ⟨Int.emod_nonneg _ (by decide), Int.lt_trans (Int.emod_lt_of_pos _ (by decide)) (by decide)⟩
    · rintro σ H1 ⟨xs, l, m, v, rfl, l0, m0, m1, hx, pos, W⟩
      walk_at "z"
      obtain ⟨F', W', s', g'⟩ := W.frz 0 rfl
      exact k F' H1 _ xs hx pos W'.g (.lst (SqL.of g') (Z.dpa_of_ints xs))
/-! names: alike but at one place -/
def nmSign (xs : List Int) (t k j : Nat) : Int := (xs.getD (2 + j) 0 + k * (if j = t then 1 else 0)) % 26
def nmCodes (xs : List Int) (sz t k : Nat) : List Nat := (List.range sz).map fun j => 97 + (nmSign xs t k j).toNat
def nmOf (xs : List Int) (sz t k : Nat) : Str := ⟨(nmCodes xs sz t k).toArray⟩
theorem nmSign_lt (xs : List Int) (t k j : Nat) : 0 ≤ nmSign xs t k j ∧ nmSign xs t k j < 26 := ⟨Int.emod_nonneg _ (by decide), Int.emod_lt_of_pos _ (by decide)⟩
theorem let_in : ∀ n : Nat, n < 26 → LET.cps.toList[n]? = some (97 + n) := by decide +kernel
theorem nm_name {xs : List Int} {sz t k : Nat} (h1 : 1 ≤ sz) (h8 : sz ≤ 8) : Name (nmOf xs sz t k) := by
  have e : (nmOf xs sz t k).cps.toList = nmCodes xs sz t k := rfl
  have l : (nmOf xs sz t k).length = sz := by
    show (nmCodes xs sz t k).toArray.size = sz
    simp [nmCodes]
  refine ⟨by omega, by omega, fun c hc => ?_⟩
  rw [e] at hc
  obtain ⟨j, hj, rfl⟩ := List.mem_map.mp hc
  have := nmSign_lt xs t k j
  exact List.mem_of_getElem? (let_in (nmSign xs t k j).toNat (by omega))
theorem nm_ne {xs : List Int} {sz t k k' : Nat} (ht : t < sz) (hk : k < k') (hk' : k' < 26) : nmOf xs sz t k ≠ nmOf xs sz t k' := by
  intro e
  have e1 : nmCodes xs sz t k = nmCodes xs sz t k' := congrArg (fun s : Str => s.cps.toList) e
  have e2 := congrArg (fun l : List Nat => l[t]?) e1
  simp only [nmCodes, List.getElem?_map, List.getElem?_range ht, Option.map_some, Option.some.injEq] at e2
  have a := nmSign_lt xs t k t
  have b := nmSign_lt xs t k' t
  have e3 : nmSign xs t k t = nmSign xs t k' t := by omega
  simp only [nmSign, if_pos] at e3
  omega
theorem nm_nodup {xs : List Int} {sz t n : Nat} (ht : t < sz) (hn : n ≤ 26) : ((List.range n).map (nmOf xs sz t)).Nodup := by
  rw [List.nodup_iff_pairwise_ne, List.pairwise_map]
  refine List.Pairwise.imp_of_mem (R := fun a b => a < b) (fun {a b} ha hb h => nm_ne ht h ?_) List.pairwise_lt_range
  have := List.mem_range.mp hb
  omega
theorem join_one : ∀ cs : List Nat, Txt.join "" (cs.map fun c => (⟨#[c]⟩ : Str)) = ⟨cs.toArray⟩
  | [] => rfl
  | c :: r => by
    have e : Txt.join "" ((⟨#[c]⟩ : Str) :: r.map fun c => (⟨#[c]⟩ : Str)) = (⟨#[c]⟩ : Str) ++ Txt.join "" (r.map fun c => (⟨#[c]⟩ : Str)) := by
      rw [TL.join_eq, TL.join_eq]
      exact PyProof.Rows.join_nil_cons _ _
    rw [List.map_cons, e, join_one r]
    refine TL.ext_tl ?_
    show (#[c] ++ r.toArray).toList = _
    simp [TL.tl]
theorem sum_one (cs : List Nat) : ((cs.map fun c => (⟨#[c]⟩ : Str)).map (·.length)).sum = cs.length := by
  induction cs with
  | nil => rfl
  | cons c r ih =>
    rw [List.map_cons, List.map_cons, List.sum_cons, ih, List.length_cons]
    show 1 + r.length = _
    omega
def sp_law_names (K : PySem.W.Frag) (A : Adr) : Sp := fun vs H Q _ => ∃ (F : Hp) (c : Int) (n : Nat), vs = [.int c, .int n] ∧ Same F H ∧ n ≤ 26 ∧ ∀ F' H' v (zs : List Str), zs.length = n → (∀ z ∈ zs, Name z) → zs.Nodup → Z.Gr F H F' H' → Dp K F' v (.list (zs.map .str)) → Q v H'
theorem ok_law_names (T : Txt K mg A) : ∃ fd, FnOk P w K mg base CX0 2 A.f_law_names fd ["_law_cell_here", "_law_many"] (sp_law_names K A) ∧ Binds K fd ["_law_cell_here", "_law_many"] [] := by
  have ⟨fd, F, b⟩ := T.d_law_names
  refine ⟨fd, F.ok sc_law_names (fun vs H Q E h => ?_) (fun cdv Ar outer s H vs Q E hr h => ?_), b⟩
  · obtain ⟨F0, c, n, rfl, _⟩ := h
    rfl
  · obtain ⟨F0, c, n, rfl, sm, hn, k⟩ := h
    have nd := sc_law_names.nd
    have hu := hu_of hr
    have ⟨fd_law_draws, G_law_draws, b_law_draws⟩ := ok_law_draws (P := P) (w := w) (base := base) T
    refine ⟨_, (pss_cons (ps_set (i := 2) nd rfl (Or.inr rfl) pe_str)
      (pss_cons (ps_set (i := 3) nd rfl (Or.inr rfl) (pe_call G_law_draws (hr.mono (by decide)) (by rfl) T.g_law_draws T.d_law_draws.kp b_law_draws .nil pass0 (pa_cons (pv 0) (pa_cons pe_int pa_nil))))
      (pss_cons (ps_set (i := 4) nd rfl (Or.inl rfl) (pe_op op_add pe_int (pe_op op_mod (pe_ix ix_list (pv 3) pe_int (fun _ _ => rfl)) pe_int)))
      (pss_cons (ps_set (i := 5) nd rfl (Or.inr rfl) (pe_op op_mod (pe_ix ix_list (pv 3) pe_int (fun _ _ => rfl)) (pv 4)))
      (pss_cons (ps_set (i := 6) nd rfl (Or.inl rfl) (pe_lst pa_nil))
      (pss_cons (ps_for PassesOwn.never rfl (pi_range1 rfl T.b_range (pa_cons (pv 1) pa_nil)) (pg_name (i := 7) nd rfl (Or.inr rfl)) (pss_cons (ps_setLc (i := 8) rfl nd rfl rfl (sw_true rfl rfl rfl (by decide +kernel)) (own := [("_law_j", 9)]) (pi_range1 rfl T.b_range (pa_cons (pv 4) pa_nil)) (blkOk_by (own := [("_law_j", 9)]) (N := ["_law_cell_here", "_law_many", "_law_letters", "_law_draws_here", "_law_size", "_law_at", "_law_names_here", "_law_k", "_law_signs", "_law_j", "_law_sign"]) (sc := defScope s_law_names) (by decide +kernel)) (fun _ _ _ _ _ => pg_name (i := 9) nd rfl (Or.inl rfl)) (fun _ _ _ _ _ => pts_nil) (fun _ _ _ _ _ => (pe_op op_mod (pe_op op_add (pe_ix (ix_listK (K := K) rfl) (pv 3) (pe_op op_add pe_int (pv 9)) (fun _ _ => rfl)) (pe_op op_mul (pv 7) (pe_callTy call_int1 (by rfl) T.b_int (by decide +kernel) (pa_cons (pe_cmpR op_eq (pv 9) (pv 5) (nomark _)) pa_nil)))) pe_int)))
      (pss_one (ps_expr (pe_bm PySem.F.plainAttrs_list PySem.F.slot_list_append PySem.F.type_list_append mt_append (pv 6) (pa_cons (pe_join pe_str (pe_lc (own := [("_law_sign", 10)]) rfl nd (pi_list (pv 8)) (blkOk_by (own := [("_law_sign", 10)]) (N := ["_law_cell_here", "_law_many", "_law_letters", "_law_draws_here", "_law_size", "_law_at", "_law_names_here", "_law_k", "_law_signs", "_law_j", "_law_sign"]) (sc := defScope s_law_names) (by decide +kernel)) (fun _ _ _ _ _ => pg_name (i := 10) nd rfl (Or.inl rfl)) (fun _ _ _ _ _ => pts_nil) (fun _ _ _ _ _ => (pe_ix ix_str (pv 2) (pv 10) (fun _ _ => rfl))))) pa_nil))))))
      (pss_one (ps_ret (pv 6))))))))), ?_⟩
    simp only [cxOf, Cx.nox, L2.start, List.map_cons, List.map_nil, List.length_cons, List.length_nil, Nat.reduceAdd, Nat.reduceSub, List.replicate, List.cons_append, List.nil_append]
    walk_at "z"
    refine ⟨F0, c, 10, rfl, sm, by decide, fun F1 H1 v1 xs hx pos g1 d1 => ?_⟩
    have W1 := (Z.Ws.init sm).ext g1
    have g0 : xs[0]? = some (xs[0]'(by omega)) := List.getElem?_eq_getElem _
    have g1' : xs[1]? = some (xs[1]'(by omega)) := List.getElem?_eq_getElem _
    have p0 := (pos _ (List.mem_of_getElem? g0)).1
    have p1 := (pos _ (List.mem_of_getElem? g1')).1
    walk_at "z"
    refine Z.ixD d1 W1.fh 0 (d := .int (xs[0]'(by omega))) (by rw [List.getElem?_map, g0]; rfl) fun w hw => ?_
    cases Z.dp_int hw
    walk_at "z"
    refine Z.ixD d1 W1.fh 1 (d := .int (xs[1]'(by omega))) (by rw [List.getElem?_map, g1']; rfl) fun w hw2 => ?_
    cases Z.dp_int hw2
    walk_at "z"
    refine ⟨by simp only [List.length_cons, List.length_nil]; decide, fun q hq => ?_⟩
    obtain ⟨sz, hsz, hs1, hs8⟩ : ∃ sz : Nat, (1 : Int) + xs[0]'(by omega) % 8 = (sz : Int) ∧ 1 ≤ sz ∧ sz ≤ 8 := ⟨((1 : Int) + xs[0]'(by omega) % 8).toNat, by omega, by omega, by omega⟩
    rw [hsz]
    obtain ⟨t, ht, hts⟩ : ∃ t : Nat, xs[1]'(by omega) % (sz : Int) = (t : Int) ∧ t < sz := ⟨(xs[1]'(by omega) % (sz : Int)).toNat, by have := Int.emod_nonneg (xs[1]'(by omega)) (show (sz : Int) ≠ 0 by omega); omega, by have := Int.emod_lt_of_pos (xs[1]'(by omega)) (show (0 : Int) < sz by omega); have := Int.emod_nonneg (xs[1]'(by omega)) (show (sz : Int) ≠ 0 by omega); omega⟩
    have W2 := W1.new (o := .lst []) hq
    walk_at "z"
    refine ⟨(n : Int), rfl, by omega, by omega, ?_⟩
    rw [Int.toNat_natCast, ht]
    refine (for_range (lo := 0) (n := n) (fun i σ H' => ∃ (v7 v8 v9 v10 : Option V), σ = [some (.int c), some (.int n), some (.str LET), some v1, some (.int sz), some (.int t), some (.ref q), v7, v8, v9, v10] ∧ Z.Ws [(q, .lst (((List.range i).map (nmOf xs sz t)).map .str))] F0 H F1 H')
      ⟨none, none, none, none, rfl, W2⟩ ?_ ?_)
    · rintro i σ H2 hi ⟨v7, v8, v9, v10, rfl, W⟩
      walk_at "z"
      refine ⟨.int (sz : Int), rfl, (sz : Int), rfl, by omega, by omega, ?_⟩
      rw [Int.toNat_natCast]
      intro g hg
      refine lc_range (lo := 0) (n := sz) (fun j H' => Z.Ws [(g, .lst (((List.range j).map (nmSign xs t i)).map .int)), (q, .lst (((List.range i).map (nmOf xs sz t)).map .str))] F0 H F1 H') (W.new hg) ?_ ?_
      · rintro j H3 hj W3
        refine ⟨rfl, ?_⟩
        walk_at "z"
        have g2 : xs[2 + j]? = some (xs[2 + j]'(by omega)) := List.getElem?_eq_getElem _
        rw [show (2 : Int) + (0 + (j : Int)) = ((2 + j : Nat) : Int) by omega]
        refine Z.ixD d1 W3.fh (2 + j) (d := .int (xs[2 + j]'(by omega))) (by rw [List.getElem?_map, g2]; rfl) fun w hw3 => ?_
        cases Z.dp_int hw3
        walk_at "z"
        refine .inr ⟨_, rfl, ?_⟩
        refine Z.ic ?hc ?_
        case hc => exact .inl ⟨by omega, by omega⟩
        walk_at "z"
        refine ⟨_, W3.at 0 rfl, by simp; exact Nat.lt_of_le_of_lt (show j ≤ 1000 by omega) (by decide), ?_⟩
        have ev : nmSign xs t i j = (xs[2 + j]'(by omega) + (0 + (i : Int)) * (if decide (V.int (0 + (j : Int)) = V.int (t : Int)) = true then 1 else 0)) % 26 := by
          unfold nmSign
          rw [List.getD_eq_getElem?_getD, g2, Option.getD_some, Int.zero_add]
          by_cases e : j = t
          · rw [if_pos e, if_pos (decide_eq_true (by rw [e, Int.zero_add]))]
          · rw [if_neg e, if_neg (fun h => e (by have := V.int.inj (of_decide_eq_true h); omega))]
        rw [List.range_succ, List.map_append, List.map_append, show List.map V.int (List.map (nmSign xs t i) [j]) = [V.int _] from congrArg (fun x => [V.int x]) ev]
        exact W3.set 0 rfl _
      · rintro H3 W3
        walk_at "z"
        refine ⟨.inl ⟨rfl, _, SqL.of (W3.at 1 rfl)⟩, ?_⟩
        walk_at "z"
        refine ⟨⟨_, rfl⟩, .ref g, rfl, g, rfl, ⟨_, SqL.of (W3.at 0 rfl)⟩, fun D hD => ?_⟩
        refine lc_list (fun j H' => Z.Ws [(D, .lst ((((List.range j).map fun j => 97 + (nmSign xs t i j).toNat).map fun c => (⟨#[c]⟩ : Str)).map .str)), (g, .lst (((List.range sz).map (nmSign xs t i)).map .int)), (q, .lst (((List.range i).map (nmOf xs sz t)).map .str))] F0 H F1 H') (W3.new hD) (fun i H' hi W4 => SqL.of (W4.at 1 rfl)) ?_ ?_
        · rintro j x H4 hx W4
          have hjl : j < sz := by simpa using (List.getElem?_eq_some_iff.mp hx).1
          have hx' : x = .int (nmSign xs t i j) := by
            rw [List.getElem?_map, List.getElem?_map, List.getElem?_range hjl] at hx
            exact (Option.some.inj hx).symm
          subst hx'
          obtain ⟨y0, y1⟩ := nmSign_lt xs t i j
          refine ⟨rfl, ?_⟩
          walk_at "z"
          have eL : LET.length = 26 := by decide +kernel
          refine Z.ixS (by rw [eL]; decide) y0 (by rw [eL]; exact y1) fun c hc => ?_
          rw [let_in _ (by omega)] at hc
          cases hc
          walk_at "z"
          refine ⟨_, W4.at 0 rfl, by simp; exact Nat.lt_of_le_of_lt (show j ≤ 1000 by omega) (by decide), ?_⟩
          rw [List.range_succ, List.map_append, List.map_append, List.map_append]
          exact W4.set 0 rfl _
        · rintro H4 W4
          rw [List.length_map, List.length_map, List.length_range] at W4
          walk_at "z"
          refine ⟨_, D, _, rfl, rfl, .inl (SqL.of (W4.at 0 rfl)), by rw [sum_one]; show _ + _ * 0 ≤ _; simp; omega, ?_⟩
          rw [join_one]
          walk_at "z"
          refine ⟨q, _, _, rfl, rfl, W4.at 2 rfl, by simp; exact Nat.lt_of_le_of_lt (show i ≤ 1000 by omega) (by decide), ?_⟩
          walk_at "z"
          have : Z.Ws [(q, .lst (((List.range i).map (nmOf xs sz t)).map .str ++ [.str (nmOf xs sz t i)]))] F0 H F1 _ := (W4.set 2 rfl (.lst (((List.range i).map (nmOf xs sz t)).map .str ++ [.str (nmOf xs sz t i)]))).pick [2] (by decide) rfl
          exact ⟨_, _, _, _, rfl, by rw [List.range_succ, List.map_append, List.map_append]; exact this⟩
    · rintro σ H2 ⟨v7, v8, v9, v10, rfl, W⟩
      walk_at "z"
      obtain ⟨F', W', s', g'⟩ := W.frz 0 rfl
      exact k F' H2 _ _ (by simp) (fun z hz => by obtain ⟨j, hj, rfl⟩ := List.mem_map.mp hz; exact nm_name hs1 hs8) (nm_nodup hts hn) W'.g (.lst (SqL.of g') (Z.dpa_of_strs _))

/-! ### schemas as data -/
abbrev Col := Str × Str
abbrev Tab := Str × List Col
def pairD (c : Str × Str) : PyData := .tuple [.str c.1, .str c.2]
structure ColsOk (cs : List Col) : Prop where
  lo : 1 ≤ cs.length
  hi : cs.length ≤ 4
  nm : ∀ c ∈ cs, Name c.1 ∧ Kind c.2
  nd : (cs.map (·.1)).Nodup
structure TabsOk (ts : List Tab) : Prop where
  lo : 1 ≤ ts.length
  hi : ts.length ≤ 4
  nm : ∀ t ∈ ts, Name t.1 ∧ ColsOk t.2
  nd : (ts.map (·.1)).Nodup
structure OrdsOk (ts : List Tab) (os : List (Str × Str)) : Prop where
  hi : os.length ≤ 4
  nm : ∀ o ∈ os, ∃ t ∈ ts, t.1 = o.1 ∧ ∃ c ∈ t.2.drop 1, c.1 = o.2
  nd : os.Nodup
def SeqOf (K : PySem.W.Frag) (H : Hp) (v : V) (xs : List V) : Prop := ∃ a, v = .ref a ∧ (SqL K H a xs ∨ SqT K H a xs)
/-- columns handed in: a list, or a tuple that is data -/
def HandC (K : PySem.W.Frag) (F H : Hp) (v : V) (cs : List (Str × Str)) : Prop := (∃ a xs, v = .ref a ∧ SqL K H a xs ∧ DpAll K F xs (cs.map pairD)) ∨ Dp K F v (.tuple (cs.map pairD))
theorem HandC.seq {K : PySem.W.Frag} {F H : Hp} {v : V} {cs : List (Str × Str)} (h : HandC K F H v cs) (s : Same F H) : ∃ a xs, v = .ref a ∧ (SqL K H a xs ∨ SqT K H a xs) ∧ DpAll K F xs (cs.map pairD) := by
  rcases h with ⟨a, xs, rfl, h1, h2⟩ | h
  · exact ⟨a, xs, rfl, .inl h1, h2⟩
  · obtain ⟨a, xs, rfl, h1, h2⟩ := Z.dp_tup h
    exact ⟨a, xs, rfl, .inr (Z.seqT s h1), h2⟩
theorem HandC.same {K : PySem.W.Frag} {F F' H H' : Hp} {v : V} {cs : List (Str × Str)} (h : HandC K F H v cs) (s : Same F F') (e : Same H H') : HandC K F' H' v cs := by
  rcases h with ⟨a, xs, rfl, h1, h2⟩ | h
  · exact .inl ⟨a, xs, rfl, e.seq h1, Z.dpa_same s h2⟩
  · exact .inr (Z.dp_same s h)
def HandT (K : PySem.W.Frag) (F H : Hp) (v : V) (ts : List Tab) : Prop := ∃ (a : Addr) (xs : List V), v = .ref a ∧ (SqL K H a xs ∨ SqT K H a xs) ∧ xs.length = ts.length ∧
  ∀ (i : Nat) (x : V) (t : Tab), xs[i]? = some x → ts[i]? = some t → ∃ (b : Addr) (w : V), x = .ref b ∧ SqT K H b [.str t.1, w] ∧ HandC K F H w t.2
theorem seqOf_len {K : PySem.W.Frag} {H : Hp} {Q : VK} {a : Addr} {xs : List V} (h : SqL K H a xs ∨ SqT K H a xs) {R : List V → Prop} (k : R xs) : ∃ q ys, [V.ref a] = [.ref q] ∧ (SqL K H q ys ∨ SqT K H q ys) ∧ R ys := ⟨a, xs, rfl, h, k⟩
section
variable {K : PySem.W.Frag} {F F' H H' H1 : Hp} {a p : Addr} {xs : List V} {Q : VK} {z : Str} {kvs : List (Key × V)}
theorem ty_sqL (h : SqL K H a xs) : TyX K H (.ref a) (.type "list") := by
  rcases h with (h | ⟨o, h⟩) | ⟨o, its, n, h, hc, _⟩
  · exact .base (.lst h)
  · exact .base (.frz h)
  · exact .kList h hc
theorem ty_sqT (h : SqT K H a xs) : TyX K H (.ref a) (.type "tuple") := by
  rcases h with (h | ⟨o, h⟩) | ⟨o, its, n, h, hc, _⟩
  · exact .base (.tup h)
  · exact .fTuple h
  · exact .kTuple h hc
theorem isiSq (h : SqL K H a xs ∨ SqT K H a xs) (hp : H p = some (.tup [.ty "list", .ty "tuple"])) (k : Q (.bl true) H) : rIsiT K [.ref a, .ref p] H Q := by
  rcases h with h | h
  · exact ⟨_, p, _, _, _, _, rfl, hp, .cons (.ty "list") (.cons (.ty "tuple") .nil), ty_sqL h, Z.kitSeq (d := .list []), k⟩
  · exact ⟨_, p, _, _, _, _, rfl, hp, .cons (.ty "list") (.cons (.ty "tuple") .nil), ty_sqT h, Z.kitSeq (d := .tuple []), k⟩
theorem isiT (h : SqT K H a xs) (k : Q (.bl true) H) : rIsi K [.ref a, .ty "tuple"] H Q := ⟨_, .ty "tuple", _, .type "tuple", _, rfl, .ty "tuple", ty_sqT h, Z.kitD (d := .tuple []) (by simp), k⟩
theorem isiL (h : SqL K H a xs) (k : Q (.bl true) H) : rIsi K [.ref a, .ty "list"] H Q := ⟨_, .ty "list", _, .type "list", _, rfl, .ty "list", ty_sqL h, Z.kitD (d := .list []) (by simp), k⟩
theorem inV_str (zs : List Str) : inV (.str z) (zs.map V.str) = decide (z ∈ zs) := by
  rw [Bool.eq_iff_iff]
  simp only [inV, List.any_map, List.any_eq_true, Function.comp, eqV, beq_iff_eq, decide_eq_true_eq]
  exact ⟨fun ⟨x, h, e⟩ => e ▸ h, fun h => ⟨z, h, rfl⟩⟩
theorem flat_str (zs : List Str) : (zs.map V.str).all flatV = true := by simp [flatV]
theorem dinS {R : Option V → Prop} (ho : H a = some (.dK kvs)) (k : R (valV kvs (.inr z))) : ∃ a' o, (V.ref a) = .ref a' ∧ DGet H a' (.str z) o ∧ R o := ⟨a, _, rfl, DGet.k (k := Sum.inr z) ho, k⟩
theorem dgetS {v : V} {R : V → Prop} (ho : H a = some (.dK kvs)) (e : valV kvs (Sum.inr z) = some v) (q : R v) : ∃ a' v, (V.ref a) = .ref a' ∧ DGet H a' (.str z) (some v) ∧ R v := ⟨a, v, rfl, e ▸ DGet.k (k := Sum.inr z) ho, q⟩
theorem dputS {v : V} {R : Hp → Prop} (ho : H a = some (.dK kvs)) (l : kvs.length < 1000) (q : R (upd H a (.dK (putK kvs (Sum.inr z) v)))) :
    ∃ a' H4, (V.ref a) = .ref a' ∧ DPut H a' (.str z) v H4 ∧ R H4 := ⟨a, _, rfl, DPut.k (k := Sum.inr z) ho (Nat.lt_of_lt_of_le l (by decide)), q⟩
end
/-- the dict of columns -/
inductive KvOk (K : PySem.W.Frag) (F : Hp) : List (Key × V) → List Tab → Prop
  | nil : KvOk K F [] []
  | cons {v : V} {t : Tab} {kvs : List (Key × V)} {ts : List Tab} : Dp K F v (.tuple (t.2.map pairD)) → KvOk K F kvs ts → KvOk K F ((.inr t.1, v) :: kvs) (t :: ts)
section
variable {K : PySem.W.Frag} {F F' H : Hp}
theorem KvOk.same (s : Same F F') : ∀ {kvs : List (Key × V)} {ts : List Tab}, KvOk K F kvs ts → KvOk K F' kvs ts
  | _, _, .nil => .nil
  | _, _, .cons h r => .cons (Z.dp_same s h) (r.same s)
theorem KvOk.len : ∀ {kvs : List (Key × V)} {ts : List Tab}, KvOk K F kvs ts → kvs.length = ts.length
  | _, _, .nil => rfl
  | _, _, .cons _ r => by rw [List.length_cons, List.length_cons, r.len]
theorem KvOk.snoc {v : V} {t : Tab} (h : Dp K F v (.tuple (t.2.map pairD))) : ∀ {kvs : List (Key × V)} {ts : List Tab}, KvOk K F kvs ts → KvOk K F (kvs ++ [(.inr t.1, v)]) (ts ++ [t])
  | _, _, .nil => .cons h .nil
  | _, _, .cons h' r => .cons h' (r.snoc h)
theorem KvOk.none {z : Str} : ∀ {kvs : List (Key × V)} {ts : List Tab}, KvOk K F kvs ts → z ∉ ts.map (·.1) → valV kvs (.inr z) = Option.none
  | _, _, .nil, _ => rfl
  | _, _, .cons (t := t) h r, hn => by
    rw [List.map_cons, List.mem_cons, not_or] at hn
    rw [valV_neg (show ¬ (Sum.inr t.1 : Key) = .inr z from fun e => hn.1 (Sum.inr.inj e).symm)]
    exact r.none hn.2
theorem KvOk.some : ∀ {kvs : List (Key × V)} {ts : List Tab} {t : Tab}, KvOk K F kvs ts → (ts.map (·.1)).Nodup → t ∈ ts → ∃ v, valV kvs (.inr t.1) = Option.some v ∧ Dp K F v (.tuple (t.2.map pairD))
  | _, _, t, .cons (t := t') (v := v) h r, nd, m => by
    rw [List.map_cons, List.nodup_cons] at nd
    rcases List.mem_cons.mp m with m | m
    · subst m
      exact ⟨v, valV_pos rfl, h⟩
    · rw [valV_neg (show ¬ (Sum.inr t'.1 : Key) = .inr t.1 from fun e => nd.1 (by rw [Sum.inr.inj e]; exact List.mem_map.mpr ⟨t, m, rfl⟩))]
      exact r.some nd.2 m
theorem KvOk.keys : ∀ {kvs : List (Key × V)} {ts : List Tab}, KvOk K F kvs ts → (kvs.map fun kv => kV kv.1) = ts.map fun t => V.str t.1
  | _, _, .nil => rfl
  | _, _, .cons h r => by rw [List.map_cons, List.map_cons, r.keys]; rfl
theorem put_end {kvs : List (Key × V)} {k : Key} {v : V} (h : valV kvs k = Option.none) : putK kvs k v = kvs ++ [(k, v)] := by
  unfold putK
  rw [valV_any, h]
  rfl
end
theorem ixTv {K : PySem.W.Frag} {H : Hp} {Q : VK} {a : Addr} {xs : List V} {v : V} {i : Nat} (h : SqT K H a xs) (e : xs[i]? = some v) (k : Q v H) : rIxT K (.ref a) (.int (i : Int)) H Q := ⟨a, xs, i, v, rfl, rfl, h, atI_nat e, k⟩
theorem take_nd {α : Type} {f : α → Str} {cs : List α} {c : α} {i : Nat} (nd : (cs.map f).Nodup) (h : cs[i]? = some c) : f c ∉ (cs.take i).map f := by
  rw [← List.take_append_drop i cs, List.map_append, List.nodup_append] at nd
  have m2 : f c ∈ (cs.drop i).map f := List.mem_map.mpr ⟨c, List.mem_of_getElem? (i := 0) (by rw [List.getElem?_drop]; exact h), rfl⟩
  exact fun m => nd.2.2 _ m _ m2 rfl
theorem eqv_pair (a b : Str × Str) : PyData.eqv (pairD a) (pairD b) = decide (a = b) := by
  rw [Bool.eq_iff_iff]
  simp only [pairD, PyData.eqv, PyData.eqvAll, Bool.and_true, Bool.and_eq_true, beq_iff_eq, decide_eq_true_eq]
  exact ⟨fun h => Prod.ext h.1 h.2, fun h => h ▸ ⟨rfl, rfl⟩⟩
theorem any_pair (os : List (Str × Str)) (o : Str × Str) : ((os.map pairD).any fun z => PyData.eqv z (pairD o)) = decide (o ∈ os) := by
  rw [Bool.eq_iff_iff]
  simp only [List.any_map, List.any_eq_true, Function.comp, eqv_pair, decide_eq_true_eq]
  exact ⟨fun ⟨x, h, e⟩ => e ▸ h, fun h => ⟨o, h, rfl⟩⟩
def PairOk (o : Str × Str) : Prop := PyData.strOk o.1 = true ∧ PyData.strOk o.2 = true
theorem lay_pair {o : Str × Str} (h : PairOk o) : PyData.canLay0 (pairD o) = true := by simp only [pairD, PyData.canLay0, PyData.canLayAll0, h.1, h.2, Bool.and_true]
theorem shaped_pair {o : Str × Str} (h : PairOk o) : SeqAt.shaped (pairD o) = true := by
  unfold SeqAt.shaped
  rw [lay_pair h]
  simp [pairD, PyData.depth, PyData.depthAll]
theorem lay_pairs {os : List (Str × Str)} (h : ∀ o ∈ os, PairOk o) : PyData.canLayAll0 (os.map pairD) = true := by
  induction os with
  | nil => simp [PyData.canLayAll0]
  | cons o r ih => rw [List.map_cons, PyData.canLayAll0, lay_pair (h o List.mem_cons_self), ih fun x hx => h x (List.mem_cons_of_mem _ hx)]; rfl
theorem depth_pairs (os : List (Str × Str)) : PyData.depthAll (os.map pairD) ≤ 1 := by
  induction os with
  | nil => simp [PyData.depthAll]
  | cons o r ih =>
    rw [List.map_cons, PyData.depthAll]
    have : PyData.depth (pairD o) = 1 := by simp [pairD, PyData.depth, PyData.depthAll]
    omega
theorem shaped_pairsL {os : List (Str × Str)} (h : ∀ o ∈ os, PairOk o) : SeqAt.shaped (.list (os.map pairD)) = true := by
  unfold SeqAt.shaped
  rw [PyData.canLay0, lay_pairs h, PyData.depth]
  have := depth_pairs os
  simp; omega
theorem shaped_pairsT {os : List (Str × Str)} (h : ∀ o ∈ os, PairOk o) : SeqAt.shaped (.tuple (os.map pairD)) = true := by
  unfold SeqAt.shaped
  rw [PyData.canLay0, lay_pairs h, PyData.depth]
  have := depth_pairs os
  simp; omega
theorem OrdsOk.pair {ts : List Tab} {os : List (Str × Str)} (ok : OrdsOk ts os) (tk : TabsOk ts) : ∀ o ∈ os, Name o.1 ∧ Name o.2 := fun o ho => by
  obtain ⟨t, ht, e1, c, hc, e2⟩ := ok.nm o ho
  obtain ⟨n1, ck⟩ := tk.nm t ht
  exact ⟨e1 ▸ n1, e2 ▸ (ck.nm c (List.mem_of_mem_drop hc)).1⟩
theorem pairOk_of {o : Str × Str} (h : Name o.1 ∧ Name o.2) : PairOk o := ⟨h.1.ok, h.2.ok⟩
theorem cutD_tail (ds : List PyData) (n : Nat) : Z.cutD ds (some (n : Int)) none = ds.drop n := by
  unfold Z.cutD
  rw [HT.sIx_none, HT.sIx_nat]
  by_cases h : n ≤ ds.length
  · rw [Nat.min_eq_left h]
    exact List.take_of_length_le (by rw [List.length_drop]; omega)
  · rw [Nat.min_eq_right (by omega), List.drop_of_length_le (by omega), List.drop_of_length_le (by omega)]
    simp

/-! ### what is accepted -/
def Acc (d : PyData) (cs : List Col) : Prop := (d = .list (cs.map pairD) ∨ d = .tuple (cs.map pairD)) ∧ ColsOk cs
def AccT (d : PyData) (ts : List Tab) : Prop := ∃ tds : List PyData, (d = .list tds ∨ d = .tuple tds) ∧ tds.length = ts.length ∧ (∀ (i : Nat) (e : PyData) (t : Tab), tds[i]? = some e → ts[i]? = some t → ∃ c, e = .tuple [.str t.1, c] ∧ Acc c t.2) ∧ TabsOk ts
def AccO (ts : List Tab) (d : PyData) (os : List (Str × Str)) : Prop := (d = .list (os.map pairD) ∨ d = .tuple (os.map pairD)) ∧ OrdsOk ts os
/-- lengths within bounds, at the top and within -/
def Fit1 : PyData → Prop
  | .str z => z.length ≤ 10000
  | _ => True
def Fit2 : PyData → Prop
  | .tuple ds => ∀ d ∈ ds, Fit1 d
  | _ => True
def Fit3 : PyData → Prop
  | .list ds => ∀ d ∈ ds, Fit1 d ∧ Fit2 d
  | .tuple ds => ∀ d ∈ ds, Fit1 d ∧ Fit2 d
  | _ => True
def Fit4 : PyData → Prop
  | .tuple ds => ∀ d ∈ ds, Fit1 d ∧ Fit3 d
  | _ => True
def Fit5 : PyData → Prop
  | .list ds => ∀ d ∈ ds, Fit4 d
  | .tuple ds => ∀ d ∈ ds, Fit4 d
  | _ => True
theorem fit_small {d : PyData} (h : Fit1 d) : SmallS d := by
  cases d <;> first | exact h | exact True.intro
section
variable {K : PySem.W.Frag} {F H : Hp} {v : V} {d : PyData} {ds : List PyData}
def seqD : PyData → Option (List PyData)
  | .list ds => some ds
  | .tuple ds => some ds
  | _ => none
theorem seq_ty (d : PyData) : (Z.isTy "list" d || Z.isTy "tuple" d) = (seqD d).isSome := by cases d <;> rfl
theorem dx_seq (h : Z.DX K F v d) (e : seqD d = some ds) : ∃ a vs, v = .ref a ∧ (SqL K F a vs ∨ SqT K F a vs) ∧ Z.DXs K F vs ds := by
  cases d with
  | list es => cases e; obtain ⟨a, vs, e, h1, h2⟩ := Z.dx_lst h; exact ⟨a, vs, e, .inl h1, h2⟩
  | tuple es => cases e; obtain ⟨a, vs, e, h1, h2⟩ := Z.dx_tup h; exact ⟨a, vs, e, .inr h1, h2⟩
  | none => cases e
  | bool b => cases e
  | int i => cases e
  | str z => cases e
  | dict kv => cases e
end
def rowOf (lo hi : Int) : Option (List PyData) → Bool
  | some ds => decide (lo ≤ ds.length ∧ (ds.length : Int) ≤ hi)
  | none => false
def sp_is_row_of (K : PySem.W.Frag) (A : Adr) : Sp := fun vs H Q _ => ∃ (v : V) (d : PyData) (lo hi : Int), vs = [v, .int lo, .int hi] ∧ Z.DX K H v d ∧ ∀ H', Same H H' → Q (.bl (rowOf lo hi (seqD d))) H'
theorem ok_is_row_of (T : Txt K mg A) : ∃ fd, FnOk P w K mg base CX0 1 A.f_is_row_of fd ["thing", "least", "most"] (sp_is_row_of K A) ∧ Binds K fd ["thing", "least", "most"] [] := by
  have ⟨fd, F, b⟩ := T.d_is_row_of
  refine ⟨fd, F.ok sc_is_row_of (fun vs H Q E h => ?_) (fun cdv Ar outer s H vs Q E hr h => ?_), b⟩
  · obtain ⟨v, d, lo, hi, rfl, _⟩ := h
    rfl
  · obtain ⟨v, d, lo, hi, rfl, hv, k⟩ := h
    have nd := sc_is_row_of.nd
    have hu := hu_of hr
    refine ⟨_, (pss_one (ps_ret (pe_and (pe_callB call_isiT (by rfl) T.b_isinstance (by decide +kernel) (pa_cons (pv 0) (pa_cons (pe_tup (pa_cons (pe_bltn (v := .ty "list") (u := .type "list") (by rfl) T.b_list (by decide +kernel) rfl) (pa_cons (pe_bltn (v := .ty "tuple") (u := .type "tuple") (by rfl) T.b_tuple (by decide +kernel) rfl) pa_nil))) pa_nil))) (pe_one (pe_chain op_le op_le (pv 1) (pe_callB call_len_seq (by rfl) T.b_len PySem.boot_len (pa_cons (pv 0) pa_nil)) (pv 2)))))), ?_⟩
    simp only [cxOf, Cx.nox, L2.start, List.map_cons, List.map_nil, List.length_cons, List.length_nil, Nat.reduceAdd, Nat.reduceSub, List.replicate, List.cons_append, List.nil_append]
    walk_at "z"
    refine ⟨by simp only [List.length_cons, List.length_nil]; decide, fun p hp => ?_⟩
    have s := Z.same_new (o := .tup [.ty "list", .ty "tuple"]) hp
    walk_at "z"
    refine Z.isiSeqX hv s upd_same ?_
    rw [seq_ty]
    cases e : seqD d with
    | none =>
      rw [e] at k
      walk_at "z"
      exact k _ s
    | some ds =>
      rw [e] at k
      obtain ⟨a, vs, rfl, hq, hds⟩ := dx_seq (Z.dx_same s hv) e
      have hl := Z.dxs_len hds
      walk_at "z"
      refine seqOf_len (Q := Q) hq ?_
      walk_at "z"
      refine Z.iteD (fun h1 => ?_) (fun h1 => ?_)
      · walk_at "z"
        have : Q (.bl (decide (lo ≤ (ds.length : Int) ∧ (ds.length : Int) ≤ hi))) _ := k _ s
        rw [show decide (lo ≤ (ds.length : Int) ∧ (ds.length : Int) ≤ hi) = decide ((vs.length : Int) ≤ hi) from decide_eq_decide.mpr ⟨fun h => by omega, fun h => by omega⟩] at this
        exact this
      · have : Q (.bl (decide (lo ≤ (ds.length : Int) ∧ (ds.length : Int) ≤ hi))) _ := k _ s
        rw [show decide (lo ≤ (ds.length : Int) ∧ (ds.length : Int) ≤ hi) = false from decide_eq_false fun h => h1 (by omega)] at this
        exact this
def pair2 : PyData → Option (PyData × PyData)
  | .tuple [a, b] => some (a, b)
  | _ => none
theorem pair2_some {d a b : PyData} (h : pair2 d = some (a, b)) : d = .tuple [a, b] := by
  match d, h with
  | .tuple [x, y], h => cases h; rfl
def sp_need_pair (K : PySem.W.Frag) (A : Adr) : Sp := fun vs H Q E => ∃ (v : V) (d : PyData), vs = [v] ∧ Z.DX K H v d ∧ (∀ a b, pair2 d = some (a, b) → Q .non H) ∧ (pair2 d = none → E (.ref A.NoSchema) none H)
theorem ok_need_pair (T : Txt K mg A) : ∃ fd, FnOk P w K mg base (L2.CX P w) 1 A.f_need_pair fd ["thing"] (sp_need_pair K A) ∧ Binds K fd ["thing"] [] := by
  have ⟨fd, F, b⟩ := T.d_need_pair
  refine ⟨fd, F.okX sc_need_pair (fun vs H Q E h => ?_) (fun cdv Ar outer s H vs Q E hr h => ?_), b⟩
  · obtain ⟨v, d, rfl, _⟩ := h
    rfl
  · obtain ⟨v, d, rfl, hv, k, kx⟩ := h
    have nd := sc_need_pair.nd
    have hu := hu_of hr
    refine ⟨_, (pss_one (ps_if (PW.pt (pw_or (pt_not (pt_val (pe_callB call_isi (by rfl) T.b_isinstance (by decide +kernel) (pa_cons (pv 0) (pa_cons (pe_bltn (v := .ty "tuple") (u := .type "tuple") (by rfl) T.b_tuple (by decide +kernel) rfl) pa_nil))))) (pw_or1 (pt_cmpR op_ne (pe_callB call_len_seq (by rfl) T.b_len PySem.boot_len (pa_cons (pv 0) pa_nil)) pe_int (nomark _))))) (pss_one (ps_raise rfl (takes_of rfl rfl rfl rfl) (Z.pmk_own0 PySem.F.excBase_ValueError T.xF_NoSchema T.g_NoSchema T.kc_NoSchema (raises_own T.sb_NoSchema T.tb_NoSchema)))) pss_nil)), ?_⟩
    simp only [cxOf, Cx.nox, L2.start, List.map_cons, List.map_nil, List.length_cons, List.length_nil, Nat.reduceAdd, Nat.reduceSub, List.replicate, List.cons_append, List.nil_append]
    walk_at "z"
    refine Z.isiX hv (Same.refl _) (by simp) ?_
    walk_at "z"
    cases hty : Z.isTy "tuple" d with
    | false =>
      walk_at "z"
      exact kx (by cases d <;> first | rfl | exact absurd hty (by simp [Z.isTy, Z.tyN]))
    | true =>
      obtain ⟨ds, rfl⟩ : ∃ ds, d = .tuple ds := by cases d <;> first | exact ⟨_, rfl⟩ | exact absurd hty (by simp [Z.isTy, Z.tyN])
      obtain ⟨a, ys, rfl, g1, g2⟩ := Z.dx_tup hv
      have gl := Z.dxs_len g2
      walk_at "z"
      refine seqOf_len (Q := Q) (.inr g1) ?_
      walk_at "z"
      refine Z.iteN (fun hne => ?_) (fun heq => ?_)
      · walk_at "z"
        refine kx ?_
        match ds, gl with
        | [], _ => rfl
        | [_], _ => rfl
        | [_, _], gl => exact absurd (by rw [gl]; rfl) hne
        | _ :: _ :: _ :: _, _ => rfl
      · have hl2 : ds.length = 2 := by have := V.int.inj heq; omega
        walk_at "z"
        match ds, hl2 with
        | [x, y], _ => exact k x y rfl

theorem pairD_inj {a b : Str × Str} (h : pairD a = pairD b) : a = b := by
  simp only [pairD, PyData.tuple.injEq, List.cons.injEq, PyData.str.injEq, and_true] at h
  exact Prod.ext h.1 h.2
theorem map_pairD_inj {xs ys : List (Str × Str)} (h : xs.map pairD = ys.map pairD) : xs = ys := (List.map_inj_right (fun _ _ e => pairD_inj e)).mp h
theorem seqD_of {d : PyData} {ds es : List PyData} (hs : seqD d = some ds) (h : d = .list es ∨ d = .tuple es) : ds = es := by
  rcases h with rfl | rfl <;> exact (Option.some.inj hs).symm
theorem seqD_to {d : PyData} {ds es : List PyData} (hs : seqD d = some ds) (h : ds = es) : d = .list es ∨ d = .tuple es := by
  subst h
  cases d <;> first | (cases hs; exact .inl rfl) | (cases hs; exact .inr rfl) | cases hs
theorem Acc.seq {d : PyData} {ds : List PyData} {cs : List Col} (h : Acc d cs) (hs : seqD d = some ds) : ds = cs.map pairD := seqD_of hs h.1
theorem Acc.not {d : PyData} {cs : List Col} (h : Acc d cs) : seqD d ≠ none := by
  rcases h.1 with rfl | rfl <;> exact fun e => by cases e
theorem Acc.at {d e : PyData} {ds : List PyData} {cs : List Col} {i : Nat} (h : Acc d cs) (hs : seqD d = some ds) (he : ds[i]? = some e) : ∃ c, cs[i]? = some c ∧ e = pairD c ∧ Name c.1 ∧ Kind c.2 := by
  rw [h.seq hs, List.getElem?_map] at he
  obtain ⟨c, hc, rfl⟩ := Option.map_eq_some_iff.mp he
  exact ⟨c, hc, rfl, h.2.nm c (List.mem_of_getElem? hc)⟩
theorem dx_pair {K : PySem.W.Frag} {F : Hp} {v : V} {c : Str × Str} (h : Z.DX K F v (pairD c)) : Dp K F v (pairD c) := by
  obtain ⟨a, vs, rfl, h1, h2⟩ := Z.dx_tup h
  obtain ⟨v1, v2, rfl, e1, e2⟩ := Z.dxs2 h2
  cases Z.dx_str e1
  cases Z.dx_str e2
  exact .tup h1 (.cons (.str _) (.cons (.str _) .nil))
theorem dx_pairs {K : PySem.W.Frag} {F : Hp} : ∀ {vs : List V} {cs : List (Str × Str)}, Z.DXs K F vs (cs.map pairD) → DpAll K F vs (cs.map pairD)
  | _, [], .nil => .nil
  | _, c :: r, .cons h k => .cons (dx_pair h) (dx_pairs k)
theorem named_str {d : PyData} (h : named d = true) : ∃ z, d = .str z ∧ Name z := by
  cases d <;> first | exact ⟨_, rfl, of_decide_eq_true h⟩ | exact absurd h (by simp [named])
theorem kinded_str {d : PyData} (h : kinded d = true) : ∃ z, d = .str z ∧ Kind z := by
  cases d <;> first | exact ⟨_, rfl, of_decide_eq_true h⟩ | exact absurd h (by simp [kinded])
theorem fit3_seq {d : PyData} {ds : List PyData} (h : Fit3 d) (hs : seqD d = some ds) : ∀ e ∈ ds, Fit1 e ∧ Fit2 e := by
  cases d <;> first | (cases hs; exact h) | cases hs
theorem fit5_seq {d : PyData} {ds : List PyData} (h : Fit5 d) (hs : seqD d = some ds) : ∀ e ∈ ds, Fit4 e := by
  cases d <;> first | (cases hs; exact h) | cases hs
def sp_columns_in (K : PySem.W.Frag) (A : Adr) : Sp := fun vs H Q E => ∃ (F : Hp) (v : V) (d : PyData), vs = [v] ∧ Same F H ∧ Z.DX K F v d ∧ Fit3 d ∧ (∀ cs, Acc d cs → ∀ F' H' r, Z.Gr F H F' H' → Dp K F' r (.tuple (cs.map pairD)) → Q r H') ∧ ((∀ cs, ¬ Acc d cs) → ∀ H', Same H H' → E (.ref A.NoSchema) none H')
theorem ok_columns_in (T : Txt K mg A) : ∃ fd, FnOk P w K mg base (L2.CX P w) 2 A.f_columns_in fd ["thing"] (sp_columns_in K A) ∧ Binds K fd ["thing"] [] := by
  have ⟨fd, F, b⟩ := T.d_columns_in
  refine ⟨fd, F.okX sc_columns_in (fun vs H Q E h => ?_) (fun cdv Ar outer s H vs Q E hr h => ?_), b⟩
  · obtain ⟨F0, v, d, rfl, _⟩ := h
    rfl
  · obtain ⟨F0, v, d, rfl, sm, hv, fit, k, kx⟩ := h
    have nd := sc_columns_in.nd
    have hu := hu_of hr
    have ⟨fd_is_row_of, G_is_row_of, b_is_row_of⟩ := ok_is_row_of (P := P) (w := w) (base := base) T
    have ⟨fd_need_pair, G_need_pair, b_need_pair⟩ := ok_need_pair (P := P) (w := w) (base := base) T
    have ⟨fd_is_kind, G_is_kind, b_is_kind⟩ := ok_is_kind (P := P) (w := w) (base := base) T
    have ⟨fd_is_name, G_is_name, b_is_name⟩ := ok_is_name (P := P) (w := w) (base := base) T
    refine ⟨_, (pss_cons (ps_if (pt_not (pt_val (pe_call G_is_row_of (hr.mono (by decide)) (by rfl) T.g_is_row_of T.d_is_row_of.kp b_is_row_of .nil pass0 (pa_cons (pv 0) (pa_cons pe_int (pa_cons (Z.pe_gint rfl T.v_MOST_COLUMNS) pa_nil)))))) (pss_one (ps_raise rfl (takes_of rfl rfl rfl rfl) (Z.pmk_own0 PySem.F.excBase_ValueError T.xF_NoSchema T.g_NoSchema T.kc_NoSchema (raises_own T.sb_NoSchema T.tb_NoSchema)))) pss_nil)
      (pss_cons (ps_set (i := 1) nd rfl (Or.inl rfl) (pe_lst pa_nil))
      (pss_cons (ps_for (passes_of rfl) rfl (Z.pi_seq (pv 0)) (pg_name (i := 2) nd rfl (Or.inl rfl)) (pss_cons (ps_expr (pe_call G_need_pair (hr.mono (by decide)) (by rfl) T.g_need_pair T.d_need_pair.kp b_need_pair .nil (passes_call (takes_of rfl rfl rfl rfl) (fun _ _ _ _ h => h)) (pa_cons (pv 2) pa_nil)))
      (pss_cons (ps_asg (pv 2) (pg_tup rfl (pgs_cons (pg_name (i := 3) nd rfl (Or.inl rfl)) (pgs_cons (pg_name (i := 4) nd rfl (Or.inl rfl)) pgs_nil))))
      (pss_cons (ps_if (PW.pt (pw_or (pt_not (pt_val (pe_call G_is_name (hr.mono (by decide)) (by rfl) T.g_is_name T.d_is_name.kp b_is_name .nil pass0 (pa_cons (pv 3) pa_nil)))) (pw_or (pt_cmpR op_in_seq (pv 3) (pv 1) (by rfl)) (pw_or1 (pt_not (pt_val (pe_call G_is_kind (hr.mono (by decide)) (by rfl) T.g_is_kind T.d_is_kind.kp b_is_kind .nil pass0 (pa_cons (pv 4) pa_nil)))))))) (pss_one (ps_raise rfl (takes_of rfl rfl rfl rfl) (Z.pmk_own0 PySem.F.excBase_ValueError T.xF_NoSchema T.g_NoSchema T.kc_NoSchema (raises_own T.sb_NoSchema T.tb_NoSchema)))) pss_nil)
      (pss_one (ps_expr (pe_bm PySem.F.plainAttrs_list PySem.F.slot_list_append PySem.F.type_list_append mt_append (pv 1) (pa_cons (pv 3) pa_nil))))))))
      (pss_one (ps_ret (pe_callTy call_tuple_of (by rfl) T.b_tuple (by decide +kernel) (pa_cons (pv 0) pa_nil))))))), ?_⟩
    simp only [cxOf, Cx.nox, L2.start, List.map_cons, List.map_nil, List.length_cons, List.length_nil, Nat.reduceAdd, Nat.reduceSub, List.replicate, List.cons_append, List.nil_append]
    walk_at "z"
    refine ⟨v, d, 1, 4, rfl, Z.dx_same sm hv, fun H1 s1 => ?_⟩
    cases hs : seqD d with
    | none =>
      walk_at "z"
      exact kx (fun cs h => h.not hs) _ s1
    | some ds =>
    have W1 := (Z.Ws.init sm).exts s1
    obtain ⟨a, xs, rfl, hq, hds⟩ := dx_seq hv hs
    have hl := Z.dxs_len hds
    have fit' := fit3_seq fit hs
    have bad : ∀ {i : Nat} {e : PyData}, ds[i]? = some e → (∀ c : Col, e = pairD c → Name c.1 → Kind c.2 → False) → ∀ cs, ¬ Acc d cs := fun he hno cs h => by
      obtain ⟨c, _, e, h1, h2⟩ := h.at hs he
      exact hno c e h1 h2
    by_cases hb : (1 : Int) ≤ ds.length ∧ (ds.length : Int) ≤ 4
    · rw [show rowOf 1 4 (some ds) = true from decide_eq_true hb]
      walk_at "z"
      refine ⟨by simp only [List.length_cons, List.length_nil]; decide, fun q hq1 => ?_⟩
      have W2 := W1.new (o := .lst []) hq1
      generalize upd H1 q (.lst []) = H2 at W2 ⊢
      walk_at "z"
      refine Z.forSqD (hq.imp (W2.fh.seq ·) (Z.seqT W2.fh ·)) (fun i σ H' => (∃ v2 v3 v4, σ = [some (.ref a), some (.ref q), v2, v3, v4]) ∧ ∃ cs' : List Col, Z.Ws [(q, .lst ((cs'.map (·.1)).map .str))] F0 H F0 H' ∧ ds.take i = cs'.map pairD ∧ (∀ c ∈ cs', Name c.1 ∧ Kind c.2) ∧ (cs'.map (·.1)).Nodup)
        ⟨⟨_, _, _, rfl⟩, [], W2, rfl, (fun c h => nomatch h), List.nodup_nil⟩ hq (fun i σ H' ⟨_, _, W, _⟩ => W.fh) ?_ ?_
      · rintro i x σ H' hx ⟨⟨v2, v3, v4, rfl⟩, cs', W, et, hnm, hnd⟩
        obtain ⟨e, he, hxe⟩ := Z.dxs_ix hds hx
        have fe := fit' e (List.mem_of_getElem? he)
        have bad := fun h => bad (i := i) he h
        walk_at "z"
        refine ⟨x, e, rfl, Z.dx_same W.fh hxe, fun ea eb hp => ?_, fun hp => kx (bad fun c hc _ _ => by rw [hc] at hp; cases hp) _ W.same⟩
        have ee := pair2_some hp
        subst ee
        walk_at "z"
        refine Z.gtupX hxe W.fh fun ys hys => ?_
        obtain ⟨x1, x2, rfl, hx1, hx2⟩ := Z.dxs2 hys
        walk_at "z"
        refine ⟨x1, ea, rfl, Z.dx_same W.fh hx1, fit_small (fe.2 ea (by simp)), ?_⟩
        cases hna : named ea with
        | false =>
          walk_at "z"
          exact kx (bad fun c hc h1 _ => by
            simp only [pairD, PyData.tuple.injEq, List.cons.injEq, and_true] at hc
            rw [hc.1] at hna
            exact absurd h1 (of_decide_eq_false hna)) _ W.same
        | true =>
          obtain ⟨z, rfl, hz⟩ := named_str hna
          cases Z.dx_str hx1
          walk_at "z"
          refine ⟨q, _, rfl, .inl (SqL.of (W.at 0 rfl)), rfl, flat_str _, ?_⟩
          rw [inV_str]
          by_cases hin : z ∈ cs'.map (·.1)
          · rw [decide_eq_true hin]
            walk_at "z"
            refine kx (fun cs h => ?_) _ W.same
            have e2 := h.seq hs
            rw [e2, ← List.map_take] at et
            have e3 := map_pairD_inj et
            rw [e2, List.getElem?_map] at he
            obtain ⟨c, hc, ec⟩ := Option.map_eq_some_iff.mp he
            simp only [pairD, PyData.tuple.injEq, List.cons.injEq, and_true, PyData.str.injEq] at ec
            have := take_nd h.2.nd hc
            rw [e3, ec.1] at this
            exact this hin
          · rw [decide_eq_false hin]
            walk_at "z"
            refine ⟨x2, eb, rfl, Z.dx_same W.fh hx2, fun H3 s3 => ?_⟩
            have W3 := W.exts s3
            cases hkb : kinded eb with
            | false =>
              walk_at "z"
              exact kx (bad fun c hc _ h2 => by
                simp only [pairD, PyData.tuple.injEq, List.cons.injEq, and_true] at hc
                rw [hc.2] at hkb
                exact absurd h2 (of_decide_eq_false hkb)) _ W3.same
            | true =>
              obtain ⟨y, rfl, hy⟩ := kinded_str hkb
              walk_at "z"
              refine ⟨.inl ⟨rfl, _, SqL.of (W3.at 0 rfl)⟩, ?_⟩
              walk_at "z"
              have ln : cs'.length = (ds.take i).length := by rw [et, List.length_map]
              rw [List.length_take] at ln
              refine Z.appW W3 0 rfl (fun H4 W4 => ?_) (by simp; omega)
              walk_at "z"
              refine ⟨⟨_, _, _, rfl⟩, cs' ++ [(z, y)], ?_, ?_, ?_, ?_⟩
              · rw [List.map_append, List.map_append]
                exact W4
              · rw [List.take_add_one, he, et, List.map_append]
                rfl
              · intro c hc
                rcases List.mem_append.mp hc with h | h
                · exact hnm c h
                · rw [List.mem_singleton.mp h]; exact ⟨hz, hy⟩
              · rw [List.map_append, List.nodup_append]
                exact ⟨hnd, by simp, fun a ha b hb e => by
                  rw [List.map_cons, List.map_nil, List.mem_singleton] at hb
                  rw [e, hb] at ha
                  exact hin ha⟩
      · rintro σ H' ⟨⟨v2, v3, v4, rfl⟩, cs', W, et, hnm, hnd⟩
        rw [List.take_of_length_le (by omega)] at et
        have hln : ds.length = cs'.length := by rw [et, List.length_map]
        have cok : ColsOk cs' := ⟨by omega, by omega, hnm, hnd⟩
        have hds' : DpAll K F0 xs (cs'.map pairD) := dx_pairs (by rw [← et]; exact hds)
        have hacc : Acc d cs' := ⟨seqD_to hs et, cok⟩
        walk_at "z"
        refine ⟨a, xs, rfl, ?_⟩
        rcases hq with hq | hq
        · refine .inl ⟨W.fh.seq hq, fun p hp => ?_⟩
          have W5 := W.dat (o := .tup xs) hp
          exact k cs' hacc _ _ _ W5.g (.tup (SqT.of upd_same) (Z.dpa_same (Z.same_new (W.freeF hp)) hds'))
        · exact .inr ⟨Z.seqT W.fh hq, k cs' hacc _ _ _ W.g (.tup hq hds')⟩
    · rw [show rowOf 1 4 (some ds) = false from decide_eq_false hb]
      walk_at "z"
      refine kx (fun cs h => hb ?_) _ s1
      have := h.seq hs
      have l := h.2.lo
      have l2 := h.2.hi
      rw [this, List.length_map]
      omega

def sp_tables_in (K : PySem.W.Frag) (A : Adr) : Sp := fun vs H Q E => ∃ (F : Hp) (v : V) (d : PyData), vs = [v] ∧ Same F H ∧ Z.DX K F v d ∧ Fit5 d ∧ (∀ ts, AccT d ts → ∀ F' H' q kvs, Z.Ws [(q, .dK kvs)] F H F' H' → KvOk K F' kvs ts → Q (.ref q) H') ∧ ((∀ ts, ¬ AccT d ts) → ∀ H', Same H H' → E (.ref A.NoSchema) none H')
theorem AccT.not {d : PyData} {ts : List Tab} (h : AccT d ts) : seqD d ≠ none := by
  obtain ⟨tds, h, _⟩ := h
  rcases h with rfl | rfl <;> exact fun e => by cases e
theorem AccT.at {d e : PyData} {ds : List PyData} {ts : List Tab} {i : Nat} (h : AccT d ts) (hs : seqD d = some ds) (he : ds[i]? = some e) : ∃ t c, ts[i]? = some t ∧ e = .tuple [.str t.1, c] ∧ Acc c t.2 ∧ Name t.1 := by
  obtain ⟨tds, h1, h2, h3, h4⟩ := h
  have := seqD_of hs h1
  subst this
  have hl := (List.getElem?_eq_some_iff.mp he).1
  have ht : ts[i]? = some (ts[i]'(by omega)) := List.getElem?_eq_getElem _
  obtain ⟨c, e1, e2⟩ := h3 i e _ he ht
  exact ⟨_, c, ht, e1, e2, (h4.nm _ (List.mem_of_getElem? ht)).1⟩
theorem ok_tables_in (T : Txt K mg A) : ∃ fd, FnOk P w K mg base (L2.CX P w) 3 A.f_tables_in fd ["thing"] (sp_tables_in K A) ∧ Binds K fd ["thing"] [] := by
  have ⟨fd, F, b⟩ := T.d_tables_in
  refine ⟨fd, F.okX sc_tables_in (fun vs H Q E h => ?_) (fun cdv Ar outer s H vs Q E hr h => ?_), b⟩
  · obtain ⟨F0, v, d, rfl, _⟩ := h
    rfl
  · obtain ⟨F0, v, d, rfl, sm, hv, fit, k, kx⟩ := h
    have nd := sc_tables_in.nd
    have hu := hu_of hr
    have ⟨fd_is_row_of, G_is_row_of, b_is_row_of⟩ := ok_is_row_of (P := P) (w := w) (base := base) T
    have ⟨fd_need_pair, G_need_pair, b_need_pair⟩ := ok_need_pair (P := P) (w := w) (base := base) T
    have ⟨fd_is_name, G_is_name, b_is_name⟩ := ok_is_name (P := P) (w := w) (base := base) T
    have ⟨fd_columns_in, G_columns_in, b_columns_in⟩ := ok_columns_in (P := P) (w := w) (base := base) T
    refine ⟨_, (pss_cons (ps_if (pt_not (pt_val (pe_call G_is_row_of (hr.mono (by decide)) (by rfl) T.g_is_row_of T.d_is_row_of.kp b_is_row_of .nil pass0 (pa_cons (pv 0) (pa_cons pe_int (pa_cons (Z.pe_gint rfl T.v_MOST_TABLES) pa_nil)))))) (pss_one (ps_raise rfl (takes_of rfl rfl rfl rfl) (Z.pmk_own0 PySem.F.excBase_ValueError T.xF_NoSchema T.g_NoSchema T.kc_NoSchema (raises_own T.sb_NoSchema T.tb_NoSchema)))) pss_nil)
      (pss_cons (ps_set (i := 1) nd rfl (Or.inl rfl) pe_dnewK)
      (pss_cons (ps_for (passes_of rfl) rfl (Z.pi_seq (pv 0)) (pg_name (i := 2) nd rfl (Or.inl rfl)) (pss_cons (ps_expr (pe_call G_need_pair (hr.mono (by decide)) (by rfl) T.g_need_pair T.d_need_pair.kp b_need_pair .nil (passes_call (takes_of rfl rfl rfl rfl) (fun _ _ _ _ h => h)) (pa_cons (pv 2) pa_nil)))
      (pss_cons (ps_if (PW.pt (pw_or (pt_not (pt_val (pe_call G_is_name (hr.mono (by decide)) (by rfl) T.g_is_name T.d_is_name.kp b_is_name .nil pass0 (pa_cons (pe_ix ix_tup (pv 2) pe_int (fun _ _ => rfl)) pa_nil)))) (pw_or1 (pt_cmp (pc_din hu (pe_ix ix_tup (pv 2) pe_int (fun _ _ => rfl)) (pv 1)))))) (pss_one (ps_raise rfl (takes_of rfl rfl rfl rfl) (Z.pmk_own0 PySem.F.excBase_ValueError T.xF_NoSchema T.g_NoSchema T.kc_NoSchema (raises_own T.sb_NoSchema T.tb_NoSchema)))) pss_nil)
      (pss_one (ps_dput hu (pv 1) (pe_ix ix_tup (pv 2) pe_int (fun _ _ => rfl)) (pe_call G_columns_in (hr.mono (by decide)) (by rfl) T.g_columns_in T.d_columns_in.kp b_columns_in .nil (passes_call (takes_of rfl rfl rfl rfl) (fun _ _ _ _ h => h)) (pa_cons (pe_ix ix_tup (pv 2) pe_int (fun _ _ => rfl)) pa_nil)) rfl)))))
      (pss_one (ps_ret (pv 1)))))), ?_⟩
    simp only [cxOf, Cx.nox, L2.start, List.map_cons, List.map_nil, List.length_cons, List.length_nil, Nat.reduceAdd, Nat.reduceSub, List.replicate, List.cons_append, List.nil_append]
    walk_at "z"
    refine ⟨v, d, 1, 4, rfl, Z.dx_same sm hv, fun H1 s1 => ?_⟩
    cases hs : seqD d with
    | none =>
      walk_at "z"
      exact kx (fun cs h => h.not hs) _ s1
    | some ds =>
    have W1 := (Z.Ws.init sm).exts s1
    obtain ⟨a, xs, rfl, hq, hds⟩ := dx_seq hv hs
    have hl := Z.dxs_len hds
    have fit' := fit5_seq fit hs
    have bad : ∀ {i : Nat} {e : PyData}, ds[i]? = some e → (∀ (z : Str) (c : PyData) (cs : List Col), e = .tuple [.str z, c] → Acc c cs → Name z → False) → ∀ ts, ¬ AccT d ts := fun he hno ts h => by
      obtain ⟨t, c, _, e, h1, h2⟩ := h.at hs he
      exact hno t.1 c t.2 e h1 h2
    by_cases hb : (1 : Int) ≤ ds.length ∧ (ds.length : Int) ≤ 4
    · rw [show rowOf 1 4 (some ds) = true from decide_eq_true hb]
      walk_at "z"
      intro q hq1
      have W2 := W1.new (o := .dK []) hq1
      generalize upd H1 q (.dK []) = H2 at W2 ⊢
      walk_at "z"
      refine Z.forSqD (hq.imp (W2.fh.seq ·) (Z.seqT W2.fh ·)) (fun i σ H' => (∃ v2, σ = [some (.ref a), some (.ref q), v2]) ∧ ∃ F' kvs ts', Z.Ws [(q, .dK kvs)] F0 H F' H' ∧ Same F0 F' ∧ KvOk K F' kvs ts' ∧ ts'.length = min i ds.length ∧
          (∀ (j : Nat) (e : PyData) (t : Tab), ds[j]? = some e → ts'[j]? = some t → ∃ c, e = .tuple [.str t.1, c] ∧ Acc c t.2) ∧ (∀ t ∈ ts', Name t.1) ∧ (ts'.map (·.1)).Nodup)
        ⟨⟨_, rfl⟩, F0, [], [], W2, Same.refl _, .nil, by simp, (fun j e t _ h => by simp at h), (fun c h => nomatch h), List.nodup_nil⟩ hq (fun i σ H' ⟨_, _, _, _, W, s, _⟩ => s.trans W.fh) ?_ ?_
      · rintro i x σ H' hx ⟨⟨v2, rfl⟩, F1, kvs, ts', W, sF, kv, tl, hpre, hnm, hnd⟩
        obtain ⟨e, he, hxe⟩ := Z.dxs_ix hds hx
        have hxe := Z.dx_same sF hxe
        have hil := (List.getElem?_eq_some_iff.mp he).1
        have fe := fit' e (List.mem_of_getElem? he)
        have bad := fun h => bad (i := i) he h
        walk_at "z"
        refine ⟨x, e, rfl, Z.dx_same W.fh hxe, fun ea eb hp => ?_, fun hp => kx (bad fun z c cs hc _ _ => by rw [hc] at hp; cases hp) _ W.same⟩
        have ee := pair2_some hp
        subst ee
        obtain ⟨y, yx, rfl, hy, hyx⟩ := Z.dx_tup hxe
        obtain ⟨x1, x2, rfl, hx1, hx2⟩ := Z.dxs2 hyx
        have hyH := Z.seqT W.fh hy
        walk_at "z"
        refine ixTv (i := 0) hyH rfl ?_
        walk_at "z"
        refine ⟨x1, ea, rfl, Z.dx_same W.fh hx1, fit_small ((fe ea (by simp)).1), ?_⟩
        cases hna : named ea with
        | false =>
          walk_at "z"
          exact kx (bad fun z c cs hc _ h1 => by
            simp only [PyData.tuple.injEq, List.cons.injEq, and_true] at hc
            rw [hc.1] at hna
            exact absurd h1 (of_decide_eq_false hna)) _ W.same
        | true =>
          obtain ⟨z, rfl, hz⟩ := named_str hna
          cases Z.dx_str hx1
          walk_at "z"
          refine ixTv (i := 0) hyH rfl ?_
          walk_at "z"
          refine dinS (W.at 0 rfl) ?_
          by_cases hin : z ∈ ts'.map (·.1)
          · obtain ⟨t', ht', rfl⟩ := List.mem_map.mp hin
            obtain ⟨w', ew, _⟩ := kv.some hnd ht'
            rw [ew]
            walk_at "z"
            refine kx (fun ts h => ?_) _ W.same
            obtain ⟨j, hj⟩ := List.mem_iff_getElem?.mp ht'
            have hjl := (List.getElem?_eq_some_iff.mp hj).1
            have hdj : ds[j]? = some (ds[j]'(by omega)) := List.getElem?_eq_getElem _
            obtain ⟨c1, e1, _⟩ := hpre j _ t' hdj hj
            obtain ⟨t1, c2, g1, e2, _, _⟩ := h.at hs hdj
            obtain ⟨t2, c3, g2, e3, _, _⟩ := h.at hs he
            rw [e2] at e1
            simp only [PyData.tuple.injEq, List.cons.injEq, and_true, PyData.str.injEq] at e1 e3
            obtain ⟨_, _, _, _, tk⟩ := h
            have n1 : (ts.map (·.1))[j]? = some t'.1 := by rw [List.getElem?_map, g1, ← e1.1]; rfl
            have n2 : (ts.map (·.1))[i]? = some t'.1 := by rw [List.getElem?_map, g2, e3.1]; rfl
            have := nd_ix tk.nd n1 n2
            omega
          · rw [kv.none hin]
            walk_at "z"
            refine ixTv (i := 1) hyH rfl ?_
            walk_at "z"
            refine ⟨F1, x2, eb, rfl, W.fh, hx2, (fe eb (by simp)).2, fun cs hcs F2 H3 r g2 hr => ?_, fun hno H3 s3 => kx (bad fun z' c cs hc h1 _ => by
              simp only [PyData.tuple.injEq, List.cons.injEq, and_true] at hc
              rw [← hc.2] at h1
              exact hno cs h1) _ (W.exts s3).same⟩
            have W3 := W.ext g2
            have hyH3 := Z.seqT g2.h hyH
            walk_at "z"
            refine ixTv (i := 0) hyH3 rfl ?_
            have kl := kv.len
            refine dputS (W3.at 0 rfl) (by omega) ?_
            walk_at "z"
            refine ⟨⟨_, rfl⟩, F2, _, ts' ++ [(z, cs)], W3.set 0 rfl _, sF.trans g2.f, ?_, ?_, ?_, ?_, ?_⟩
            · rw [put_end (kv.none hin)]
              exact (kv.same g2.f).snoc (t := (z, cs)) hr
            · rw [List.length_append]
              show ts'.length + 1 = _
              omega
            · intro j e' t' hj ht'
              by_cases hji : j < ts'.length
              · rw [List.getElem?_append_left hji] at ht'
                exact hpre j e' t' hj ht'
              · have hjl := (List.getElem?_eq_some_iff.mp ht').1
                rw [List.length_append] at hjl
                have : j = i := by simp at hjl; omega
                subst this
                rw [he] at hj
                cases hj
                rw [List.getElem?_append_right (by omega), show j - ts'.length = 0 by omega] at ht'
                cases ht'
                exact ⟨eb, rfl, hcs⟩
            · intro t ht
              rcases List.mem_append.mp ht with h | h
              · exact hnm t h
              · rw [List.mem_singleton.mp h]; exact hz
            · rw [List.map_append, List.nodup_append]
              exact ⟨hnd, by simp, fun a ha b hb e => by
                rw [List.map_cons, List.map_nil, List.mem_singleton] at hb
                rw [e, hb] at ha
                exact hin ha⟩
      · rintro σ H' ⟨⟨v2, rfl⟩, F1, kvs, ts', W, sF, kv, tl, hpre, hnm, hnd⟩
        rw [hl, Nat.min_self] at tl
        have hok : TabsOk ts' := ⟨by omega, by omega, fun t ht => ⟨hnm t ht, by
          obtain ⟨j, hj⟩ := List.mem_iff_getElem?.mp ht
          have hjl := (List.getElem?_eq_some_iff.mp hj).1
          obtain ⟨c, _, h⟩ := hpre j _ t (List.getElem?_eq_getElem (by omega)) hj
          exact h.2⟩, hnd⟩
        walk_at "z"
        exact k ts' ⟨ds, seqD_to hs rfl, by omega, fun i e t h1 h2 => hpre i e t h1 h2, hok⟩ F1 H' q kvs W kv
    · rw [show rowOf 1 4 (some ds) = false from decide_eq_false hb]
      walk_at "z"
      refine kx (fun ts h => hb ?_) _ s1
      obtain ⟨tds, h1, h2, _, tk⟩ := h
      have := seqD_of hs h1
      have l := tk.lo
      have l2 := tk.hi
      rw [this]
      omega

def sp_orders_in (K : PySem.W.Frag) (A : Adr) : Sp := fun vs H Q E => ∃ (F : Hp) (v : V) (d : PyData) (dd : Addr) (kvs : List (Key × V)) (ts : List Tab), vs = [v, .ref dd] ∧ Same F H ∧ Z.DX K F v d ∧ Fit3 d ∧ H dd = some (.dK kvs) ∧ KvOk K F kvs ts ∧ TabsOk ts ∧
  (∀ os, AccO ts d os → ∀ F' H' r, Z.Gr F H F' H' → Dp K F' r (.tuple (os.map pairD)) → Q r H') ∧ ((∀ os, ¬ AccO ts d os) → ∀ H', Same H H' → E (.ref A.NoSchema) none H')
theorem AccO.seq {d : PyData} {ds : List PyData} {ts : List Tab} {os : List (Str × Str)} (h : AccO ts d os) (hs : seqD d = some ds) : ds = os.map pairD := seqD_of hs h.1
theorem AccO.not {d : PyData} {ts : List Tab} {os : List (Str × Str)} (h : AccO ts d os) : seqD d ≠ none := by
  rcases h.1 with rfl | rfl <;> exact fun e => by cases e
theorem ok_orders_in (T : Txt K mg A) : ∃ fd, FnOk P w K mg base (L2.CX P w) 2 A.f_orders_in fd ["thing", "tables"] (sp_orders_in K A) ∧ Binds K fd ["thing", "tables"] [] := by
  have ⟨fd, F, b⟩ := T.d_orders_in
  refine ⟨fd, F.okX sc_orders_in (fun vs H Q E h => ?_) (fun cdv Ar outer s H vs Q E hr h => ?_), b⟩
  · obtain ⟨F0, v, d, dd, kvs, ts, rfl, _⟩ := h
    rfl
  · obtain ⟨F0, v, d, dd, kvs, ts, rfl, sm, hv, fit, hdk, kv, tk, k, kx⟩ := h
    have nd := sc_orders_in.nd
    have hu := hu_of hr
    have ⟨fd_is_row_of, G_is_row_of, b_is_row_of⟩ := ok_is_row_of (P := P) (w := w) (base := base) T
    have ⟨fd_need_pair, G_need_pair, b_need_pair⟩ := ok_need_pair (P := P) (w := w) (base := base) T
    have ⟨fd_is_name, G_is_name, b_is_name⟩ := ok_is_name (P := P) (w := w) (base := base) T
    refine ⟨_, (pss_cons (ps_if (pt_not (pt_val (pe_call G_is_row_of (hr.mono (by decide)) (by rfl) T.g_is_row_of T.d_is_row_of.kp b_is_row_of .nil pass0 (pa_cons (pv 0) (pa_cons pe_int (pa_cons (Z.pe_gint rfl T.v_MOST_ORDERS) pa_nil)))))) (pss_one (ps_raise rfl (takes_of rfl rfl rfl rfl) (Z.pmk_own0 PySem.F.excBase_ValueError T.xF_NoSchema T.g_NoSchema T.kc_NoSchema (raises_own T.sb_NoSchema T.tb_NoSchema)))) pss_nil)
      (pss_cons (ps_set (i := 2) nd rfl (Or.inl rfl) (pe_lst pa_nil))
      (pss_cons (ps_for (passes_of rfl) rfl (Z.pi_seq (pv 0)) (pg_name (i := 3) nd rfl (Or.inl rfl)) (pss_cons (ps_expr (pe_call G_need_pair (hr.mono (by decide)) (by rfl) T.g_need_pair T.d_need_pair.kp b_need_pair .nil (passes_call (takes_of rfl rfl rfl rfl) (fun _ _ _ _ h => h)) (pa_cons (pv 3) pa_nil)))
      (pss_cons (ps_asg (pv 3) (pg_tup rfl (pgs_cons (pg_name (i := 4) nd rfl (Or.inl rfl)) (pgs_cons (pg_name (i := 5) nd rfl (Or.inl rfl)) pgs_nil))))
      (pss_cons (ps_if (PW.pt (pw_or (pt_not (pt_val (pe_call G_is_name (hr.mono (by decide)) (by rfl) T.g_is_name T.d_is_name.kp b_is_name .nil pass0 (pa_cons (pv 4) pa_nil)))) (pw_or (pt_not (pt_val (pe_call G_is_name (hr.mono (by decide)) (by rfl) T.g_is_name T.d_is_name.kp b_is_name .nil pass0 (pa_cons (pv 5) pa_nil)))) (pw_or (pt_cmp (pc_dnotin hu (pv 4) (pv 1))) (pw_or1 (pt_cmpR (op_inD (Z.hu65 hr)) (pv 3) (pv 2) (by rfl))))))) (pss_one (ps_raise rfl (takes_of rfl rfl rfl rfl) (Z.pmk_own0 PySem.F.excBase_ValueError T.xF_NoSchema T.g_NoSchema T.kc_NoSchema (raises_own T.sb_NoSchema T.tb_NoSchema)))) pss_nil)
      (pss_cons (ps_if (pt_cmpR op_notIn_seq (pv 5) (pe_lc (own := [("name", 6), ("kind", 7)]) rfl nd (pi_tup (pe_slice sl_tupA (pe_dget hu (pv 1) (pv 4) (fun _ _ => rfl)) (po_some pe_int) po_none)) (blkOk_by (own := [("name", 6), ("kind", 7)]) (N := ["thing", "tables", "found", "order", "table", "column", "name", "kind"]) (sc := defScope s_orders_in) (by decide +kernel)) (fun _ _ _ _ _ => (pg_tupK (K := K) (n := 2) rfl rfl (pgs_cons (pg_name (i := 6) nd rfl (Or.inl rfl)) (pgs_cons (pg_name (i := 7) nd rfl (Or.inl rfl)) pgs_nil)))) (fun _ _ _ _ _ => pts_nil) (fun _ _ _ _ _ => (pv 6))) (by rfl)) (pss_one (ps_raise rfl (takes_of rfl rfl rfl rfl) (Z.pmk_own0 PySem.F.excBase_ValueError T.xF_NoSchema T.g_NoSchema T.kc_NoSchema (raises_own T.sb_NoSchema T.tb_NoSchema)))) pss_nil)
      (pss_one (ps_expr (pe_bm PySem.F.plainAttrs_list PySem.F.slot_list_append PySem.F.type_list_append mt_append (pv 2) (pa_cons (pv 3) pa_nil)))))))))
      (pss_one (ps_ret (pe_callTy call_tuple_of (by rfl) T.b_tuple (by decide +kernel) (pa_cons (pv 2) pa_nil))))))), ?_⟩
    simp only [cxOf, Cx.nox, L2.start, List.map_cons, List.map_nil, List.length_cons, List.length_nil, Nat.reduceAdd, Nat.reduceSub, List.replicate, List.cons_append, List.nil_append]
    walk_at "z"
    refine ⟨v, d, 0, 4, rfl, Z.dx_same sm hv, fun H1 s1 => ?_⟩
    cases hs : seqD d with
    | none =>
      walk_at "z"
      exact kx (fun cs h => h.not hs) _ s1
    | some ds =>
    have W1 := (Z.Ws.init sm).exts s1
    obtain ⟨a, xs, rfl, hq, hds⟩ := dx_seq hv hs
    have hl := Z.dxs_len hds
    have fit' := fit3_seq fit hs
    have bad : ∀ {i : Nat} {e : PyData}, ds[i]? = some e → (∀ o : Str × Str, e = pairD o → (∃ t ∈ ts, t.1 = o.1 ∧ ∃ c ∈ t.2.drop 1, c.1 = o.2) → False) → ∀ os, ¬ AccO ts d os := fun he hno os h => by
      rw [h.seq hs, List.getElem?_map] at he
      obtain ⟨o, ho, rfl⟩ := Option.map_eq_some_iff.mp he
      exact hno o rfl (h.2.nm o (List.mem_of_getElem? ho))
    by_cases hb : (0 : Int) ≤ ds.length ∧ (ds.length : Int) ≤ 4
    · rw [show rowOf 0 4 (some ds) = true from decide_eq_true hb]
      walk_at "z"
      refine ⟨by simp only [List.length_cons, List.length_nil]; decide, fun q hq1 => ?_⟩
      have W2 := W1.new (o := .lst []) hq1
      generalize upd H1 q (.lst []) = H2 at W2 ⊢
      walk_at "z"
      refine Z.forSqD (hq.imp (W2.fh.seq ·) (Z.seqT W2.fh ·)) (fun i σ H' => (∃ v3 v4 v5 v6 v7, σ = [some (.ref a), some (.ref dd), some (.ref q), v3, v4, v5, v6, v7]) ∧ ∃ F' os', Z.Ws [(q, .lst (xs.take i))] F0 H F' H' ∧ Same F0 F' ∧ ds.take i = os'.map pairD ∧ (∀ o ∈ os', Name o.1 ∧ Name o.2) ∧ (∀ o ∈ os', ∃ t ∈ ts, t.1 = o.1 ∧ ∃ c ∈ t.2.drop 1, c.1 = o.2) ∧ os'.Nodup)
        ⟨⟨_, _, _, _, _, rfl⟩, F0, [], W2, Same.refl _, rfl, (fun c h => nomatch h), (fun c h => nomatch h), List.nodup_nil⟩ hq (fun i σ H' ⟨_, _, _, W, s, _⟩ => s.trans W.fh) ?_ ?_
      · rintro i x σ H' hx ⟨⟨v3, v4, v5, v6, v7, rfl⟩, F1, os', W, sF, et, hnm, hin, hnd⟩
        obtain ⟨e, he, hxe0⟩ := Z.dxs_ix hds hx
        have hxe := Z.dx_same sF hxe0
        have hil := (List.getElem?_eq_some_iff.mp he).1
        have fe := fit' e (List.mem_of_getElem? he)
        have bad := fun h => bad (i := i) he h
        have hdk' := W.same _ _ hdk
        walk_at "z"
        refine ⟨x, e, rfl, Z.dx_same W.fh hxe, fun ea eb hp => ?_, fun hp => kx (bad fun o hc _ => by rw [hc] at hp; cases hp) _ W.same⟩
        have ee := pair2_some hp
        subst ee
        walk_at "z"
        refine Z.gtupX hxe W.fh fun ys hys => ?_
        obtain ⟨x1, x2, rfl, hx1, hx2⟩ := Z.dxs2 hys
        walk_at "z"
        refine ⟨x1, ea, rfl, Z.dx_same W.fh hx1, fit_small (fe.2 ea (by simp)), ?_⟩
        cases hna : named ea with
        | false =>
          walk_at "z"
          exact kx (bad fun o hc h => by
            simp only [pairD, PyData.tuple.injEq, List.cons.injEq, and_true] at hc
            obtain ⟨t, ht, e1, _⟩ := h
            rw [hc.1, ← e1] at hna
            exact absurd (tk.nm t ht).1 (of_decide_eq_false hna)) _ W.same
        | true =>
        obtain ⟨z, rfl, hz⟩ := named_str hna
        cases Z.dx_str hx1
        walk_at "z"
        refine ⟨x2, eb, rfl, Z.dx_same W.fh hx2, fit_small (fe.2 eb (by simp)), ?_⟩
        cases hnb : named eb with
        | false =>
          walk_at "z"
          exact kx (bad fun o hc h => by
            simp only [pairD, PyData.tuple.injEq, List.cons.injEq, and_true] at hc
            obtain ⟨t, ht, _, c, hcm, e2⟩ := h
            rw [hc.2, ← e2] at hnb
            exact absurd ((tk.nm t ht).2.nm c (List.mem_of_mem_drop hcm)).1 (of_decide_eq_false hnb)) _ W.same
        | true =>
        obtain ⟨y, rfl, hy⟩ := named_str hnb
        cases Z.dx_str hx2
        walk_at "z"
        refine dinS hdk' ?_
        by_cases htz : z ∈ ts.map (·.1)
        · obtain ⟨t, htm, et1⟩ := List.mem_map.mp htz
          obtain ⟨w', ew, hw'⟩ := kv.some tk.nd htm
          rw [et1] at ew
          rw [ew]
          walk_at "z"
          have hxp : Dp K F1 x (pairD (z, y)) := dx_pair hxe
          have hot : DpAll K F0 (xs.take i) (os'.map pairD) := dx_pairs (by rw [← et]; exact Z.dxs_take i hds)
          refine ⟨_, _, Z.dp_same W.fh hxp, .lst (SqL.of (W.at 0 rfl)) (Z.dpa_same (sF.trans W.fh) hot), shaped_pair (pairOk_of ⟨hz, hy⟩), shaped_pairsL (fun o h => pairOk_of (hnm o h)), ?_⟩
          rw [any_pair]
          by_cases hino : (z, y) ∈ os'
          · rw [decide_eq_true hino]
            walk_at "z"
            refine kx (fun os h => ?_) _ W.same
            have e2 := h.seq hs
            rw [e2, ← List.map_take] at et
            have e3 := map_pairD_inj et
            rw [e2, List.getElem?_map] at he
            obtain ⟨o, ho, eo⟩ := Option.map_eq_some_iff.mp he
            have eo' : o = (z, y) := pairD_inj eo
            subst eo'
            have nd := h.2.nd
            rw [← List.take_append_drop i os, List.nodup_append] at nd
            exact nd.2.2 (z, y) (by rw [e3]; exact hino) (z, y) (List.mem_of_getElem? (i := 0) (by rw [List.getElem?_drop]; exact ho)) rfl
          · rw [decide_eq_false hino]
            walk_at "z"
            refine dgetS hdk' ew ?_
            walk_at "z"
            refine Z.slT W (Z.dp_same sF hw') fun r F2 H2 W3 s2 hr => ?_
            rw [show Z.cutD (List.map pairD t.2) (some 1) none = (List.map pairD t.2).drop 1 from cutD_tail _ 1, List.drop_one, ← List.map_tail] at hr
            obtain ⟨ra, rx, rfl, hr1, hr2⟩ := Z.dp_tup hr
            refine ⟨ra, rfl, ⟨_, Z.seqT W3.fh hr1⟩, fun D hD => ?_⟩
            refine lc_it walk_tup (Z.LcP K D _ F0 H F2 (t.2.tail.map fun c => .str c.1)) (Z.lc0 W3 hD) (fun i H' hi ⟨F', vs, W, s, _⟩ => Z.seqT (s.trans W.fh) hr1) ?_ ?_
            · rintro j x H3 H4 hj ⟨F3, vs, W4, s4, ha⟩ ⟨rfl, hx⟩
              obtain ⟨dd, e1, e2⟩ := Z.dpa_ix hr2 hx
              rw [List.getElem?_map] at e1
              obtain ⟨c', hc', rfl⟩ := Option.map_eq_some_iff.mp e1
              have e2 := Z.dp_same s4 e2
              refine Z.gtupD e2 W4.fh fun ys hys => ?_
              obtain ⟨x1, x2, rfl, hx1, hx2⟩ := Z.dpa2 hys
              cases Z.dp_str hx1
              cases Z.dp_str hx2
              walk_at "z"
              refine ⟨rfl, ?_⟩
              walk_at "z"
              exact Z.lcS W4 s4 ha (by rw [List.getElem?_map, hc']; rfl) (.str _) (by rw [List.length_map, List.length_tail]; have := (tk.nm t htm).2.hi; omega)
            · rintro H3 ⟨F3, vs, W4, s4, ha⟩
              have hlen : rx.length = (t.2.tail.map fun c => PyData.str c.1).length := by rw [Z.dpa_len hr2, List.length_map, List.length_map]
              rw [hlen, List.take_length] at ha
              have ha : DpAll K F3 vs ((t.2.tail.map fun c => c.1).map PyData.str) := by rw [List.map_map]; exact ha
              cases Z.dpa_strs ha
              refine ⟨D, _, rfl, .inl (SqL.of (W4.at 0 rfl)), rfl, flat_str _, ?_⟩
              rw [inV_str]
              by_cases hyc : y ∈ t.2.tail.map (·.1)
              · rw [decide_eq_true hyc]
                walk_at "z"
                refine ⟨.inl ⟨rfl, _, SqL.of (W4.at 1 rfl)⟩, ?_⟩
                walk_at "z"
                refine Z.appW W4 1 rfl (fun H3 W5 => ?_) (by rw [List.length_take]; omega)
                walk_at "z"
                refine ⟨⟨_, _, _, _, _, rfl⟩, F3, os' ++ [(z, y)], ?_, sF.trans (s2.trans s4), ?_, ?_, ?_, ?_⟩
                · rw [List.take_add_one, hx]
                  exact W5.pick [1] (by decide) rfl
                · rw [List.take_add_one, he, et, List.map_append]
                  rfl
                · intro o ho
                  rcases List.mem_append.mp ho with h | h
                  · exact hnm o h
                  · rw [List.mem_singleton.mp h]; exact ⟨hz, hy⟩
                · intro o ho
                  rcases List.mem_append.mp ho with h | h
                  · exact hin o h
                  · rw [List.mem_singleton.mp h]
                    obtain ⟨c, hc, ec⟩ := List.mem_map.mp hyc
                    exact ⟨t, htm, et1, c, by rw [List.drop_one]; exact hc, ec⟩
                · rw [List.nodup_append]
                  exact ⟨hnd, by simp, fun a ha b hb e => by
                    rw [List.mem_singleton] at hb
                    rw [e, hb] at ha
                    exact hino ha⟩
              · rw [decide_eq_false hyc]
                walk_at "z"
                exact kx (bad fun o hc h => by
                  have ho : o = (z, y) := (pairD_inj (a := (z, y)) (b := o) hc).symm
                  subst ho
                  obtain ⟨t', ht', e1, c, hcm, e2⟩ := h
                  have : t' = t := by
                    obtain ⟨j, hj⟩ := List.mem_iff_getElem?.mp ht'
                    obtain ⟨l, hl⟩ := List.mem_iff_getElem?.mp htm
                    have n1 : (ts.map (·.1))[j]? = some z := by rw [List.getElem?_map, hj]; exact congrArg some e1
                    have n2 : (ts.map (·.1))[l]? = some z := by rw [List.getElem?_map, hl]; exact congrArg some et1
                    have := nd_ix tk.nd n1 n2
                    subst this
                    rw [hj] at hl
                    exact Option.some.inj hl
                  subst this
                  exact hyc (List.mem_map.mpr ⟨c, by rw [← List.drop_one]; exact hcm, e2⟩)) _ W4.same
        · rw [kv.none htz]
          walk_at "z"
          exact kx (bad fun o hc h => by
            obtain ⟨t, ht, e1, _⟩ := h
            have ho : o = (z, y) := (pairD_inj (a := (z, y)) (b := o) hc).symm
            subst ho
            exact htz (List.mem_map.mpr ⟨t, ht, e1⟩)) _ W.same
      · rintro σ H' ⟨⟨v3, v4, v5, v6, v7, rfl⟩, F1, os', W, sF, et, hnm, hin, hnd⟩
        rw [List.take_of_length_le (by omega)] at et
        rw [List.take_length] at W
        have hln : ds.length = os'.length := by rw [et, List.length_map]
        have hds' : DpAll K F0 xs (os'.map pairD) := dx_pairs (by rw [← et]; exact hds)
        walk_at "z"
        refine ⟨q, xs, rfl, .inl ⟨SqL.of (W.at 0 rfl), fun p hp => ?_⟩⟩
        have W5 := W.dat (o := .tup xs) hp
        exact k os' ⟨seqD_to hs et, by omega, hin, hnd⟩ _ _ _ W5.g (.tup (SqT.of upd_same) (Z.dpa_same (sF.trans (Z.same_new (W.freeF hp))) hds'))
    · rw [show rowOf 0 4 (some ds) = false from decide_eq_false hb]
      walk_at "z"
      refine kx (fun os h => hb ?_) _ s1
      have := h.seq hs
      have l2 := h.2.hi
      rw [this, List.length_map]
      omega
theorem Acc.one {d : PyData} {a b : List Col} (h1 : Acc d a) (h2 : Acc d b) : a = b := by
  rcases h1.1 with e1 | e1 <;> rcases h2.1 with e2 | e2 <;> rw [e1] at e2 <;> first | exact map_pairD_inj (by simpa using e2) | cases e2
theorem accT_one {d : PyData} {a b : List Tab} (h1 : AccT d a) (h2 : AccT d b) : a = b := by
  obtain ⟨x, x1, x2, x3, _⟩ := h1
  obtain ⟨y, y1, y2, y3, _⟩ := h2
  have e : x = y := by rcases x1 with e1 | e1 <;> rcases y1 with e2 | e2 <;> rw [e1] at e2 <;> first | exact (by simpa using e2) | cases e2
  subst e
  refine List.ext_getElem? fun i => ?_
  by_cases hi : i < x.length
  · have ha : a[i]? = some (a[i]'(by omega)) := List.getElem?_eq_getElem _
    have hb : b[i]? = some (b[i]'(by omega)) := List.getElem?_eq_getElem _
    obtain ⟨c, e1, e2⟩ := x3 i _ _ (List.getElem?_eq_getElem hi) ha
    obtain ⟨c', e3, e4⟩ := y3 i _ _ (List.getElem?_eq_getElem hi) hb
    rw [e1] at e3
    simp only [PyData.tuple.injEq, List.cons.injEq, PyData.str.injEq, and_true] at e3
    rw [← e3.2] at e4
    rw [ha, hb]
    exact congrArg some (Prod.ext e3.1 (e2.one e4))
  · rw [List.getElem?_eq_none (by omega), List.getElem?_eq_none (by omega)]
theorem dx_non {K : PySem.W.Frag} {F : Hp} {v : V} {d : PyData} (h : Z.DX K F v d) : v = .non ↔ d = .none := by
  cases h <;> simp
def sp_Schema___init__ (K : PySem.W.Frag) (A : Adr) : Sp := fun vs H Q E => ∃ (F B : Hp) (x dx : Addr) (v u : V) (td od : PyData), vs = [.ref x, v, u] ∧ Z.Ws [(x, .ins A.Schema dx [])] F B F H ∧ Z.DX K F v td ∧ Fit5 td ∧ Z.DX K F u od ∧ Fit3 od ∧
  (∀ ts os, AccT td ts → ((od = .none ∧ os = []) ∨ (od ≠ .none ∧ AccO ts od os)) → ∀ F' H' q kvs ko, Z.Ws [(x, .ins A.Schema dx (schF q ko)), (q, .dK kvs)] F B F' H' → Same F F' → KvOk K F' kvs ts → Dp K F' ko (.tuple (os.map pairD)) → Q .non H') ∧
  ((∀ ts, AccT td ts → od ≠ .none ∧ ∀ os, ¬ AccO ts od os) → ∀ H', Same B H' → E (.ref A.NoSchema) none H')
theorem ok_Schema___init__ (T : Txt K mg A) : ∃ fd, FnOk P w K mg base (L2.CX P w) 4 A.f_Schema___init__ fd ["self", "tables", "orders"] (sp_Schema___init__ K A) ∧ Binds K fd ["self", "tables", "orders"] [] ∧ ∃ ds, Vals [.non] ds ∧ Binds K fd ["self", "tables", "orders"] ds := by
  have ⟨fd, F, b⟩ := T.d_Schema___init__
  refine ⟨fd, FD.okX F sc_Schema___init__ (fun vs H Q E h => ?_) (fun cdv Ar outer s H vs Q E hr h => ?_), b⟩
  · obtain ⟨F0, B, x, dx, v, u, td, od, rfl, _⟩ := h
    rfl
  · obtain ⟨F0, B, x, dx, v, u, td, od, rfl, W0, ht, ft, ho, fo, k, kx⟩ := h
    have nd := sc_Schema___init__.nd
    have hu := hu_of hr
    have ⟨fd_tables_in, G_tables_in, b_tables_in⟩ := ok_tables_in (P := P) (w := w) (base := base) T
    have ⟨fd_orders_in, G_orders_in, b_orders_in⟩ := ok_orders_in (P := P) (w := w) (base := base) T
    refine ⟨_, (pss_cons (ps_fld (pv 0) (pe_call G_tables_in (hr.mono (by decide)) (by rfl) T.g_tables_in T.d_tables_in.kp b_tables_in .nil (passes_call (takes_of rfl rfl rfl rfl) (fun _ _ _ _ h => h)) (pa_cons (pv 1) pa_nil)) rfl)
      (pss_cons (ps_fld (pv 0) (pe_tup pa_nil) rfl)
      (pss_one (ps_if (pt_cmpR op_notN (pv 2) pe_non (nomark _)) (pss_one (ps_fld (pv 0) (pe_call G_orders_in (hr.mono (by decide)) (by rfl) T.g_orders_in T.d_orders_in.kp b_orders_in .nil (passes_call (takes_of rfl rfl rfl rfl) (fun _ _ _ _ h => h)) (pa_cons (pv 2) (pa_cons (pe_fld (pv 0) rfl) pa_nil))) rfl)) pss_nil)))), ?_⟩
    simp only [cxOf, Cx.nox, L2.start, List.map_cons, List.map_nil, List.length_cons, List.length_nil, Nat.reduceAdd, Nat.reduceSub, List.replicate, List.cons_append, List.nil_append]
    walk_at "z"
    refine ⟨F0, v, td, rfl, W0.fh, ht, ft, fun ts hts F1 H1 d kvs M1 kv => ?_, fun hno H1 s1 => kx (fun ts h => absurd h (hno ts)) _ (W0.same.trans s1)⟩
    have tk : TabsOk ts := by obtain ⟨_, _, _, _, h⟩ := hts; exact h
    have W1 := W0.join M1
    have hx1 : H1 x = some (.ins A.Schema dx []) := W1.at 1 rfl
    walk_at "z"
    have W2 := W1.set 1 rfl (.ins A.Schema dx [("columns", .ref d)])
    generalize upd H1 x (.ins A.Schema dx [("columns", .ref d)]) = H2 at W2 ⊢
    have hx2 : H2 x = some (.ins A.Schema dx [("columns", .ref d)]) := W2.at 1 rfl
    have hd2 : H2 d = some (.dK kvs) := W2.at 0 rfl
    walk_at "z"
    refine ⟨by simp only [List.length_nil]; decide, fun p hp => ?_⟩
    have W3 := W2.dat (o := .tup []) hp
    have sF3 := Z.same_new (o := .tup []) (W2.freeF hp)
    have dk : Dp K (upd F1 p (.tup [])) (.ref p) (.tuple ([].map pairD)) := .tup (SqT.of upd_same) .nil
    generalize upd H2 p (.tup []) = H3 at W3 ⊢
    generalize upd F1 p (.tup []) = F3 at W3 sF3 dk
    have hx3 : H3 x = some (.ins A.Schema dx [("columns", .ref d)]) := W3.at 1 rfl
    walk_at "z"
    have W4 := W3.set 1 rfl (.ins A.Schema dx [("columns", .ref d), ("kept_orders", .ref p)])
    generalize upd H3 x (.ins A.Schema dx [("columns", .ref d), ("kept_orders", .ref p)]) = H4 at W4 ⊢
    have hx4 : H4 x = some (.ins A.Schema dx (schF d (.ref p))) := W4.at 1 rfl
    have hd4 : H4 d = some (.dK kvs) := W4.at 0 rfl
    have kv3 := kv.same sF3
    have s03 := M1.f0.trans sF3
    walk_at "z"
    by_cases hne : u = .non
    · rw [decide_eq_true hne]
      walk_at "z"
      exact k ts [] hts (.inl ⟨(dx_non ho).mp hne, rfl⟩) F3 H4 d kvs _ (W4.pick [1, 0] (by decide) rfl) s03 kv3 dk
    · rw [decide_eq_false hne]
      have hod : od ≠ .none := fun e => hne ((dx_non ho).mpr e)
      walk_at "z"
      refine ⟨F3, u, od, d, kvs, ts, rfl, W4.fh, Z.dx_same s03 ho, fo, hd4, kv3, tk, fun os hos F5 H5 r g5 hr => ?_, fun hno H5 s5 => kx (fun ts' h' => ⟨hod, ?_⟩) _ (W4.same.trans s5)⟩
      · have W5 := W4.ext g5
        have hx5 : H5 x = some (.ins A.Schema dx (schF d (.ref p))) := W5.at 1 rfl
        walk_at "z"
        have W6 := W5.set 1 rfl (.ins A.Schema dx (schF d r))
        exact k ts os hts (.inr ⟨hod, hos⟩) F5 _ d kvs r (W6.pick [1, 0] (by decide) rfl) (s03.trans g5.f) (kv3.same g5.f) hr
      · rw [accT_one h' hts]
        exact hno

/-- a schema that stands -/
def IsSch (K : PySem.W.Frag) (A : Adr) (F : Hp) (v : V) (ts : List Tab) (os : List (Str × Str)) : Prop := ∃ x dx d kvs ko, v = .ref x ∧ F x = some (.ins A.Schema dx (schF d ko)) ∧ F d = some (.dK kvs) ∧ KvOk K F kvs ts ∧ Dp K F ko (.tuple (os.map pairD)) ∧ TabsOk ts ∧ OrdsOk ts os
theorem IsSch.same {K : PySem.W.Frag} {A : Adr} {F F' : Hp} {v : V} {ts : List Tab} {os : List (Str × Str)} (h : IsSch K A F v ts os) (s : Same F F') : IsSch K A F' v ts os := by
  obtain ⟨x, dx, d, kvs, ko, e, h1, h2, h3, h4, h5⟩ := h
  exact ⟨x, dx, d, kvs, ko, e, s _ _ h1, s _ _ h2, h3.same s, Z.dp_same s h4, h5⟩

def sp_Schema_table_names (K : PySem.W.Frag) (A : Adr) : Sp := fun vs H Q _ => ∃ (F : Hp) (v : V) (ts : List Tab) (os : List (Str × Str)), vs = [v] ∧ Same F H ∧ IsSch K A F v ts os ∧ ∀ H' p, Z.Ws [(p, .lst (ts.map fun t => .str t.1))] F H F H' → Q (.ref p) H'
theorem ok_Schema_table_names (T : Txt K mg A) : ∃ fd, FnOk P w K mg base CX0 1 A.f_Schema_table_names fd ["self"] (sp_Schema_table_names K A) ∧ Binds K fd ["self"] [] := by
  have ⟨fd, F, b⟩ := T.d_Schema_table_names
  refine ⟨fd, F.ok sc_Schema_table_names (fun vs H Q E h => ?_) (fun cdv Ar outer s H vs Q E hr h => ?_), b⟩
  · obtain ⟨F0, v, ts, os, rfl, _⟩ := h
    rfl
  · obtain ⟨F0, v, ts, os, rfl, sm, hs, k⟩ := h
    have nd := sc_Schema_table_names.nd
    have hu := hu_of hr
    refine ⟨_, (pss_one (ps_ret (pe_callTy (call_listD rfl) (by rfl) T.b_list (by decide +kernel) (pa_cons (pe_fld (pv 0) rfl) pa_nil)))), ?_⟩
    simp only [cxOf, Cx.nox, L2.start, List.map_cons, List.map_nil, List.length_cons, List.length_nil, Nat.reduceAdd, Nat.reduceSub, List.replicate, List.cons_append, List.nil_append]
    obtain ⟨x, dx, d, kvs, ko, rfl, hx, hd, kv, hk, tk, ok⟩ := hs
    have hx' := sm _ _ hx
    have hd' := sm _ _ hd
    walk_at "z"
    refine ⟨d, kvs, rfl, .inl hd', fun p hp => ?_⟩
    rw [kv.keys]
    exact k _ p ((Z.Ws.init sm).new hp)

/-! ### the law's schema -/
def tabD (t : Tab) : PyData := .tuple [.str t.1, .list (t.2.map pairD)]
def ValD (kd : Str) (d : PyData) : Prop := (kd = "word" ∧ ∃ z, d = .str z ∧ Name z) ∨ (kd = "number" ∧ ∃ i, d = .int i ∧ -(10 ^ 9) ≤ i ∧ i ≤ 10 ^ 9)
def sp_law_value (K : PySem.W.Frag) (A : Adr) : Sp := fun vs H Q _ => ∃ (F : Hp) (kd : Str) (c : Int), vs = [.str kd, .int c] ∧ Same F H ∧ Kind kd ∧ 0 ≤ c ∧ ∀ F' H' v d, Z.Gr F H F' H' → Dp K F' v d → ValD kd d → Q v H'
def somePairs (ts : List Tab) : List (Str × Str) := ts.flatMap fun t => (t.2.drop 1).map fun c => (t.1, c.1)
theorem some_mem {ts : List Tab} {o : Str × Str} (h : o ∈ somePairs ts) : ∃ t ∈ ts, t.1 = o.1 ∧ ∃ c ∈ t.2.drop 1, c.1 = o.2 := by
  obtain ⟨t, ht, m⟩ := List.mem_flatMap.mp h
  obtain ⟨c, hc, rfl⟩ := List.mem_map.mp m
  exact ⟨t, ht, rfl, c, hc, rfl⟩
theorem some_nodup : ∀ {ts : List Tab}, (ts.map (·.1)).Nodup → (∀ t ∈ ts, (t.2.map (·.1)).Nodup) → (somePairs ts).Nodup
  | [], _, _ => List.nodup_nil
  | t :: r, nd, h => by
    rw [List.map_cons, List.nodup_cons] at nd
    show (((t.2.drop 1).map fun c => (t.1, c.1)) ++ somePairs r).Nodup
    rw [List.nodup_append]
    refine ⟨?_, some_nodup nd.2 fun x hx => h x (List.mem_cons_of_mem _ hx), fun a ha b hb e => ?_⟩
    · have n1 : ((t.2.drop 1).map (·.1)).Nodup := by
        have := h t List.mem_cons_self
        rw [← List.take_append_drop 1 t.2, List.map_append, List.nodup_append] at this
        exact this.2.1
      rw [List.nodup_iff_pairwise_ne, List.pairwise_map] at n1 ⊢
      exact n1.imp fun h e => h (Prod.ext_iff.mp e).2
    · subst e
      obtain ⟨c, hc, rfl⟩ := List.mem_map.mp ha
      obtain ⟨t', ht', e1, _⟩ := some_mem hb
      exact nd.1 (List.mem_map.mpr ⟨t', ht', e1⟩)
theorem some_snoc (ts : List Tab) (t : Tab) : somePairs (ts ++ [t]) = somePairs ts ++ (t.2.drop 1).map fun c => (t.1, c.1) := by simp [somePairs]
theorem erase_map {α β : Type} {f : α → β} : ∀ {l : List α} {i : Nat}, (l.map f).eraseIdx i = (l.eraseIdx i).map f
  | [], _ => rfl
  | _ :: _, 0 => rfl
  | a :: r, i + 1 => congrArg (f a :: ·) (erase_map (l := r) (i := i))
theorem erase_perm {α : Type} {x : α} : ∀ {l : List α} {i : Nat}, l[i]? = some x → ([x] ++ l.eraseIdx i).Perm l
  | [], _, h => by simp at h
  | _ :: _, 0, h => by cases h; exact List.Perm.refl _
  | a :: r, i + 1, h => ((List.Perm.swap a x _).trans (List.Perm.cons a (erase_perm (l := r) (i := i) (by simpa using h))))
theorem some_len : ∀ ts : List Tab, (∀ t ∈ ts, ColsOk t.2) → (somePairs ts).length ≤ 4 * ts.length
  | [], _ => Nat.le_refl _
  | t :: r, h => by
    have := some_len r fun x hx => h x (List.mem_cons_of_mem _ hx)
    have h4 := (h t List.mem_cons_self).hi
    show (((t.2.drop 1).map fun c => (t.1, c.1)) ++ somePairs r).length ≤ _
    rw [List.length_append, List.length_map, List.length_drop, List.length_cons]
    omega
theorem eqv_nil (os : List (Str × Str)) : PyData.eqv (.list (os.map pairD)) (.list []) = decide (os = []) := by
  cases os with
  | nil => simp [PyData.eqv, PyData.eqvAll]
  | cons o r => simp [PyData.eqv, PyData.eqvAll]
def sp_law_schema (K : PySem.W.Frag) (A : Adr) : Sp := fun vs H Q _ => ∃ (F : Hp) (c : Int), vs = [.int c] ∧ Same F H ∧ ∀ F' H' r ts os, TabsOk ts → OrdsOk ts os → Z.Gr F H F' H' → Dp K F' r (.tuple [.list (ts.map tabD), .list (os.map pairD)]) → Q r H'
theorem ok_law_schema (T : Txt K mg A) : ∃ fd, FnOk P w K mg base CX0 3 A.f_law_schema fd ["_law_cell_here"] (sp_law_schema K A) ∧ Binds K fd ["_law_cell_here"] [] := by
  have ⟨fd, F, b⟩ := T.d_law_schema
  refine ⟨fd, F.ok sc_law_schema (fun vs H Q E h => ?_) (fun cdv Ar outer s H vs Q E hr h => ?_), b⟩
  · obtain ⟨F0, c, rfl, _⟩ := h
    rfl
  · obtain ⟨F0, c, rfl, sm, k⟩ := h
    have nd := sc_law_schema.nd
    have hu := hu_of hr
    have ⟨fd_law_draws, G_law_draws, b_law_draws⟩ := ok_law_draws (P := P) (w := w) (base := base) T
    have ⟨fd_law_names, G_law_names, b_law_names⟩ := ok_law_names (P := P) (w := w) (base := base) T
    refine ⟨_, (pss_cons (ps_set (i := 1) nd rfl (Or.inl rfl) (pe_call G_law_draws (hr.mono (by decide)) (by rfl) T.g_law_draws T.d_law_draws.kp b_law_draws .nil pass0 (pa_cons (pv 0) (pa_cons pe_int pa_nil))))
      (pss_cons (ps_set (i := 2) nd rfl (Or.inl rfl) (pe_lst pa_nil))
      (pss_cons (ps_set (i := 3) nd rfl (Or.inl rfl) (pe_lst pa_nil))
      (pss_cons (ps_for PassesOwn.never rfl (pi_enum (by rfl) T.b_enumerate (pa_cons (pe_call G_law_names (hr.mono (by decide)) (by rfl) T.g_law_names T.d_law_names.kp b_law_names .nil pass0 (pa_cons (pe_ix ix_list (pv 1) pe_int (fun _ _ => rfl)) (pa_cons (pe_op op_add pe_int (pe_op op_mod (pe_ix ix_list (pv 1) pe_int (fun _ _ => rfl)) pe_int)) pa_nil))) pa_nil)) (pg_tup rfl (pgs_cons (pg_name (i := 4) nd rfl (Or.inl rfl)) (pgs_cons (pg_name (i := 5) nd rfl (Or.inr rfl)) pgs_nil))) (pss_cons (ps_set (i := 6) nd rfl (Or.inl rfl) (pe_lst pa_nil))
      (pss_cons (ps_set (i := 7) nd rfl (Or.inl rfl) (pe_call G_law_names (hr.mono (by decide)) (by rfl) T.g_law_names T.d_law_names.kp b_law_names .nil pass0 (pa_cons (pe_ix ix_list (pv 1) (pe_op op_add pe_int (pv 4)) (fun _ _ => rfl)) (pa_cons (pe_op op_add pe_int (pe_op op_mod (pe_ix ix_list (pv 1) (pe_op op_add pe_int (pv 4)) (fun _ _ => rfl)) pe_int)) pa_nil))))
      (pss_cons (ps_for PassesOwn.never rfl (pi_enum (by rfl) T.b_enumerate (pa_cons (pv 7) pa_nil)) (pg_tup rfl (pgs_cons (pg_name (i := 8) nd rfl (Or.inl rfl)) (pgs_cons (pg_name (i := 9) nd rfl (Or.inl rfl)) pgs_nil))) (pss_one (ps_expr (pe_bm PySem.F.plainAttrs_list PySem.F.slot_list_append PySem.F.type_list_append mt_append (pv 6) (pa_cons (pe_tup (pa_cons (pv 9) (pa_cons (pe_ix ix_list (pe_lst (pa_cons pe_str (pa_cons pe_str pa_nil))) (pe_op op_mod (pe_ix ix_list (pv 1) (pe_op op_add (pe_op op_add pe_int (pe_op op_mul pe_int (pv 4))) (pv 8)) (fun _ _ => rfl)) pe_int) (fun _ _ => rfl)) pa_nil))) pa_nil)))))
      (pss_cons (ps_expr (pe_bm PySem.F.plainAttrs_list PySem.F.slot_list_append PySem.F.type_list_append mt_append (pv 2) (pa_cons (pe_tup (pa_cons (pv 5) (pa_cons (pv 6) pa_nil))) pa_nil)))
      (pss_one (ps_expr (pe_bm PySem.F.plainAttrs_list PySem.F.slot_list_extend PySem.F.type_list_extend mt_extend (pv 3) (pa_cons (pe_lc (own := [("_law_column", 9)]) rfl nd (pi_list (pe_slice sl_list (pv 7) (po_some pe_int) po_none)) (blkOk_by (own := [("_law_column", 9)]) (N := ["_law_cell_here", "_law_draws_here", "_law_tables", "_law_some", "_law_k", "_law_name", "_law_columns", "_law_names_here", "_law_j", "_law_column", "_law_orders"]) (sc := defScope s_law_schema) (by decide +kernel)) (fun _ _ _ _ _ => pg_name (i := 9) nd rfl (Or.inl rfl)) (fun _ _ _ _ _ => pts_nil) (fun _ _ _ _ _ => (pe_tup (pa_cons (pv 5) (pa_cons (pv 9) pa_nil))))) pa_nil)))))))))
      (pss_cons (ps_set (i := 10) nd rfl (Or.inl rfl) (pe_lst pa_nil))
      (pss_cons (ps_for PassesOwn.never rfl (pi_range1 rfl T.b_range (pa_cons pe_int pa_nil)) (pg_name (i := 4) nd rfl (Or.inl rfl)) (pss_one (ps_if (PW.pt (pw_and (pt_cmpR (op_neD hr.units) (pv 3) (pe_lst pa_nil) (nomark _)) (pw_and1 (pt_cmpR op_gt (pe_op op_mod (pe_ix ix_list (pv 1) (pe_op op_add pe_int (pv 4)) (fun _ _ => rfl)) pe_int) pe_int (nomark _))))) (pss_one (ps_expr (pe_bm PySem.F.plainAttrs_list PySem.F.slot_list_append PySem.F.type_list_append mt_append (pv 10) (pa_cons (pe_bm PySem.F.plainAttrs_list PySem.F.slot_list_pop PySem.F.type_list_pop mt_popAt (pv 3) (pa_cons (pe_op op_mod (pe_op op_fdivW (pe_ix ix_list (pv 1) (pe_op op_add pe_int (pv 4)) (fun _ _ => rfl)) pe_int) (pe_callB call_len_seq (by rfl) T.b_len PySem.boot_len (pa_cons (pv 3) pa_nil))) pa_nil)) pa_nil)))) pss_nil)))
      (pss_one (ps_ret (pe_tup (pa_cons (pv 2) (pa_cons (pv 10) pa_nil))))))))))), ?_⟩
    simp only [cxOf, Cx.nox, L2.start, List.map_cons, List.map_nil, List.length_cons, List.length_nil, Nat.reduceAdd, Nat.reduceSub, List.replicate, List.cons_append, List.nil_append]
    walk_at "z"
    refine ⟨F0, c, 30, rfl, sm, by decide, fun F1 H1 dv xs hxl pos g1 hdv => ?_⟩
    have W1 := (Z.Ws.init sm).ext g1
    have dr : ∀ i : Nat, i < 30 → ∃ y : Int, 0 ≤ y ∧ (xs.map PyData.int)[i]? = some (.int y) := fun i hi => by
      have e := List.getElem?_eq_getElem (l := xs) (i := i) (by omega)
      exact ⟨xs[i], (pos _ (List.getElem_mem _)).1, by rw [List.getElem?_map, e]; rfl⟩
    walk_at "z"
    refine ⟨by simp only [List.length_cons, List.length_nil]; decide, fun qt hqt => ?_⟩
    have W2 := W1.new (o := .lst []) hqt
    generalize upd H1 qt (.lst []) = H2 at W2 ⊢
    walk_at "z"
    refine ⟨by simp only [List.length_cons, List.length_nil]; decide, fun qs hqs => ?_⟩
    have W3 := W2.new (o := .lst []) hqs
    generalize upd H2 qs (.lst []) = H3 at W3 ⊢
    walk_at "z"
    refine Z.forE ?_
    walk_at "z"
    obtain ⟨y0, y00, ey0⟩ := dr 0 (by decide)
    obtain ⟨y1, y10, ey1⟩ := dr 1 (by decide)
    refine Z.ixD hdv W3.fh 0 ey0 fun w hw => ?_
    cases Z.dp_int hw
    walk_at "z"
    refine Z.ixD hdv W3.fh 1 ey1 fun w hw => ?_
    cases Z.dp_int hw
    walk_at "z"
    obtain ⟨n, hn, hn1, hn4⟩ : ∃ n : Nat, (1 : Int) + y1 % 4 = (n : Int) ∧ 1 ≤ n ∧ n ≤ 4 := ⟨((1 : Int) + y1 % 4).toNat, by omega, by omega, by omega⟩
    rw [hn]
    refine ⟨F1, y0, n, rfl, W3.fh, by omega, fun F4 H4 nv nms hnl hnm hnd g4 hnv => ?_⟩
    have W4 := W3.ext g4
    have hdv4 := Z.dp_same g4.f hdv
    obtain ⟨na, nx, rfl, hna, hnx⟩ := Z.dp_lst hnv
    cases Z.dpa_strs hnx
    walk_at "z"
    refine ⟨na, _, rfl, W4.fh.seq hna, ?_⟩
    refine for_it walk_enum (fun i σ H' => (∃ v4 v5 v6 v7 v8 v9 v10, σ = [some (.int c), some dv, some (.ref qt), some (.ref qs), v4, v5, v6, v7, v8, v9, v10]) ∧ ∃ F' vt vs ts, Z.Ws [(qs, .lst vs), (qt, .lst vt)] F0 H F' H' ∧ Same F4 F' ∧ DpAll K F' vt (ts.map tabD) ∧ DpAll K F' vs ((somePairs ts).map pairD) ∧ ts.map (·.1) = nms.take i ∧ (∀ t ∈ ts, ColsOk t.2))
      ⟨⟨_, _, _, _, _, _, _, rfl⟩, F4, [], [], [], W4, Same.refl _, .nil, .nil, rfl, fun t h => nomatch h⟩ (fun i σ H' hi ⟨_, F', _, _, _, W, s, _⟩ => (s.trans W.fh).seq hna) ?_ ?_
    · rintro i x σ H5 H6 hi ⟨⟨v4, v5, v6, v7, v8, v9, v10, rfl⟩, F5, vt, vs, ts, W, s5, ht, hs, hts, hcs⟩ ⟨T, x1, x2, rfl, hT, rfl, e1, e2⟩
      cases e1
      rw [List.length_map] at hi
      have e2 : (nms.map V.str)[i]? = some x2 := e2
      rw [List.getElem?_map] at e2
      obtain ⟨nm, hnm', rfl⟩ := Option.map_eq_some_iff.mp e2
      have W5 := W.exts (Z.same_new (o := .tup [.int (i : Nat), .str nm]) hT)
      have gT : upd H5 T (.tup [.int (i : Nat), .str nm]) T = _ := upd_same
      generalize upd H5 T (.tup [.int (i : Nat), .str nm]) = H6 at W5 gT ⊢
      refine ⟨T, _, rfl, SqT.of gT, rfl, ?_⟩
      walk_at "z"
      refine ⟨by simp only [List.length_cons, List.length_nil]; decide, fun qc hqc => ?_⟩
      have W6 := W5.new (o := .lst []) hqc
      generalize upd H6 qc (.lst []) = H7 at W6 ⊢
      have hdv5 := Z.dp_same s5 hdv4
      walk_at "z"
      obtain ⟨y2, y20, ey2⟩ := dr (2 + i) (by omega)
      obtain ⟨y6, y60, ey6⟩ := dr (6 + i) (by omega)
      rw [show (2 : Int) + (i : Int) = ((2 + i : Nat) : Int) by omega]
      refine Z.ixD hdv5 W6.fh (2 + i) ey2 fun w hw => ?_
      cases Z.dp_int hw
      walk_at "z"
      rw [show (6 : Int) + (i : Int) = ((6 + i : Nat) : Int) by omega]
      refine Z.ixD hdv5 W6.fh (6 + i) ey6 fun w hw => ?_
      cases Z.dp_int hw
      walk_at "z"
      obtain ⟨m, hm, hm1, hm4⟩ : ∃ n : Nat, (1 : Int) + y6 % 4 = (n : Int) ∧ 1 ≤ n ∧ n ≤ 4 := ⟨((1 : Int) + y6 % 4).toNat, by omega, by omega, by omega⟩
      rw [hm]
      refine ⟨F5, y2, m, rfl, W6.fh, by omega, fun F8 H8 cv cns hcl hcn hcd g8 hcv => ?_⟩
      have W8 := W6.ext g8
      have hdv8 := Z.dp_same g8.f hdv5
      have hcv0 := hcv
      obtain ⟨ca, cx, rfl, hca, hcx⟩ := Z.dp_lst hcv
      cases Z.dpa_strs hcx
      walk_at "z"
      refine Z.forE ?_
      walk_at "z"
      refine ⟨ca, _, rfl, W8.fh.seq hca, ?_⟩
      refine for_it walk_enum (fun j σ H' => (∃ v8 v9, σ = [some (.int c), some dv, some (.ref qt), some (.ref qs), some (.int (i : Nat)), some (.str nm), some (.ref qc), some (.ref ca), v8, v9, v10]) ∧ ∃ F' vc cs, Z.Ws [(qc, .lst vc), (qs, .lst vs), (qt, .lst vt)] F0 H F' H' ∧ Same F8 F' ∧ DpAll K F' vc (cs.map pairD) ∧ cs.map (·.1) = cns.take j ∧ (∀ c ∈ cs, Kind c.2))
        ⟨⟨_, _, rfl⟩, F8, [], [], W8, Same.refl _, .nil, rfl, fun t h => nomatch h⟩ (fun i σ H' hi ⟨_, F', _, _, W, s, _⟩ => (s.trans W.fh).seq hca) ?_ ?_
      · rintro j x σ H9 H10 hj ⟨⟨v8, v9, rfl⟩, F9, vc, cs, W9, s9, hc9, hcs9, hk9⟩ ⟨T2, x1, x2, rfl, hT2, rfl, e1, e2⟩
        cases e1
        rw [List.length_map] at hj
        have e2 : (cns.map V.str)[j]? = some x2 := e2
        rw [List.getElem?_map] at e2
        obtain ⟨cn, hcn', rfl⟩ := Option.map_eq_some_iff.mp e2
        have W10 := W9.exts (Z.same_new (o := .tup [.int (j : Nat), .str cn]) hT2)
        have gT2 : upd H9 T2 (.tup [.int (j : Nat), .str cn]) T2 = _ := upd_same
        generalize upd H9 T2 (.tup [.int (j : Nat), .str cn]) = H10 at W10 gT2 ⊢
        refine ⟨T2, _, rfl, SqT.of gT2, rfl, ?_⟩
        walk_at "z"
        refine ⟨.inl ⟨rfl, _, SqL.of (W10.at 0 rfl)⟩, ?_⟩
        walk_at "z"
        refine ⟨by simp only [List.length_cons, List.length_nil]; decide, fun p hp => ?_⟩
        have W11 := W10.exts (Z.same_new (o := .lst [.str "number", .str "word"]) hp)
        have gp : upd H10 p (.lst [.str "number", .str "word"]) p = _ := upd_same
        generalize upd H10 p (.lst [.str "number", .str "word"]) = H11 at W11 gp ⊢
        have hdv9 := Z.dp_same s9 hdv8
        walk_at "z"
        obtain ⟨yk, yk0, eyk⟩ := dr (10 + 4 * i + j) (by omega)
        rw [show (10 : Int) + 4 * (i : Int) + (j : Int) = ((10 + 4 * i + j : Nat) : Int) by omega]
        refine Z.ixD hdv9 W11.fh (10 + 4 * i + j) eyk fun w hw => ?_
        cases Z.dp_int hw
        walk_at "z"
        refine Z.ixAll (G := fun v => ∃ kd, v = .str kd ∧ Kind kd) (SqL.of gp) (by omega) (by simp only [List.length_cons, List.length_nil]; omega) (fun v hv => ?_) (fun v ⟨kd, e, hkd⟩ _ => ?_)
        · simp only [List.mem_cons, List.not_mem_nil, or_false] at hv
          rcases hv with rfl | rfl
          · exact ⟨_, rfl, .inl rfl⟩
          · exact ⟨_, rfl, .inr rfl⟩
        subst e
        walk_at "z"
        refine Z.tupD (K := K) W11 (.cons (.str cn) (.cons (.str kd) .nil)) fun r F12 H12 W12 s12 hr => ?_
        walk_at "z"
        have hvl := Z.dpa_len hc9
        rw [List.length_map, ← List.length_map (f := fun c : Col => c.1), hcs9, List.length_take] at hvl
        refine Z.appW W12 0 rfl (fun H13 W13 => ?_) (by omega)
        walk_at "z"
        refine ⟨⟨_, _, rfl⟩, F12, _, cs ++ [(cn, kd)], W13, s9.trans s12, ?_, ?_, ?_⟩
        · rw [List.map_append]
          exact Z.dpa_snoc (Z.dpa_same s12 hc9) hr
        · rw [List.map_append, hcs9, List.take_add_one, hcn']
          rfl
        · intro c hc
          rcases List.mem_append.mp hc with h | h
          · exact hk9 c h
          · rw [List.mem_singleton.mp h]; exact hkd
      · rintro σ H9 ⟨⟨v8, v9, rfl⟩, F9, vc, cs, W9, s9, hc9, hcs9, hk9⟩
        rw [List.length_map, List.take_length] at hcs9
        have hcsl : cs.length = m := by rw [← hcl, ← hcs9, List.length_map]
        have cok : ColsOk cs := ⟨by omega, by omega, fun c hc => ⟨hcn _ (by rw [← hcs9]; exact List.mem_map.mpr ⟨c, hc, rfl⟩), hk9 c hc⟩, by rw [hcs9]; exact hcd⟩
        walk_at "z"
        refine ⟨.inl ⟨rfl, _, SqL.of (W9.at 2 rfl)⟩, ?_⟩
        walk_at "z"
        obtain ⟨F10, W10, s10, g10⟩ := W9.frz 0 rfl
        refine Z.tupD (K := K) W10 (.cons (.str nm) (.cons (.lst (SqL.of g10) (Z.dpa_same s10 hc9)) .nil)) fun r F11 H11 W11 s11 hr => ?_
        walk_at "z"
        have s511 : Same F5 F11 := g8.f.trans (s9.trans (s10.trans s11))
        have htl := Z.dpa_len ht
        rw [List.length_map, ← List.length_map (f := fun t : Tab => t.1), hts, List.length_take] at htl
        refine Z.appW W11 1 rfl (fun H12 W12 => ?_) (by omega)
        walk_at "z"
        refine ⟨.inl ⟨rfl, _, SqL.of (W12.at 0 rfl)⟩, ?_⟩
        walk_at "z"
        refine Z.slD W12 (Z.dp_same (s9.trans (s10.trans s11)) hcv0) fun r2 F13 H13 W13 s13 hr2 => ?_
        rw [show Z.cutD (cns.map PyData.str) (some 1) none = (cns.map PyData.str).drop 1 from cutD_tail _ 1, ← List.map_drop] at hr2
        obtain ⟨ra, rx, rfl, hr3, hr4⟩ := Z.dp_lst hr2
        cases Z.dpa_strs hr4
        refine ⟨ra, rfl, ⟨_, W13.fh.seq hr3⟩, fun D hD => ?_⟩
        refine lc_it walk_list (Z.LcP K D _ F0 H F13 ((cns.drop 1).map fun z => pairD (nm, z))) (Z.lc0 W13 hD) (fun i H' hi ⟨F', vs, W, s, _⟩ => (s.trans W.fh).seq hr3) ?_ ?_
        · rintro l x H14 H15 hl ⟨F14, ws, W14, s14, ha⟩ ⟨rfl, hx⟩
          rw [List.getElem?_map] at hx
          obtain ⟨z, hz, rfl⟩ := Option.map_eq_some_iff.mp hx
          refine ⟨rfl, ?_⟩
          walk_at "z"
          refine Z.tupD (K := K) W14 (.cons (.str nm) (.cons (.str z) .nil)) fun r3 F15 H15 W15 s15 hr5 => ?_
          exact Z.lcS W15 (s14.trans s15) (Z.dpa_same s15 ha) (by rw [List.getElem?_map, hz]; rfl) hr5 (by rw [List.length_map, List.length_drop]; omega)
        · rintro H14 ⟨F14, ws, W14, s14, ha⟩
          have ea : DpAll K F14 ws (((cs.drop 1).map fun c => (nm, c.1)).map pairD) := by
            rw [List.length_map, List.take_of_length_le (by simp), ← hcs9] at ha
            rw [List.map_map]
            rw [← List.map_drop, List.map_map] at ha
            exact ha
          have hvsl := Z.dpa_len hs
          have hwl := Z.dpa_len ea
          have sml : (somePairs ts).length ≤ 100 := by
            have h1 := some_len ts hcs
            have h2 : ts.length ≤ 4 := by rw [← List.length_map (f := fun t : Tab => t.1), hts, List.length_take]; omega
            omega
          rw [List.length_map] at hvsl
          rw [List.length_map, List.length_map, List.length_drop] at hwl
          walk_at "z"
          refine ⟨qs, D, _, _, rfl, rfl, W14.at 1 rfl, W14.at 0 rfl, Nat.le_trans (show vs.length + ws.length ≤ 1000 by omega) (by decide), ?_⟩
          walk_at "z"
          have W15 := W14.set 1 rfl (.lst (vs ++ ws))
          refine ⟨⟨_, _, _, _, _, _, _, rfl⟩, F14, _, _, ts ++ [(nm, cs)], W15.pick [1, 2] (by decide) rfl, s5.trans (s511.trans (s13.trans s14)), ?_, ?_, ?_, ?_⟩
          · rw [List.map_append]
            exact Z.dpa_snoc (Z.dpa_same (s511.trans (s13.trans s14)) ht) (Z.dp_same (s13.trans s14) hr)
          · rw [some_snoc, List.map_append]
            exact Z.dpa_app (Z.dpa_same (s511.trans (s13.trans s14)) hs) ea
          · rw [List.map_append, hts, List.take_add_one, hnm']
            rfl
          · intro t ht
            rcases List.mem_append.mp ht with h | h
            · exact hcs t h
            · rw [List.mem_singleton.mp h]; exact cok
    · rintro σ H5 ⟨⟨v4, v5, v6, v7, v8, v9, v10, rfl⟩, F5, vt, vs, ts, W, s5, ht, hs, hts, hcs⟩
      rw [List.length_map, List.take_length] at hts
      have htl : ts.length = n := by rw [← hnl, ← hts, List.length_map]
      have tok : TabsOk ts := ⟨by omega, by omega, fun t ht => ⟨hnm _ (by rw [← hts]; exact List.mem_map.mpr ⟨t, ht, rfl⟩), hcs t ht⟩, by rw [hts]; exact hnd⟩
      have snd := some_nodup (ts := ts) tok.nd (fun t ht => (hcs t ht).nd)
      have spk : ∀ o ∈ somePairs ts, PairOk o := fun o ho => by
        obtain ⟨t, ht, e1, c, hc, e2⟩ := some_mem ho
        exact pairOk_of ⟨e1 ▸ (tok.nm t ht).1, e2 ▸ ((hcs t ht).nm c (List.mem_of_mem_drop hc)).1⟩
      have sml : (somePairs ts).length ≤ 100 := by
        have h1 := some_len ts hcs
        omega
      walk_at "z"
      refine ⟨by simp only [List.length_cons, List.length_nil]; decide, fun qo hqo => ?_⟩
      have W6 := W.new (o := .lst []) hqo
      generalize upd H5 qo (.lst []) = H6 at W6 ⊢
      walk_at "z"
      refine ⟨4, rfl, by decide, by decide, ?_⟩
      refine (for_range (lo := 0) (n := 4) (fun i σ H' => (∃ v4, σ = [some (.int c), some dv, some (.ref qt), some (.ref qs), v4, v5, v6, v7, v8, v9, some (.ref qo)]) ∧ ∃ F' vo vs os rest, Z.Ws [(qo, .lst vo), (qs, .lst vs), (qt, .lst vt)] F0 H F' H' ∧ Same F5 F' ∧ DpAll K F' vo (os.map pairD) ∧ DpAll K F' vs (rest.map pairD) ∧ (os ++ rest).Perm (somePairs ts) ∧ os.length ≤ i)
        ⟨⟨_, rfl⟩, F5, [], vs, [], somePairs ts, W6, Same.refl _, .nil, hs, List.Perm.refl _, Nat.le_refl _⟩ ?_ ?_)
      · rintro i σ H7 hi ⟨⟨v4, rfl⟩, F7, vo, vs7, os, rest, W7, s7, ho7, hs7, pm, hol⟩
        have hrl := pm.length_eq
        rw [List.length_append] at hrl
        have hv7 := Z.dpa_len hs7
        have hvo := Z.dpa_len ho7
        rw [List.length_map] at hv7 hvo
        have hdv7 := Z.dp_same (s5.trans s7) hdv4
        obtain ⟨yk, yk0, eyk⟩ := dr (26 + i) (by omega)
        walk_at "z"
        refine Z.lstD (K := K) W7 .nil fun r F8 H8 W8 s8 hr => ?_
        refine ⟨_, _, .lst (SqL.of (W8.at 1 rfl)) (Z.dpa_same (s8.trans W8.fh) hs7), Z.dp_same W8.fh hr, shaped_pairsL (fun o h => spk o (pm.subset (List.mem_append_right _ h))), shaped_pairsL (os := []) (fun o h => nomatch h), ?_⟩
        rw [eqv_nil]
        by_cases er : rest = []
        · rw [decide_eq_true er]
          walk_at "z"
          exact ⟨⟨_, rfl⟩, F8, vo, vs7, os, rest, W8, s7.trans s8, Z.dpa_same s8 ho7, Z.dpa_same s8 hs7, pm, by omega⟩
        · rw [decide_eq_false er]
          have hrp : 0 < rest.length := List.length_pos_iff.mpr er
          walk_at "z"
          rw [show (26 : Int) + (0 + (i : Int)) = ((26 + i : Nat) : Int) by omega]
          refine Z.ixD (Z.dp_same s8 hdv7) W8.fh (26 + i) eyk fun w hw => ?_
          cases Z.dp_int hw
          walk_at "z"
          refine Z.iteD (fun h1 => ?_) (fun h1 => ?_)
          · walk_at "z"
            refine ⟨.inl ⟨rfl, _, SqL.of (W8.at 0 rfl)⟩, ?_⟩
            walk_at "z"
            refine ⟨.inl ⟨rfl, _, SqL.of (W8.at 1 rfl)⟩, ?_⟩
            walk_at "z"
            rw [show (26 : Int) + (0 + (i : Int)) = ((26 + i : Nat) : Int) by omega]
            refine Z.ixD (Z.dp_same s8 hdv7) W8.fh (26 + i) eyk fun w hw => ?_
            cases Z.dp_int hw
            walk_at "z"
            refine Z.lenSeq (SqL.of (W8.at 1 rfl)) ?_
            walk_at "z"
            obtain ⟨kk, hkk, hklt⟩ : ∃ kk : Nat, yk / 3 % (vs7.length : Int) = (kk : Int) ∧ kk < vs7.length := ⟨(yk / 3 % (vs7.length : Int)).toNat, by have := Int.emod_nonneg (yk / 3) (show (vs7.length : Int) ≠ 0 by omega); omega, by have := Int.emod_lt_of_pos (yk / 3) (show (0 : Int) < vs7.length by omega); have := Int.emod_nonneg (yk / 3) (show (vs7.length : Int) ≠ 0 by omega); omega⟩
            rw [hkk]
            have evk : vs7[kk]? = some vs7[kk] := List.getElem?_eq_getElem hklt
            obtain ⟨d0, ed0, hd0⟩ := Z.dpa_ix (Z.dpa_same s8 hs7) evk
            rw [List.getElem?_map] at ed0
            obtain ⟨o, ho, rfl⟩ := Option.map_eq_some_iff.mp ed0
            refine ⟨qs, vs7, kk, kk, _, rfl, rfl, W8.at 1 rfl, by omega, by omega, (seqIndex_of (by omega) (by omega)).trans (by rw [Int.toNat_natCast]), evk, ?_⟩
            have W9 := W8.set 1 rfl (.lst (vs7.eraseIdx kk))
            generalize upd H8 qs (.lst (vs7.eraseIdx kk)) = H9 at W9 ⊢
            walk_at "z"
            refine Z.appW W9 0 rfl (fun H10 W10 => ?_) (by omega)
            walk_at "z"
            refine ⟨⟨_, rfl⟩, F8, _, _, os ++ [o], rest.eraseIdx kk, W10, s7.trans s8, ?_, ?_, ?_, by rw [List.length_append]; show os.length + 1 ≤ _; omega⟩
            · rw [List.map_append]
              exact Z.dpa_snoc (Z.dpa_same s8 ho7) hd0
            · have := Z.dpa_eraseIdx kk (Z.dpa_same s8 hs7)
              rw [erase_map] at this
              exact this
            · rw [List.append_assoc]
              exact (List.Perm.append_left os (erase_perm ho)).trans pm
          · walk_at "z"
            exact ⟨⟨_, rfl⟩, F8, vo, vs7, os, rest, W8, s7.trans s8, Z.dpa_same s8 ho7, Z.dpa_same s8 hs7, pm, by omega⟩
      · rintro σ H7 ⟨⟨v4, rfl⟩, F7, vo, vs7, os, rest, W7, s7, ho7, hs7, pm, hol⟩
        walk_at "z"
        obtain ⟨F8, W8, s8, g8⟩ := W7.frz 0 rfl
        obtain ⟨F9, W9, s9, g9⟩ := W8.frz 1 rfl
        refine Z.tupD (K := K) W9 (.cons (.lst (SqL.of g9) (Z.dpa_same (s7.trans (s8.trans s9)) ht)) (.cons (.lst (SqL.of (s9 _ _ g8)) (Z.dpa_same (s8.trans s9) ho7)) .nil)) fun r F10 H10 W10 s10 hr => ?_
        have nd : (os ++ rest).Nodup := pm.nodup_iff.mpr snd
        exact k F10 H10 r ts os tok ⟨by omega, fun o h => some_mem (pm.subset (List.mem_append_left _ h)), (List.nodup_append.mp nd).1⟩ W10.g hr

theorem eqBools2 {H : Hp} {Q : VK} {a b : Addr} {x y : Bool} (ha : SqL K H a [.bl x, .bl y]) (hb : SqL K H b [.bl x, .bl y]) (k : Q (.bl true) H) : rEqD K (.ref a) (.ref b) H Q := by
  refine ⟨_, _, .lst ha (.cons (.bl x) (.cons (.bl y) .nil)), .lst hb (.cons (.bl x) (.cons (.bl y) .nil)), by cases x <;> cases y <;> decide +kernel, by cases x <;> cases y <;> decide +kernel, ?_⟩
  rw [show PyData.eqv (.list [.bool x, .bool y]) (.list [.bool x, .bool y]) = true by cases x <;> cases y <;> decide +kernel]
  exact k
theorem exF (T : Txt K mg A) : ExcC K A.NoSchema := ⟨T.xg_NoSchema, T.xk_NoSchema, T.sb_NoSchema, T.xd_NoSchema, T.xa_NoSchema, T.xn, T.xt, T.xm_NoSchema⟩
theorem ne_sub {C R : Addr} (h1 : PySem.W.subIn K (.ref C) (.ref R) = some false) (h2 : PySem.W.subIn K (.ref R) (.ref R) = some true) : C ≠ R := fun e => by
  subst e
  rw [h1] at h2
  cases h2
theorem noneOf (T : Txt K mg A) : PySem.W.kitAny K (.ref A.NoSchema) [.ref A.NoColumn, .ref A.NoOrder, .ref A.NoPlan, .ref A.NoTable, .ref A.TooMany] = some false :=
  kitAny_cons (b := false) (Z.kit_no T.cb_NoColumn T.tb_NoColumn T.sub_NoSchema_NoColumn (ne_sub T.sub_NoSchema_NoColumn T.sub_NoColumn_NoColumn))
    (fun _ => kitAny_cons (b := false) (Z.kit_no T.cb_NoOrder T.tb_NoOrder T.sub_NoSchema_NoOrder (ne_sub T.sub_NoSchema_NoOrder T.sub_NoOrder_NoOrder))
    (fun _ => kitAny_cons (b := false) (Z.kit_no T.cb_NoPlan T.tb_NoPlan T.sub_NoSchema_NoPlan (ne_sub T.sub_NoSchema_NoPlan T.sub_NoPlan_NoPlan))
    (fun _ => kitAny_cons (b := false) (Z.kit_no T.cb_NoTable T.tb_NoTable T.sub_NoSchema_NoTable (ne_sub T.sub_NoSchema_NoTable T.sub_NoTable_NoTable))
    (fun _ => kitAny_cons (b := false) (Z.kit_no T.cb_TooMany T.tb_TooMany T.sub_NoSchema_TooMany (ne_sub T.sub_NoSchema_TooMany T.sub_TooMany_TooMany))
    (fun _ => kitAny_nil) (fun h => Bool.noConfusion h)) (fun h => Bool.noConfusion h)) (fun h => Bool.noConfusion h)) (fun h => Bool.noConfusion h)) (fun h => Bool.noConfusion h)
local macro_rules | `(tactic| walk_at "z1") => `(tactic| (with_reducible refine ZX.makeX ?_))
def sp_law_refused (K : PySem.W.Frag) (A : Adr) : Sp := fun vs H Q _ => ∃ (F : Hp) (tv ov : V) (td od : PyData), vs = [tv, ov] ∧ Same F H ∧ Z.DX K F tv td ∧ Fit5 td ∧ Z.DX K F ov od ∧ Fit3 od ∧ (∀ ts, AccT td ts → od ≠ .none ∧ ∀ os, ¬ AccO ts od os) ∧ ∀ H', Same H H' → Q (.bl true) H'
theorem ws_make {F B : Hp} {x dx C : Addr} (s : Same F B) (nx : B x = none) (ndx : B dx = none) (ne : dx ≠ x) : Z.Ws [(x, .ins C dx [])] F B F (upd (upd B dx (.own x)) x (.ins C dx [])) :=
  ((Z.Ws.init s).exts (Z.same_new ndx)).new (by rw [upd_ne (Ne.symm ne)]; exact nx)
theorem ok_law_refused (T : Txt K mg A) : ∃ fd, FnOk P w K mg base CX0 6 A.f_law_refused fd ["_law_tables", "_law_orders"] (sp_law_refused K A) ∧ Binds K fd ["_law_tables", "_law_orders"] [] := by
  have ⟨fd, F, b⟩ := T.d_law_refused
  refine ⟨fd, F.ok sc_law_refused (fun vs H Q E h => ?_) (fun cdv Ar outer s H vs Q E hr h => ?_), b⟩
  · obtain ⟨F0, tv, ov, td, od, rfl, _⟩ := h
    rfl
  · obtain ⟨F0, tv, ov, td, od, rfl, sm, ht, ft, ho, fo, hno, k⟩ := h
    have nd := sc_law_refused.nd
    have hu := hu_of hr
    have ⟨fd_Schema___init__, G_Schema___init__, b_Schema___init__, ds_Schema___init__, vd_Schema___init__, bd_Schema___init__⟩ := ok_Schema___init__ (P := P) (w := w) (base := base) T
    refine ⟨_, (pss_cons (ps_set (i := 2) nd rfl (Or.inl rfl) pe_non)
      (pss_cons (ps_try_as (i := 3) (Wout := fun _ _ _ _ => False) rfl rfl nd rfl rfl ⟨rfl, by decide, .inl T.g_NoSchema⟩ takes0
      (fun W pn xe tk _ => (pss_one (ps_expr (ZX.pe_makeX T.mk_Schema G_Schema___init__ (hr.mono (by decide)) rfl T.g_Schema b_Schema___init__ .nil (fun σ => passAt tk σ) (pa_cons (pv 0) (pa_cons (pv 1) pa_nil))))))
      (fun a oe cls d pn hz hf => (pss_one (ps_set (i := 2) nd rfl (Or.inl rfl) (pe_lst (pa_cons (pe_callB (Z.call_isG hz hf) (by rfl) T.b_isinstance (by decide +kernel) (pa_cons (pv 3) (pa_cons (pe_glob (v := .ref A.StoreError) rfl T.g_StoreError rfl) pa_nil))) (pa_cons (pe_callB (Z.call_isGT hz hf) (by rfl) T.b_isinstance (by decide +kernel) (pa_cons (pv 3) (pa_cons (pe_tup (pa_cons (pe_glob (v := .ref A.NoColumn) rfl T.g_NoColumn rfl) (pa_cons (pe_glob (v := .ref A.NoOrder) rfl T.g_NoOrder rfl) (pa_cons (pe_glob (v := .ref A.NoPlan) rfl T.g_NoPlan rfl) (pa_cons (pe_glob (v := .ref A.NoTable) rfl T.g_NoTable rfl) (pa_cons (pe_glob (v := .ref A.TooMany) rfl T.g_TooMany rfl) pa_nil)))))) pa_nil))) pa_nil)))))))
      (pss_one (ps_ret (pe_cmpR (op_eqD hr.units) (pv 2) (pe_lst (pa_cons pe_bl (pa_cons pe_bl pa_nil))) (nomark _)))))), ?_⟩
    simp only [cxOf, Cx.nox, L2.start, List.map_cons, List.map_nil, List.length_cons, List.length_nil, Nat.reduceAdd, Nat.reduceSub, List.replicate, List.cons_append, List.nil_append]
    walk_at "z"
    intro x dx nx ndx ne
    have M0 := ws_make (C := A.Schema) sm nx ndx ne
    refine ⟨F0, H, x, dx, tv, ov, td, od, rfl, M0, ht, ft, ho, fo, fun ts os h1 h2 => ?_, fun hh H1 s1 => ?_⟩
    · rcases h2 with ⟨e, _⟩ | ⟨_, h2⟩
      · exact absurd e (hno ts h1).1
      · exact absurd h2 ((hno ts h1).2 os)
    · refine ⟨true, Z.exm_of T.sb_NoSchema T.cb_NoSchema T.tb_NoSchema T.sub_NoSchema_NoSchema, fun _ ax hax => ?_, (fun q => Bool.noConfusion q)⟩
      walk_at "z"
      refine ⟨A.NoSchema, _, _, true, rfl, rfl, exF T, rfl, .own A.StoreError, Z.kit_yes T.cb_StoreError T.tb_StoreError T.sub_NoSchema_StoreError, ?_⟩
      walk_at "z"
      refine ⟨by simp only [List.length_cons, List.length_nil]; decide, fun tp htp => ?_⟩
      walk_at "z"
      refine ⟨A.NoSchema, tp, _, _, false, rfl, rfl, exF T, rfl, upd_same, .cons (.own _) (.cons (.own _) (.cons (.own _) (.cons (.own _) (.cons (.own _) .nil)))), noneOf T, ?_⟩
      have W1 := ((Z.Ws.init sm).exts s1).exts (Z.same_new (o := .tup [.ref A.NoColumn, .ref A.NoOrder, .ref A.NoPlan, .ref A.NoTable, .ref A.TooMany]) htp)
      walk_at "z"
      refine Z.lstW W1 fun p2 H2 W2 => ?_
      walk_at "z"
      refine Z.lstW W2 fun p3 H3 W3 => ?_
      refine eqBools2 (SqL.of (W3.at 1 rfl)) (SqL.of (W3.at 0 rfl)) ?_
      exact k _ W3.same

theorem ixXa {K : PySem.W.Frag} {F H : Hp} {Q : VK} {v : V} {ds : List PyData} {z : Int} (h : Z.DX K F v (.list ds)) (s : Same F H) (h0 : 0 ≤ z) (h1 : z < ds.length) (k : ∀ w d, d ∈ ds → Z.DX K F w d → Q w H) : rIxL K v (.int z) H Q := by
  obtain ⟨a, vs, rfl, g1, g2⟩ := Z.dx_lst h
  have hl := Z.dxs_len g2
  have e : vs[z.toNat]? = some (vs[z.toNat]'(by omega)) := List.getElem?_eq_getElem _
  obtain ⟨d, e1, e2⟩ := Z.dxs_ix g2 e
  refine ⟨a, vs, z, _, rfl, rfl, s.seq g1, ?_, k _ d (List.mem_of_getElem? e1) e2⟩
  have := atI_nat e
  rwa [show ((z.toNat : Nat) : Int) = z by omega] at this
theorem ixXc {K : PySem.W.Frag} {F H : Hp} {Q : VK} {a : Addr} {vs : List V} {ds : List PyData} {z : Int} (h : SqL K H a vs) (g2 : Z.DXs K F vs ds) (h0 : 0 ≤ z) (h1 : z < vs.length) (k : ∀ w d, d ∈ ds → Z.DX K F w d → Q w H) : rIxL K (.ref a) (.int z) H Q := by
  have e : vs[z.toNat]? = some (vs[z.toNat]'(by omega)) := List.getElem?_eq_getElem _
  obtain ⟨d, e1, e2⟩ := Z.dxs_ix g2 e
  refine ⟨a, vs, z, _, rfl, rfl, h, ?_, k _ d (List.mem_of_getElem? e1) e2⟩
  have := atI_nat e
  rwa [show ((z.toNat : Nat) : Int) = z by omega] at this
theorem nmno {z : Str} (h : ¬ Name z) : named (.str z) = false := decide_eq_false h
theorem kdno {z : Str} (h : ¬ Kind z) : kinded (.str z) = false := decide_eq_false h
def sp_law_strange (K : PySem.W.Frag) (A : Adr) : Sp := fun vs H Q _ => ∃ (F : Hp) (c : Int), vs = [.int c] ∧ Same F H ∧ 0 ≤ c ∧ ∀ F' H' v d, Z.Gr F H F' H' → Z.DX K F' v d → named d = false → Fit1 d → Fit3 d → Q v H'
theorem ok_law_strange (T : Txt K mg A) : ∃ fd, FnOk P w K mg base CX0 1 A.f_law_strange fd ["_law_draw"] (sp_law_strange K A) ∧ Binds K fd ["_law_draw"] [] := by
  have ⟨fd, F, b⟩ := T.d_law_strange
  refine ⟨fd, F.ok sc_law_strange (fun vs H Q E h => ?_) (fun cdv Ar outer s H vs Q E hr h => ?_), b⟩
  · obtain ⟨F0, c, rfl, _⟩ := h
    rfl
  · obtain ⟨F0, c, rfl, sm, h0, k⟩ := h
    have nd := sc_law_strange.nd
    have hu := hu_of hr
    refine ⟨_, (pss_one (ps_ret (pe_ix ix_list (pe_lst (pa_cons pe_str (pa_cons pe_str (pa_cons pe_str (pa_cons pe_str (pa_cons pe_non (pa_cons pe_int (pa_cons pe_bl (pa_cons (pe_tup (pa_cons pe_str pa_nil)) (pa_cons (pe_lst (pa_cons pe_str pa_nil)) (pa_cons pe_dnewK (pa_cons pe_str pa_nil)))))))))))) (pe_op op_mod (pv 0) pe_int) (fun _ _ => rfl)))), ?_⟩
    simp only [cxOf, Cx.nox, L2.start, List.map_cons, List.map_nil, List.length_cons, List.length_nil, Nat.reduceAdd, Nat.reduceSub, List.replicate, List.cons_append, List.nil_append]
    walk_at "z"
    refine Z.tupX (K := K) (Z.Ws.init sm) (.cons (.str _) .nil) fun r1 F1 H1 W1 s1 h1 => ?_
    walk_at "z"
    refine Z.lstX (K := K) W1 (.cons (.str _) .nil) fun r2 F2 H2 W2 s2 h2 => ?_
    walk_at "z"
    intro p3 hp3
    have W3 := W2.dat (o := .dK []) hp3
    have s3 := Z.same_new (o := .dK []) (W2.freeF hp3)
    have h3 : Z.DX K (upd F2 p3 (.dK [])) (.ref p3) (.dict []) := .dic upd_same
    generalize upd H2 p3 (.dK []) = H3 at W3 ⊢
    generalize upd F2 p3 (.dK []) = F3 at W3 s3 h3
    walk_at "z"
    refine Z.lstX (K := K) W3 (.cons (.str _) (.cons (.str _) (.cons (.str _) (.cons (.str _) (.cons .non (.cons (.int _) (.cons (.bl _) (.cons (Z.dx_same (s2.trans s3) h1) (.cons (Z.dx_same s3 h2) (.cons h3 (.cons (.str _) .nil))))))))))) fun r4 F4 H4 W4 s4 h4 => ?_
    walk_at "z"
    refine ixXa h4 W4.fh (by omega) (by simp only [List.length_cons, List.length_nil]; omega) fun v d hd hv => ?_
    have f3 : Fit3 d := by
      have fa : Fit1 (.str "a") ∧ Fit2 (.str "a") := ⟨by show Str.length _ ≤ _; decide +kernel, trivial⟩
      simp only [List.mem_cons, List.not_mem_nil, or_false] at hd
      rcases hd with rfl | rfl | rfl | rfl | rfl | rfl | rfl | rfl | rfl | rfl | rfl <;> first | exact trivial | (intro x hx; rw [List.mem_singleton.mp hx]; exact fa)
    have ok : named d = false ∧ Fit1 d := by
      simp only [List.mem_cons, List.not_mem_nil, or_false] at hd
      rcases hd with rfl | rfl | rfl | rfl | rfl | rfl | rfl | rfl | rfl | rfl | rfl
      · exact ⟨nmno (by decide +kernel), by show Str.length _ ≤ _; decide +kernel⟩
      · exact ⟨nmno (by decide +kernel), by show Str.length _ ≤ _; decide +kernel⟩
      · exact ⟨nmno (by decide +kernel), by show Str.length _ ≤ _; decide +kernel⟩
      · exact ⟨nmno (by decide +kernel), by show Str.length _ ≤ _; decide +kernel⟩
      · exact ⟨rfl, trivial⟩
      · exact ⟨rfl, trivial⟩
      · exact ⟨rfl, trivial⟩
      · exact ⟨rfl, trivial⟩
      · exact ⟨rfl, trivial⟩
      · exact ⟨rfl, trivial⟩
      · exact ⟨nmno (by decide +kernel), by show Str.length _ ≤ _; decide +kernel⟩
    exact k F4 H4 v d W4.g hv ok.1 ok.2 f3
/-- a thing in the stead of column c: if it is a column at all it bears another one's name -/
def BadC (cs : List Col) (c : Col) (d : PyData) : Prop := ∀ c' : Col, d = pairD c' → Name c'.1 → Kind c'.2 → c'.1 ∈ cs.map (·.1) ∧ c'.1 ≠ c.1
def sp_law_bad_column (K : PySem.W.Frag) (A : Adr) : Sp := fun vs H Q _ => ∃ (F : Hp) (v u w : V) (cs : List Col) (c : Col) (x y : Int), vs = [v, u, w] ∧ Same F H ∧ Dp K F v (pairD c) ∧ Dp K F u (.list (cs.map pairD)) ∧ ColsOk cs ∧ c ∈ cs ∧ Dp K F w (.list ([x, y].map .int)) ∧ 0 ≤ x ∧ 0 ≤ y ∧
  ∀ F' H' r d, Z.Gr F H F' H' → Z.DX K F' r d → BadC cs c d → Fit1 d ∧ Fit2 d → Q r H'
theorem ok_law_bad_column (T : Txt K mg A) : ∃ fd, FnOk P w K mg base CX0 2 A.f_law_bad_column fd ["_law_column", "_law_columns", "_law_draws_here"] (sp_law_bad_column K A) ∧ Binds K fd ["_law_column", "_law_columns", "_law_draws_here"] [] := by
  have ⟨fd, F, b⟩ := T.d_law_bad_column
  refine ⟨fd, F.ok sc_law_bad_column (fun vs H Q E h => ?_) (fun cdv Ar outer s H vs Q E hr h => ?_), b⟩
  · obtain ⟨F0, v, u, w', cs, c, x, y, rfl, _⟩ := h
    rfl
  · obtain ⟨F0, v, u, w', cs, c, x, y, rfl, sm, hv, hu', ok, hc, hw, x0, y0, k⟩ := h
    have nd := sc_law_bad_column.nd
    have hu := hu_of hr
    have ⟨fd_law_strange, G_law_strange, b_law_strange⟩ := ok_law_strange (P := P) (w := w) (base := base) T
    refine ⟨_, (pss_cons (ps_asg (pv 0) (pg_tup rfl (pgs_cons (pg_name (i := 3) nd rfl (Or.inr rfl)) (pgs_cons (pg_name (i := 4) nd rfl (Or.inl rfl)) pgs_nil))))
      (pss_cons (ps_set (i := 5) nd rfl (Or.inl rfl) (pe_ix ix_list (pe_lst (pa_cons pe_str (pa_cons pe_str (pa_cons pe_non (pa_cons pe_int (pa_cons pe_str (pa_cons (pe_tup (pa_cons pe_str pa_nil)) (pa_cons (pe_lst (pa_cons pe_str pa_nil)) (pa_cons pe_dnewK pa_nil))))))))) (pe_op op_mod (pe_ix ix_list (pv 2) pe_int (fun _ _ => rfl)) pe_int) (fun _ _ => rfl)))
      (pss_cons (ps_set (i := 6) nd rfl (Or.inl rfl) (pe_lst (pa_cons (pe_tup (pa_cons (pe_call G_law_strange (hr.mono (by decide)) (by rfl) T.g_law_strange T.d_law_strange.kp b_law_strange .nil pass0 (pa_cons (pe_ix ix_list (pv 2) pe_int (fun _ _ => rfl)) pa_nil)) (pa_cons (pv 4) pa_nil))) (pa_cons (pe_tup (pa_cons (pv 3) (pa_cons (pv 5) pa_nil))) (pa_cons (pe_tup (pa_cons (pv 3) pa_nil)) (pa_cons (pe_tup (pa_cons (pv 3) (pa_cons (pv 4) (pa_cons (pv 4) pa_nil)))) (pa_cons (pe_lst (pa_cons (pv 3) (pa_cons (pv 4) pa_nil))) (pa_cons (pv 3) (pa_cons pe_non pa_nil)))))))))
      (pss_cons (ps_if (pt_cmpR op_gt (pe_callB call_len_seq (by rfl) T.b_len PySem.boot_len (pa_cons (pv 1) pa_nil)) pe_int (nomark _)) (pss_one (ps_expr (pe_bm PySem.F.plainAttrs_list PySem.F.slot_list_append PySem.F.type_list_append mt_append (pv 6) (pa_cons (pe_tup (pa_cons (pe_ix ix_list (pe_lc (own := [("_law_one", 7), ("_law_other", 5)]) rfl nd (pi_list (pv 1)) (blkOk_by (own := [("_law_one", 7), ("_law_other", 5)]) (N := ["_law_column", "_law_columns", "_law_draws_here", "_law_name", "_law_kind", "_law_other", "_law_some", "_law_one"]) (sc := defScope s_law_bad_column) (by decide +kernel)) (fun _ _ _ _ _ => (pg_tupK (K := K) (n := 2) rfl rfl (pgs_cons (pg_name (i := 7) nd rfl (Or.inl rfl)) (pgs_cons (pg_name (i := 5) nd rfl (Or.inl rfl)) pgs_nil)))) (fun _ _ _ _ _ => pts_one (pt_cmpR op_ne (pv 7) (pv 3) (nomark _))) (fun _ _ _ _ _ => (pv 7))) pe_int (fun _ _ => rfl)) (pa_cons (pv 4) pa_nil))) pa_nil)))) pss_nil)
      (pss_one (ps_ret (pe_ix ix_list (pv 6) (pe_op op_mod (pe_ix ix_list (pv 2) pe_int (fun _ _ => rfl)) (pe_callB call_len_seq (by rfl) T.b_len PySem.boot_len (pa_cons (pv 6) pa_nil))) (fun _ _ => rfl)))))))), ?_⟩
    simp only [cxOf, Cx.nox, L2.start, List.map_cons, List.map_nil, List.length_cons, List.length_nil, Nat.reduceAdd, Nat.reduceSub, List.replicate, List.cons_append, List.nil_append]
    obtain ⟨cn, ck⟩ := ok.nm c hc
    have chi := ok.hi
    have cn8 := cn.2.1
    obtain ⟨ca, cx, rfl, hca, hcx⟩ := Z.dp_lst hu'
    have hcl := Z.dpa_len hcx
    rw [List.length_map] at hcl
    walk_at "z"
    refine Z.gtupD hv sm fun ys hys => ?_
    obtain ⟨y1, y2, rfl, hy1, hy2⟩ := Z.dpa2 hys
    cases Z.dp_str hy1
    cases Z.dp_str hy2
    walk_at "z"
    refine Z.tupX (K := K) (Z.Ws.init sm) (.cons (.str _) .nil) fun r1 F1 H1 W1 s1 h1 => ?_
    walk_at "z"
    refine Z.lstX (K := K) W1 (.cons (.str _) .nil) fun r2 F2 H2 W2 s2 h2 => ?_
    walk_at "z"
    intro p3 hp3
    have W3 := W2.dat (o := .dK []) hp3
    have s3 := Z.same_new (o := .dK []) (W2.freeF hp3)
    have h3 : Z.DX K (upd F2 p3 (.dK [])) (.ref p3) (.dict []) := .dic upd_same
    generalize upd H2 p3 (.dK []) = H3 at W3 ⊢
    generalize upd F2 p3 (.dK []) = F3 at W3 s3 h3
    walk_at "z"
    refine Z.lstX (K := K) W3 (.cons (.str _) (.cons (.str _) (.cons .non (.cons (.int _) (.cons (.str _) (.cons (Z.dx_same (s2.trans s3) h1) (.cons (Z.dx_same s3 h2) (.cons h3 .nil)))))))) fun r4 F4 H4 W4 s4 h4 => ?_
    have s04 : Same F0 F4 := s1.trans (s2.trans (s3.trans s4))
    walk_at "z"
    refine Z.ixD (Z.dp_same s04 hw) W4.fh 0 rfl fun w5 hw5 => ?_
    cases Z.dp_int hw5
    walk_at "z"
    refine ixXa h4 W4.fh (by omega) (by simp only [List.length_cons, List.length_nil]; omega) fun ov od hod hov => ?_
    have ook : kinded od = false ∧ Fit1 od := by
      simp only [List.mem_cons, List.not_mem_nil, or_false] at hod
      rcases hod with rfl | rfl | rfl | rfl | rfl | rfl | rfl | rfl
      · exact ⟨kdno (by decide +kernel), by show Str.length _ ≤ _; decide +kernel⟩
      · exact ⟨kdno (by decide +kernel), by show Str.length _ ≤ _; decide +kernel⟩
      · exact ⟨rfl, trivial⟩
      · exact ⟨rfl, trivial⟩
      · exact ⟨kdno (by decide +kernel), by show Str.length _ ≤ _; decide +kernel⟩
      · exact ⟨rfl, trivial⟩
      · exact ⟨rfl, trivial⟩
      · exact ⟨rfl, trivial⟩
    walk_at "z"
    refine Z.ixD (Z.dp_same s04 hw) W4.fh 0 rfl fun w5 hw5 => ?_
    cases Z.dp_int hw5
    refine ⟨F4, x, rfl, W4.fh, x0, fun F5 H5 sv sd g5 hsv hsn hsf _ => ?_⟩
    have W5 := W4.ext g5
    have s05 := s04.trans g5.f
    walk_at "z"
    refine Z.tupX (K := K) W5 (.cons hsv (.cons (.str _) .nil)) fun t1 F6 H6 W6 s6 e1 => ?_
    walk_at "z"
    refine Z.tupX (K := K) W6 (.cons (.str c.1) (.cons (Z.dx_same (g5.f.trans s6) hov) .nil)) fun t2 F7 H7 W7 s7 e2 => ?_
    walk_at "z"
    refine Z.tupX (K := K) W7 (.cons (.str c.1) .nil) fun t3 F8 H8 W8 s8 e3 => ?_
    walk_at "z"
    refine Z.tupX (K := K) W8 (.cons (.str c.1) (.cons (.str c.2) (.cons (.str c.2) .nil))) fun t4 F9 H9 W9 s9 e4 => ?_
    walk_at "z"
    refine Z.lstX (K := K) W9 (.cons (.str c.1) (.cons (.str c.2) .nil)) fun t5 F10 H10 W10 s10 e5 => ?_
    walk_at "z"
    refine Z.lstW W10 fun q H11 W11 => ?_
    have s510 : Same F5 F10 := s6.trans (s7.trans (s8.trans (s9.trans s10)))
    have s010 := s05.trans s510
    have hall : Z.DXs K F10 [t1, t2, t3, t4, t5, .str c.1, .non] [.tuple [sd, .str c.2], .tuple [.str c.1, od], .tuple [.str c.1], .tuple [.str c.1, .str c.2, .str c.2], .list [.str c.1, .str c.2], .str c.1, .none] :=
      .cons (Z.dx_same (s7.trans (s8.trans (s9.trans s10))) e1) (.cons (Z.dx_same (s8.trans (s9.trans s10)) e2) (.cons (Z.dx_same (s9.trans s10) e3) (.cons (Z.dx_same s10 e4) (.cons e5 (.cons (.str _) (.cons .non .nil))))))
    have good : ∀ e ∈ [PyData.tuple [sd, .str c.2], .tuple [.str c.1, od], .tuple [.str c.1], .tuple [.str c.1, .str c.2, .str c.2], .list [.str c.1, .str c.2], .str c.1, .none], BadC cs c e ∧ Fit1 e ∧ Fit2 e := by
      have kf : Str.length c.2 ≤ 10000 := by rcases ck with e | e <;> rw [e] <;> decide +kernel
      have nf : Str.length c.1 ≤ 10000 := by omega
      intro e he
      simp only [List.mem_cons, List.not_mem_nil, or_false] at he
      rcases he with rfl | rfl | rfl | rfl | rfl | rfl | rfl
      · refine ⟨fun c' h n _ => ?_, trivial, fun d hd => ?_⟩
        · simp only [pairD, PyData.tuple.injEq, List.cons.injEq, and_true] at h
          rw [h.1] at hsn
          exact absurd n (of_decide_eq_false hsn)
        · simp only [List.mem_cons, List.not_mem_nil, or_false] at hd
          rcases hd with rfl | rfl
          · exact hsf
          · exact kf
      · refine ⟨fun c' h _ n => ?_, trivial, fun d hd => ?_⟩
        · simp only [pairD, PyData.tuple.injEq, List.cons.injEq, and_true] at h
          rw [h.2] at ook
          exact absurd n (of_decide_eq_false ook.1)
        · simp only [List.mem_cons, List.not_mem_nil, or_false] at hd
          rcases hd with rfl | rfl
          · exact nf
          · exact ook.2
      · refine ⟨fun c' h _ _ => by simp [pairD] at h, trivial, fun d hd => ?_⟩
        simp only [List.mem_cons, List.not_mem_nil, or_false] at hd
        subst hd
        exact nf
      · refine ⟨fun c' h _ _ => by simp [pairD] at h, trivial, fun d hd => ?_⟩
        simp only [List.mem_cons, List.not_mem_nil, or_false] at hd
        rcases hd with rfl | rfl | rfl
        · exact nf
        · exact kf
        · exact kf
      · exact ⟨fun c' h _ _ => by simp [pairD] at h, trivial, trivial⟩
      · exact ⟨fun c' h _ _ => by simp [pairD] at h, nf, trivial⟩
      · exact ⟨fun c' h _ _ => by simp [pairD] at h, trivial, trivial⟩
    walk_at "z"
    refine Z.lenSeq (W11.fh.seq (s010.seq hca)) ?_
    rw [hcl]
    walk_at "z"
    refine Z.iteD (fun hm => ?_) (fun hm => ?_)
    · walk_at "z"
      refine ⟨.inl ⟨rfl, _, SqL.of (W11.at 0 rfl)⟩, ?_⟩
      walk_at "z"
      refine ⟨ca, rfl, ⟨_, W11.fh.seq (s010.seq hca)⟩, fun D hD => ?_⟩
      refine lc_it walk_list (fun i H' => Z.Ws [(D, .lst ((((cs.take i).filter fun c' => !decide (c'.1 = c.1)).map (·.1)).map .str)), (q, .lst [t1, t2, t3, t4, t5, .str c.1, .non])] F0 H F10 H') (W11.new hD) (fun i H' hi W => W.fh.seq (s010.seq hca)) ?_ ?_
      · rintro i x H12 H13 hi W12 ⟨rfl, hx⟩
        obtain ⟨d, e1, e2⟩ := Z.dpa_ix hcx hx
        rw [List.getElem?_map] at e1
        obtain ⟨c', hci, rfl⟩ := Option.map_eq_some_iff.mp e1
        refine Z.gtupD e2 (s010.trans W12.fh) fun zs hzs => ?_
        obtain ⟨z1, z2, rfl, hz1, hz2⟩ := Z.dpa2 hzs
        cases Z.dp_str hz1
        cases Z.dp_str hz2
        walk_at "z"
        refine ⟨rfl, ?_⟩
        walk_at "z"
        have el : ((cs.take (i + 1)).filter fun c' => !decide (c'.1 = c.1)) = ((cs.take i).filter fun c' => !decide (c'.1 = c.1)) ++ if c'.1 = c.1 then [] else [c'] := by
          rw [List.take_add_one, hci, List.filter_append]
          by_cases e : c'.1 = c.1 <;> simp [e]
        have hfl : ((cs.take i).filter fun c' => !decide (c'.1 = c.1)).length ≤ 4 := Nat.le_trans (List.length_filter_le _ _) (by rw [List.length_take]; omega)
        refine Z.iteN (fun h => ?_) (fun h => ?_)
        · walk_at "z"
          refine ⟨_, W12.at 0 rfl, by rw [List.length_map, List.length_map]; exact Nat.lt_of_le_of_lt (show _ ≤ 1000 by omega) (by decide), ?_⟩
          rw [el, if_neg (fun e => h (by rw [e])), List.map_append, List.map_append]
          exact W12.set 0 rfl _
        · rw [el, if_pos (V.str.inj h), List.append_nil]
          exact W12
      · rintro H12 W12
        rw [hcl, List.take_length] at W12
        obtain ⟨c2, hc2, hne⟩ : ∃ c2 ∈ cs, c2.1 ≠ c.1 := by
          refine Classical.byContradiction fun hno => ?_
          have h0 : cs[0]? = some (cs[0]'(by omega)) := List.getElem?_eq_getElem _
          have h1 : cs[1]? = some (cs[1]'(by omega)) := List.getElem?_eq_getElem _
          have all : ∀ c2 ∈ cs, c2.1 = c.1 := fun c2 h => Classical.byContradiction fun e => hno ⟨c2, h, e⟩
          have n0 : (cs.map (·.1))[0]? = some c.1 := by rw [List.getElem?_map, h0]; exact congrArg some (all _ (List.mem_of_getElem? h0))
          have n1 : (cs.map (·.1))[1]? = some c.1 := by rw [List.getElem?_map, h1]; exact congrArg some (all _ (List.mem_of_getElem? h1))
          have := nd_ix ok.nd n0 n1
          omega
        have hin : c2 ∈ cs.filter fun c' => !decide (c'.1 = c.1) := List.mem_filter.mpr ⟨hc2, by simp [hne]⟩
        obtain ⟨c3, r3, e3⟩ : ∃ a r, (cs.filter fun c' => !decide (c'.1 = c.1)) = a :: r := by
          cases h : cs.filter fun c' => !decide (c'.1 = c.1) with
          | nil => rw [h] at hin; cases hin
          | cons a r => exact ⟨a, r, rfl⟩
        have hc3 := List.mem_filter.mp (show c3 ∈ cs.filter fun c' => !decide (c'.1 = c.1) by rw [e3]; exact List.mem_cons_self)
        have hc3n : c3.1 ≠ c.1 := by simpa using hc3.2
        obtain ⟨c3n, _⟩ := ok.nm c3 hc3.1
        walk_at "z"
        refine Z.ixL (i := 0) (v := .str c3.1) (SqL.of (W12.at 0 rfl)) (by rw [e3]; rfl) ?_
        walk_at "z"
        refine Z.tupX (K := K) W12 (.cons (.str c3.1) (.cons (.str c.2) .nil)) fun t6 F13 H13 W13 s13 e6 => ?_
        walk_at "z"
        refine Z.appW W13 1 rfl (fun H14 W14 => ?_) (by simp)
        have hall2 : Z.DXs K F13 ([t1, t2, t3, t4, t5, .str c.1, .non] ++ [t6]) ([PyData.tuple [sd, .str c.2], .tuple [.str c.1, od], .tuple [.str c.1], .tuple [.str c.1, .str c.2, .str c.2], .list [.str c.1, .str c.2], .str c.1, .none] ++ [.tuple [.str c3.1, .str c.2]]) := Z.dxs_app (Z.dxs_same s13 hall) (.cons e6 .nil)
        have good2 : ∀ e ∈ [PyData.tuple [sd, .str c.2], .tuple [.str c.1, od], .tuple [.str c.1], .tuple [.str c.1, .str c.2, .str c.2], .list [.str c.1, .str c.2], .str c.1, .none] ++ [.tuple [.str c3.1, .str c.2]], BadC cs c e ∧ Fit1 e ∧ Fit2 e := fun e he => by
          rcases List.mem_append.mp he with h | h
          · exact good e h
          · rw [List.mem_singleton.mp h]
            have c38 := c3n.2.1
            refine ⟨fun c' h _ _ => ?_, trivial, fun d hd => ?_⟩
            · have e := (pairD_inj (a := (c3.1, c.2)) (b := c') h)
              rw [← e]
              exact ⟨List.mem_map.mpr ⟨c3, hc3.1, rfl⟩, hc3n⟩
            · simp only [List.mem_cons, List.not_mem_nil, or_false] at hd
              rcases hd with rfl | rfl
              · show Str.length _ ≤ _
                omega
              · show Str.length _ ≤ _
                rcases ck with e | e <;> rw [e] <;> decide +kernel
        walk_at "z"
        refine Z.ixD (Z.dp_same (s010.trans s13) hw) W14.fh 1 rfl fun w5 hw5 => ?_
        cases Z.dp_int hw5
        walk_at "z"
        refine Z.lenSeq (SqL.of (W14.at 1 rfl)) ?_
        refine Z.ic (by show (0 : Int) < _; simp) ?_
        refine ixXc (SqL.of (W14.at 1 rfl)) hall2 (Int.emod_nonneg _ (by simp)) (Int.emod_lt_of_pos _ (by simp)) fun v d hd hv => ?_
        exact k F13 H14 v d W14.g hv (good2 d hd).1 (good2 d hd).2
    · walk_at "z"
      refine Z.ixD (Z.dp_same s010 hw) W11.fh 1 rfl fun w5 hw5 => ?_
      cases Z.dp_int hw5
      walk_at "z"
      refine Z.lenSeq (SqL.of (W11.at 0 rfl)) ?_
      refine Z.ic (by show (0 : Int) < _; simp) ?_
      refine ixXc (SqL.of (W11.at 0 rfl)) hall (Int.emod_nonneg _ (by simp)) (Int.emod_lt_of_pos _ (by simp)) fun v d hd hv => ?_
      exact k F10 H11 v d W11.g hv (good d hd).1 (good d hd).2

theorem cutD_head (ds : List PyData) (n : Nat) (h : n ≤ ds.length) : Z.cutD ds none (some (n : Int)) = ds.take n := by
  unfold Z.cutD
  rw [HT.sIx_none, HT.sIx_nat, Nat.min_eq_left h]
  simp
theorem cut_set (ds : List PyData) (n : Nat) (h : n < ds.length) (d : PyData) : Z.cutD ds none (some (n : Int)) ++ [d] ++ Z.cutD ds (some ((n : Int) + 1)) none = ds.set n d := by
  rw [cutD_head ds n (by omega), show ((n : Int) + 1) = ((n + 1 : Nat) : Int) by omega, cutD_tail, List.set_eq_take_append_cons_drop, if_pos h]
  simp
theorem bad_col {cs : List Col} {c : Col} {i : Nat} {d : PyData} (ok : ColsOk cs) (hi : cs[i]? = some c) (hb : BadC cs c d) : ∀ a cs', (a = .list ((cs.map pairD).set i d)) → ¬ Acc a cs' := by
  rintro a cs' rfl h
  have hil := (List.getElem?_eq_some_iff.mp hi).1
  have e := h.seq (ds := (cs.map pairD).set i d) rfl
  have g1 : ((cs.map pairD).set i d)[i]? = some d := by rw [List.getElem?_set_self (by rw [List.length_map]; exact hil)]
  obtain ⟨c', hc', ed, n1, k1⟩ := h.at (ds := (cs.map pairD).set i d) rfl g1
  obtain ⟨m, hne⟩ := hb c' ed n1 k1
  obtain ⟨c2, hc2, e2⟩ := List.mem_map.mp m
  obtain ⟨j, hj⟩ := List.mem_iff_getElem?.mp hc2
  have hji : j ≠ i := fun e => by
    subst e
    rw [hi] at hj
    cases hj
    exact hne e2.symm
  have g2 : ((cs.map pairD).set i d)[j]? = some (pairD c2) := by rw [List.getElem?_set_ne (Ne.symm hji), List.getElem?_map, hj]; rfl
  obtain ⟨c3, hc3, e3, _, _⟩ := h.at (ds := (cs.map pairD).set i d) rfl g2
  have e4 := pairD_inj e3
  subst e4
  have n2 : (cs'.map (·.1))[i]? = some c'.1 := by rw [List.getElem?_map, hc']; rfl
  have n3 : (cs'.map (·.1))[j]? = some c'.1 := by rw [List.getElem?_map, hc3]; exact congrArg some e2
  exact hji (nd_ix h.2.nd n3 n2)
/-- a thing in the stead of table t: if it is a table at all it bears another one's name -/
def BadT (ts : List Tab) (t : Tab) (e : PyData) : Prop := ∀ (z : Str) (c : PyData) (cs : List Col), e = .tuple [.str z, c] → Acc c cs → Name z → z ∈ ts.map (·.1) ∧ z ≠ t.1
theorem bad_tab {ts : List Tab} {t : Tab} {i : Nat} {e : PyData} (hi : ts[i]? = some t) (hb : BadT ts t e) : ∀ ts', ¬ AccT (.list ((ts.map tabD).set i e)) ts' := by
  intro ts' h
  have hil := (List.getElem?_eq_some_iff.mp hi).1
  have g1 : ((ts.map tabD).set i e)[i]? = some e := by rw [List.getElem?_set_self (by rw [List.length_map]; exact hil)]
  obtain ⟨t', c, ht', ee, ha, hn⟩ := h.at (ds := (ts.map tabD).set i e) rfl g1
  obtain ⟨m, hne⟩ := hb t'.1 c t'.2 ee ha hn
  obtain ⟨t2, ht2, e2⟩ := List.mem_map.mp m
  obtain ⟨j, hj⟩ := List.mem_iff_getElem?.mp ht2
  have hji : j ≠ i := fun e => by
    subst e
    rw [hi] at hj
    cases hj
    exact hne e2.symm
  have g2 : ((ts.map tabD).set i e)[j]? = some (tabD t2) := by rw [List.getElem?_set_ne (Ne.symm hji), List.getElem?_map, hj]; rfl
  obtain ⟨t3, c3, ht3, e3, _, _⟩ := h.at (ds := (ts.map tabD).set i e) rfl g2
  simp only [tabD, PyData.tuple.injEq, List.cons.injEq, PyData.str.injEq, and_true] at e3
  obtain ⟨_, _, _, _, tk⟩ := h
  have n2 : (ts'.map (·.1))[i]? = some t'.1 := by rw [List.getElem?_map, ht']; rfl
  have n3 : (ts'.map (·.1))[j]? = some t'.1 := by rw [List.getElem?_map, ht3]; exact congrArg some (e3.1.symm.trans e2)
  exact hji (nd_ix tk.nd n3 n2)
theorem fit_cols {cs : List Col} (ok : ColsOk cs) : Fit3 (.list (cs.map pairD)) := fun d hd => by
  obtain ⟨c, hc, rfl⟩ := List.mem_map.mp hd
  obtain ⟨n, kd⟩ := ok.nm c hc
  refine ⟨trivial, fun x hx => ?_⟩
  simp only [List.mem_cons, List.not_mem_nil, or_false] at hx
  rcases hx with rfl | rfl
  · show Str.length _ ≤ _
    have := n.2.1
    omega
  · show Str.length _ ≤ _
    rcases kd with e | e <;> rw [e] <;> decide +kernel
theorem fit_tab {t : Tab} (n : Name t.1) (ok : ColsOk t.2) : Fit4 (tabD t) := fun d hd => by
  simp only [List.mem_cons, List.not_mem_nil, or_false] at hd
  rcases hd with rfl | rfl
  · have := n.2.1
    exact ⟨by show Str.length _ ≤ _; omega, trivial⟩
  · exact ⟨trivial, fit_cols ok⟩
theorem cutV_len {xs : List V} {lo hi : Option Int} : (cutV xs lo hi).length ≤ xs.length := by
  unfold cutV
  rw [List.length_take, List.length_drop]
  omega
theorem iStrE {σ : L2.St} {H : Hp} {te : TE} {R : It → Hp → Prop} (h : te σ H fun v H1 => ∃ x, v = .str x ∧ R (Its x) H1) : iStr te σ H R := h
local macro_rules | `(tactic| walk_at "z1") => `(tactic| (with_reducible refine iStrE ?_))
theorem cutS_len (z : Str) (lo hi : Option Int) : (cutS z lo hi).length ≤ z.length := by
  unfold cutS
  show (List.toArray _).size ≤ _
  rw [List.size_toArray, List.length_take, List.length_drop, Array.length_toList]
  show _ ≤ z.cps.size
  omega
theorem Z.ixDz {K : PySem.W.Frag} {F H : Hp} {Q : VK} {v : V} {ds : List PyData} (h : Dp K F v (.list ds)) (s : Same F H) {z : Int} (lo : -(ds.length : Int) ≤ z) (hi : z < ds.length) (k : ∀ (j : Nat) d w, ds[j]? = some d → (z = j ∨ z + ds.length = j) → Dp K F w d → Q w H) : rIxL K v (.int z) H Q := by
  obtain ⟨a, vs, rfl, h1, h2⟩ := Z.dp_lst h
  have hl := Z.dpa_len h2
  obtain ⟨j, hj, hz, ej⟩ : ∃ j : Nat, j < ds.length ∧ (z = j ∨ z + ds.length = j) ∧ ixN ds.length z = some j := by
    by_cases g : 0 ≤ z
    · exact ⟨z.toNat, by omega, .inl (by omega), by unfold ixN; rw [if_pos g, if_pos hi]⟩
    · exact ⟨(z + ds.length).toNat, by omega, .inr (by omega), by unfold ixN; rw [if_neg g, if_pos lo]⟩
  have e : ds[j]? = some ds[j] := List.getElem?_eq_getElem hj
  obtain ⟨w, e1, e2⟩ := Z.dpa_get h2 e
  exact ⟨a, vs, _, w, rfl, rfl, s.seq h1, by unfold atI; rw [hl, ej]; exact e1, k j _ w e hz e2⟩
def sp_law_bad_table (K : PySem.W.Frag) (A : Adr) : Sp := fun vs H Q _ => ∃ (F : Hp) (tv dv : V) (ts : List Tab) (x0 x1 x2 x3 x4 x5 : Int), vs = [tv, dv] ∧ Same F H ∧ Dp K F tv (.list (ts.map tabD)) ∧ TabsOk ts ∧ Dp K F dv (.list ([x0, x1, x2, x3, x4, x5].map .int)) ∧ 0 ≤ x0 ∧ 0 ≤ x1 ∧ 0 ≤ x2 ∧ 0 ≤ x3 ∧ 0 ≤ x4 ∧ 0 ≤ x5 ∧
  ∀ F' H' r d, Z.Gr F H F' H' → Z.DX K F' r d → (∀ ts', ¬ AccT d ts') → Fit5 d → Q r H'
theorem ok_law_bad_table (T : Txt K mg A) : ∃ fd, FnOk P w K mg base CX0 3 A.f_law_bad_table fd ["_law_tables", "_law_draws_here"] (sp_law_bad_table K A) ∧ Binds K fd ["_law_tables", "_law_draws_here"] [] := by
  have ⟨fd, F, b⟩ := T.d_law_bad_table
  refine ⟨fd, F.ok sc_law_bad_table (fun vs H Q E h => ?_) (fun cdv Ar outer s H vs Q E hr h => ?_), b⟩
  · obtain ⟨F0, tv, dv, ts, x0, x1, x2, x3, x4, x5, rfl, _⟩ := h
    rfl
  · obtain ⟨F0, tv, dv, ts, x0, x1, x2, x3, x4, x5, rfl, sm, ht, tk, hd, p0, p1, p2, p3, p4, p5, k⟩ := h
    have nd := sc_law_bad_table.nd
    have hu := hu_of hr
    have ⟨fd_law_bad_column, G_law_bad_column, b_law_bad_column⟩ := ok_law_bad_column (P := P) (w := w) (base := base) T
    have ⟨fd_law_strange, G_law_strange, b_law_strange⟩ := ok_law_strange (P := P) (w := w) (base := base) T
    refine ⟨_, (pss_cons (ps_set (i := 2) nd rfl (Or.inl rfl) (pe_op op_mod (pe_ix ix_list (pv 1) pe_int (fun _ _ => rfl)) (pe_callB call_len_seq (by rfl) T.b_len PySem.boot_len (pa_cons (pv 0) pa_nil))))
      (pss_cons (ps_asg (pe_ix ix_list (pv 0) (pv 2) (fun _ _ => rfl)) (pg_tup rfl (pgs_cons (pg_name (i := 3) nd rfl (Or.inr rfl)) (pgs_cons (pg_name (i := 4) nd rfl (Or.inl rfl)) pgs_nil))))
      (pss_cons (ps_set (i := 5) nd rfl (Or.inl rfl) (pe_op op_mod (pe_ix ix_list (pv 1) pe_int (fun _ _ => rfl)) (pe_callB call_len_seq (by rfl) T.b_len PySem.boot_len (pa_cons (pv 4) pa_nil))))
      (pss_cons (ps_set (i := 6) nd rfl (Or.inl rfl) (pe_op op_cat (pe_op op_cat (pe_slice sl_list (pv 4) po_none (po_some (pv 5))) (pe_lst (pa_cons (pe_call G_law_bad_column (hr.mono (by decide)) (by rfl) T.g_law_bad_column T.d_law_bad_column.kp b_law_bad_column .nil pass0 (pa_cons (pe_ix ix_list (pv 4) (pv 5) (fun _ _ => rfl)) (pa_cons (pv 4) (pa_cons (pe_slice sl_list (pv 1) (po_some pe_int) (po_some pe_int)) pa_nil)))) pa_nil))) (pe_slice sl_list (pv 4) (po_some (pe_op op_add (pv 5) pe_int)) po_none)))
      (pss_cons (ps_setLc (i := 7) rfl nd rfl rfl (sw_true rfl rfl rfl (by decide +kernel)) (own := [("_law_sign", 10)]) (pi_str pe_str) (blkOk_by (own := [("_law_sign", 10)]) (N := ["_law_tables", "_law_draws_here", "_law_at", "_law_name", "_law_columns", "_law_spot", "_law_bad", "_law_many", "_law_strange_here", "_law_some", "_law_sign"]) (sc := defScope s_law_bad_table) (by decide +kernel)) (fun _ _ _ _ _ => pg_name (i := 10) nd rfl (Or.inl rfl)) (fun _ _ _ _ _ => pts_nil) (fun _ _ _ _ _ => (pe_tup (pa_cons (pe_op op_add_str (pe_slice sl_str (pv 3) po_none (po_some pe_int)) (pv 10)) (pa_cons pe_str pa_nil)))))
      (pss_cons (ps_set (i := 8) nd rfl (Or.inl rfl) (pe_call G_law_strange (hr.mono (by decide)) (by rfl) T.g_law_strange T.d_law_strange.kp b_law_strange .nil pass0 (pa_cons (pe_ix ix_list (pv 1) pe_int (fun _ _ => rfl)) pa_nil)))
      (pss_cons (ps_set (i := 9) nd rfl (Or.inl rfl) (pe_lst (pa_cons (pe_tup (pa_cons (pv 3) (pa_cons (pv 6) pa_nil))) (pa_cons (pe_tup (pa_cons (pv 3) (pa_cons (pv 6) pa_nil))) (pa_cons (pe_tup (pa_cons (pv 3) (pa_cons (pv 6) pa_nil))) (pa_cons (pe_tup (pa_cons (pv 8) (pa_cons (pv 4) pa_nil))) (pa_cons (pe_tup (pa_cons (pv 3) (pa_cons (pe_lst pa_nil) pa_nil))) (pa_cons (pe_tup (pa_cons (pv 3) (pa_cons (pv 7) pa_nil))) (pa_cons (pe_tup (pa_cons (pv 3) pa_nil)) pa_nil)))))))))
      (pss_cons (ps_set (i := 9) nd rfl (Or.inl rfl) (pe_op op_cat (pv 9) (pe_lst (pa_cons (pe_tup (pa_cons (pv 3) (pa_cons (pv 4) (pa_cons (pv 4) pa_nil)))) (pa_cons (pe_lst (pa_cons (pv 3) (pa_cons (pv 4) pa_nil))) (pa_cons (pv 3) (pa_cons pe_non (pa_cons (pe_tup (pa_cons (pv 3) (pa_cons pe_non pa_nil))) (pa_cons (pe_tup (pa_cons (pv 3) (pa_cons pe_str pa_nil))) pa_nil)))))))))
      (Evl.pss_cut (ps_if (pt_cmpR op_gt (pe_callB call_len_seq (by rfl) T.b_len PySem.boot_len (pa_cons (pv 0) pa_nil)) pe_int (nomark _)) (pss_one (ps_expr (pe_bm PySem.F.plainAttrs_list PySem.F.slot_list_append PySem.F.type_list_append mt_append (pv 9) (pa_cons (pe_tup (pa_cons (pe_ix ix_tup (pe_ix ix_list (pv 0) (pe_op op_sub (pv 2) pe_int) (fun _ _ => rfl)) pe_int (fun _ _ => rfl)) (pa_cons (pv 4) pa_nil))) pa_nil)))) pss_nil)
      (pss_one (ps_ret (pe_op op_cat (pe_op op_cat (pe_slice sl_list (pv 0) po_none (po_some (pv 2))) (pe_lst (pa_cons (pe_ix ix_list (pv 9) (pe_op op_mod (pe_ix ix_list (pv 1) pe_int (fun _ _ => rfl)) (pe_callB call_len_seq (by rfl) T.b_len PySem.boot_len (pa_cons (pv 9) pa_nil))) (fun _ _ => rfl)) pa_nil))) (pe_slice sl_list (pv 0) (po_some (pe_op op_add (pv 2) pe_int)) po_none))))))))))))), ?_⟩
    simp only [cxOf, Cx.nox, L2.start, List.map_cons, List.map_nil, List.length_cons, List.length_nil, Nat.reduceAdd, Nat.reduceSub, List.replicate, List.cons_append, List.nil_append]
    have tlo := tk.lo
    have thi := tk.hi
    obtain ⟨ta, tx, rfl, hta, htx⟩ := Z.dp_lst ht
    have htl := Z.dpa_len htx
    rw [List.length_map] at htl
    walk_at "z"
    refine Z.ixD hd sm 0 rfl fun w1 hw1 => ?_
    cases Z.dp_int hw1
    walk_at "z"
    refine Z.lenSeq (sm.seq hta) ?_
    rw [htl]
    walk_at "z"
    obtain ⟨n, hn, hnl⟩ : ∃ n : Nat, x0 % (ts.length : Int) = (n : Int) ∧ n < ts.length := ⟨(x0 % (ts.length : Int)).toNat, by have := Int.emod_nonneg x0 (show (ts.length : Int) ≠ 0 by omega); omega, by have := Int.emod_lt_of_pos x0 (show (0 : Int) < ts.length by omega); have := Int.emod_nonneg x0 (show (ts.length : Int) ≠ 0 by omega); omega⟩
    rw [hn]
    have etn : ts[n]? = some ts[n] := List.getElem?_eq_getElem hnl
    have htm := List.mem_of_getElem? etn
    generalize ts[n] = t at etn htm
    obtain ⟨tn, cok⟩ := tk.nm t htm
    have clo := cok.lo
    have chi := cok.hi
    have tn8 := tn.2.1
    refine Z.ixD ht sm n (d := tabD t) (by rw [List.getElem?_map, etn]; rfl) fun w1 hw1 => ?_
    refine Z.gtupD hw1 sm fun ys hys => ?_
    obtain ⟨y1, y2, rfl, hy1, hy2⟩ := Z.dpa2 hys
    cases Z.dp_str hy1
    obtain ⟨ca, cx, rfl, hca, hcx⟩ := Z.dp_lst hy2
    have hcl := Z.dpa_len hcx
    rw [List.length_map] at hcl
    walk_at "z"
    refine Z.ixD hd sm 1 rfl fun w1 hw1 => ?_
    cases Z.dp_int hw1
    walk_at "z"
    refine Z.lenSeq (sm.seq hca) ?_
    rw [hcl]
    walk_at "z"
    obtain ⟨m, hm, hml⟩ : ∃ n : Nat, x1 % (t.2.length : Int) = (n : Int) ∧ n < t.2.length := ⟨(x1 % (t.2.length : Int)).toNat, by have := Int.emod_nonneg x1 (show (t.2.length : Int) ≠ 0 by omega); omega, by have := Int.emod_lt_of_pos x1 (show (0 : Int) < t.2.length by omega); have := Int.emod_nonneg x1 (show (t.2.length : Int) ≠ 0 by omega); omega⟩
    rw [hm]
    have ecm : t.2[m]? = some t.2[m] := List.getElem?_eq_getElem hml
    have hcm := List.mem_of_getElem? ecm
    generalize t.2[m] = c at ecm hcm
    refine Z.slW (Z.Ws.init sm) (sm.seq hca) fun q1 H1 W1 => ?_
    walk_at "z"
    refine Z.ixD hy2 W1.fh m (d := pairD c) (by rw [List.getElem?_map, ecm]; rfl) fun w2 hw2 => ?_
    walk_at "z"
    refine Z.slD W1 hd fun r2 F2 H2 W2 s2 hr2 => ?_
    have hr2 : Dp K F2 r2 (.list ([x2, x3].map .int)) := hr2
    walk_at "z"
    refine ⟨F2, w2, .ref ca, r2, t.2, c, x2, x3, rfl, W2.fh, Z.dp_same s2 hw2, Z.dp_same s2 hy2, cok, hcm, hr2, p2, p3, fun F3 H3 bv bd g3 hbv hbad hbfit => ?_⟩
    have W3 := W2.ext g3
    have s03 := s2.trans g3.f
    walk_at "z"
    refine Z.lstW W3 fun q4 H4 W4 => ?_
    refine Z.catW W4 (W4.at 1 rfl) (W4.at 0 rfl) (by have := cutV_len (xs := cx) (lo := none) (hi := some (m : Int)); simp only [List.length_cons, List.length_nil]; omega) fun q5 H5 W5 => ?_
    walk_at "z"
    refine Z.slW W5 (W5.fh.seq (s03.seq hca)) fun q6 H6 W6 => ?_
    refine Z.catW W6 (W6.at 1 rfl) (W6.at 0 rfl) (by have := cutV_len (xs := cx) (lo := none) (hi := some (m : Int)); have := cutV_len (xs := cx) (lo := some ((m : Int) + 1)) (hi := none); simp only [List.length_append, List.length_cons, List.length_nil]; omega) fun q7 H7 W7 => ?_
    have hcx3 := Z.dxs_of (Z.dpa_same s03 hcx)
    have hbl : Z.DXs K F3 (cutV cx none (some (m : Int)) ++ [bv] ++ cutV cx (some ((m : Int) + 1)) none) ((t.2.map pairD).set m bd) := by
      rw [← cut_set _ m (by rw [List.length_map]; exact hml)]
      exact Z.dxs_app (Z.dxs_app (Z.dxs_cut hcx3) (.cons hbv .nil)) (Z.dxs_cut hcx3)
    obtain ⟨F8, W8, s8, g8⟩ := W7.frz 0 rfl
    have W8 := W8.pick [] (L' := []) List.nodup_nil rfl
    have hbx : Z.DX K F8 (.ref q7) (.list ((t.2.map pairD).set m bd)) := .lst (SqL.of g8) (Z.dxs_same s8 hbl)
    have fbx : Fit3 (.list ((t.2.map pairD).set m bd)) := fun e he => by
      rcases List.mem_or_eq_of_mem_set he with h | h
      · exact fit_cols cok e h
      · rw [h]; exact hbfit
    walk_at "z"
    refine ⟨_, rfl, fun D hD => ?_⟩
    refine lc_it walk_str (fun i H' => ∃ F' vs ds, Z.Ws [(D, .lst vs)] F0 H F' H' ∧ Same F8 F' ∧ Z.DXs K F' vs ds ∧ ds.length = i ∧ ∀ e ∈ ds, Fit1 e ∧ Fit2 e) ⟨F8, [], [], W8.new hD, Same.refl _, .nil, rfl, fun e h => nomatch h⟩ (fun _ _ _ _ => True.intro) ?_ ?_
    · rintro i x H9 H10 hi ⟨F9, vs, ds, W9, s9, hds, hdl, hfit⟩ ⟨rfl, cc, hcc, rfl⟩
      refine ⟨rfl, ?_⟩
      walk_at "z"
      refine Z.slS (by omega) ?_
      walk_at "z"
      have l7 : (cutS t.1 none (some 7)).length ≤ 8 := Nat.le_trans (cutS_len _ _ _) tn8
      have l1 : (⟨#[cc]⟩ : Str).length = 1 := rfl
      refine Z.addS (by omega) ?_
      walk_at "z"
      refine Z.tupX (K := K) W9 (.cons (.str _) (.cons (.str _) .nil)) fun r F11 H11 W11 s11 hr => ?_
      have hvl := Z.dxs_len hds
      have i5 : i < 5 := Nat.lt_of_lt_of_le hi (by decide +kernel)
      refine ⟨vs, W11.at 0 rfl, Nat.lt_of_le_of_lt (show vs.length ≤ 1000 by omega) (by decide), F11, _, _, W11.set 0 rfl _, s9.trans s11, Z.dxs_app (Z.dxs_same s11 hds) (.cons hr .nil), by rw [List.length_append, hdl]; rfl, fun e he => ?_⟩
      rcases List.mem_append.mp he with h | h
      · exact hfit e h
      · rw [List.mem_singleton.mp h]
        refine ⟨trivial, fun d hd => ?_⟩
        simp only [List.mem_cons, List.not_mem_nil, or_false] at hd
        rcases hd with rfl | rfl
        · show Str.length _ ≤ _
          have : (cutS t.1 none (some 7) ++ (⟨#[cc]⟩ : Str)).length = (cutS t.1 none (some 7)).length + 1 := Array.size_append
          omega
        · show Str.length _ ≤ _
          decide +kernel
    rintro H9 ⟨F9, mvs, mds, W9, s9, hmds, hmdl, hmfit⟩
    obtain ⟨F10, W10, s10, g10⟩ := W9.frz 0 rfl
    have W10 := W10.pick [] (L' := []) List.nodup_nil rfl
    have hml : mds.length = 5 := hmdl.trans (by decide +kernel)
    have hmx : Z.DX K F10 (.ref D) (.list mds) := .lst (SqL.of g10) (Z.dxs_same s10 hmds)
    have s010 : Same F0 F10 := s03.trans (s8.trans (s9.trans s10))
    walk_at "z"
    refine Z.ixD (Z.dp_same s010 hd) W10.fh 4 rfl fun w1 hw1 => ?_
    cases Z.dp_int hw1
    refine ⟨F10, x4, rfl, W10.fh, p4, fun F11 H11 sv sd g11 hsv hsn hsf hsf3 => ?_⟩
    have W11 := W10.ext g11
    have s011 := s010.trans g11.f
    have hcol : Z.DX K F11 (.ref ca) (.list (t.2.map pairD)) := Z.dx_same s011 (Z.dx_of hy2)
    have hbx11 : Z.DX K F11 (.ref q7) (.list ((t.2.map pairD).set m bd)) := Z.dx_same (s9.trans (s10.trans g11.f)) hbx
    have hmx11 := Z.dx_same g11.f hmx
    walk_at "z"
    refine Z.tupX (K := K) W11 (.cons (.str t.1) (.cons hbx11 .nil)) fun a1 F12 H12 W12 s12 e1 => ?_
    walk_at "z"
    refine Z.tupX (K := K) W12 (.cons (.str t.1) (.cons (Z.dx_same s12 hbx11) .nil)) fun a2 F13 H13 W13 s13 e2 => ?_
    walk_at "z"
    have s1113 := s12.trans s13
    refine Z.tupX (K := K) W13 (.cons (.str t.1) (.cons (Z.dx_same s1113 hbx11) .nil)) fun a3 F14 H14 W14 s14 e3 => ?_
    walk_at "z"
    have s1114 := s1113.trans s14
    refine Z.tupX (K := K) W14 (.cons (Z.dx_same s1114 hsv) (.cons (Z.dx_same s1114 hcol) .nil)) fun a4 F15 H15 W15 s15 e4 => ?_
    walk_at "z"
    have s1115 := s1114.trans s15
    refine Z.lstX (K := K) W15 .nil fun a5 F16 H16 W16 s16 e5 => ?_
    walk_at "z"
    refine Z.tupX (K := K) W16 (.cons (.str t.1) (.cons e5 .nil)) fun a6 F17 H17 W17 s17 e6 => ?_
    walk_at "z"
    have s1117 := s1115.trans (s16.trans s17)
    refine Z.tupX (K := K) W17 (.cons (.str t.1) (.cons (Z.dx_same s1117 hmx11) .nil)) fun a7 F18 H18 W18 s18 e7 => ?_
    walk_at "z"
    have s1118 := s1117.trans s18
    refine Z.tupX (K := K) W18 (.cons (.str t.1) .nil) fun a8 F19 H19 W19 s19 e8 => ?_
    walk_at "z"
    have s1119 := s1118.trans s19
    refine Z.lstW W19 fun q20 H20 W20 => ?_
    walk_at "z"
    refine Z.tupX (K := K) W20 (.cons (.str t.1) (.cons (Z.dx_same s1119 hcol) (.cons (Z.dx_same s1119 hcol) .nil))) fun a9 F21 H21 W21 s21 e9 => ?_
    walk_at "z"
    have s1121 := s1119.trans s21
    refine Z.lstX (K := K) W21 (.cons (.str t.1) (.cons (Z.dx_same s1121 hcol) .nil)) fun a10 F22 H22 W22 s22 e10 => ?_
    walk_at "z"
    refine Z.tupX (K := K) W22 (.cons (.str t.1) (.cons .non .nil)) fun a11 F23 H23 W23 s23 e11 => ?_
    walk_at "z"
    refine Z.tupX (K := K) W23 (.cons (.str t.1) (.cons (.str _) .nil)) fun a12 F24 H24 W24 s24 e12 => ?_
    walk_at "z"
    have s1124 := s1121.trans (s22.trans (s23.trans s24))
    refine Z.lstW W24 fun q25 H25 W25 => ?_
    refine Z.catW W25 (W25.at 1 rfl) (W25.at 0 rfl) (by simp only [List.length_cons, List.length_nil]; omega) fun q26 H26 W26 => ?_
    have W27 : Z.Ws [(q26, .lst ([a1, a2, a3, a4, a6, a7, a8] ++ [a9, a10, .str t.1, .non, a11, a12]))] F0 H F24 H26 := W26.pick [0] (by decide) rfl
    have sa : ∀ {Fi : Hp}, Same Fi F19 → Same Fi F24 := fun h => h.trans (s21.trans (s22.trans (s23.trans s24)))
    have hall : Z.DXs K F24 ([a1, a2, a3, a4, a6, a7, a8] ++ [a9, a10, .str t.1, .non, a11, a12])
        [.tuple [.str t.1, .list ((t.2.map pairD).set m bd)], .tuple [.str t.1, .list ((t.2.map pairD).set m bd)], .tuple [.str t.1, .list ((t.2.map pairD).set m bd)], .tuple [sd, .list (t.2.map pairD)], .tuple [.str t.1, .list []], .tuple [.str t.1, .list mds], .tuple [.str t.1],
          .tuple [.str t.1, .list (t.2.map pairD), .list (t.2.map pairD)], .list [.str t.1, .list (t.2.map pairD)], .str t.1, .none, .tuple [.str t.1, .none], .tuple [.str t.1, .str "abc"]] :=
      .cons (Z.dx_same (sa (s13.trans (s14.trans (s15.trans (s16.trans (s17.trans (s18.trans s19))))))) e1) (.cons (Z.dx_same (sa (s14.trans (s15.trans (s16.trans (s17.trans (s18.trans s19)))))) e2) (.cons (Z.dx_same (sa (s15.trans (s16.trans (s17.trans (s18.trans s19))))) e3)
        (.cons (Z.dx_same (sa (s16.trans (s17.trans (s18.trans s19)))) e4) (.cons (Z.dx_same (sa (s18.trans s19)) e6) (.cons (Z.dx_same (sa s19) e7) (.cons (Z.dx_same (sa (Same.refl _)) e8)
        (.cons (Z.dx_same (s22.trans (s23.trans s24)) e9) (.cons (Z.dx_same (s23.trans s24) e10) (.cons (.str _) (.cons .non (.cons (Z.dx_same s24 e11) (.cons e12 .nil))))))))))))
    have nf : Fit1 (.str t.1) := by show Str.length _ ≤ _; omega
    have good : ∀ e ∈ [PyData.tuple [.str t.1, .list ((t.2.map pairD).set m bd)], .tuple [.str t.1, .list ((t.2.map pairD).set m bd)], .tuple [.str t.1, .list ((t.2.map pairD).set m bd)], .tuple [sd, .list (t.2.map pairD)], .tuple [.str t.1, .list []], .tuple [.str t.1, .list mds], .tuple [.str t.1],
          .tuple [.str t.1, .list (t.2.map pairD), .list (t.2.map pairD)], .list [.str t.1, .list (t.2.map pairD)], .str t.1, .none, .tuple [.str t.1, .none], .tuple [.str t.1, .str "abc"]], BadT ts t e ∧ Fit4 e := by
      have fc := fit_cols cok
      have g1 : BadT ts t (.tuple [.str t.1, .list ((t.2.map pairD).set m bd)]) ∧ Fit4 (.tuple [.str t.1, .list ((t.2.map pairD).set m bd)]) := by
        refine ⟨fun z c' cs h ha _ => ?_, fun d hd => ?_⟩
        · simp only [PyData.tuple.injEq, List.cons.injEq, and_true] at h
          exact absurd ha (bad_col cok ecm hbad _ cs h.2.symm)
        · simp only [List.mem_cons, List.not_mem_nil, or_false] at hd
          rcases hd with rfl | rfl
          · exact ⟨nf, trivial⟩
          · exact ⟨trivial, fbx⟩
      have no : ∀ {x : PyData}, (∀ cs, ¬ Acc x cs) → BadT ts t (.tuple [.str t.1, x]) := fun hx z c' cs h ha _ => by
        simp only [PyData.tuple.injEq, List.cons.injEq, and_true] at h
        rw [← h.2] at ha
        exact absurd ha (hx cs)
      intro e he
      simp only [List.mem_cons, List.not_mem_nil, or_false] at he
      rcases he with rfl | rfl | rfl | rfl | rfl | rfl | rfl | rfl | rfl | rfl | rfl | rfl | rfl
      · exact g1
      · exact g1
      · exact g1
      · refine ⟨fun z c' cs h _ n => ?_, fun d hd => ?_⟩
        · simp only [PyData.tuple.injEq, List.cons.injEq, and_true] at h
          rw [h.1] at hsn
          exact absurd n (of_decide_eq_false hsn)
        · simp only [List.mem_cons, List.not_mem_nil, or_false] at hd
          rcases hd with rfl | rfl
          · exact ⟨hsf, hsf3⟩
          · exact ⟨trivial, fc⟩
      · refine ⟨no fun cs h => ?_, fun d hd => ?_⟩
        · have := h.seq (ds := []) rfl
          have l := h.2.lo
          have := congrArg List.length this
          rw [List.length_map] at this
          simp at this
          omega
        · simp only [List.mem_cons, List.not_mem_nil, or_false] at hd
          rcases hd with rfl | rfl
          · exact ⟨nf, trivial⟩
          · exact ⟨trivial, fun x hx => nomatch hx⟩
      · refine ⟨no fun cs h => ?_, fun d hd => ?_⟩
        · have := h.seq (ds := mds) rfl
          have l := h.2.hi
          rw [this, List.length_map] at hml
          omega
        · simp only [List.mem_cons, List.not_mem_nil, or_false] at hd
          rcases hd with rfl | rfl
          · exact ⟨nf, trivial⟩
          · exact ⟨trivial, hmfit⟩
      · refine ⟨fun z c' cs h _ _ => by simp at h, fun d hd => ?_⟩
        simp only [List.mem_cons, List.not_mem_nil, or_false] at hd
        subst hd
        exact ⟨nf, trivial⟩
      · refine ⟨fun z c' cs h _ _ => by simp at h, fun d hd => ?_⟩
        simp only [List.mem_cons, List.not_mem_nil, or_false] at hd
        rcases hd with rfl | rfl | rfl
        · exact ⟨nf, trivial⟩
        · exact ⟨trivial, fc⟩
        · exact ⟨trivial, fc⟩
      · exact ⟨fun z c' cs h _ _ => by simp at h, trivial⟩
      · exact ⟨fun z c' cs h _ _ => by simp at h, trivial⟩
      · exact ⟨fun z c' cs h _ _ => by simp at h, trivial⟩
      · refine ⟨no fun cs h => ?_, fun d hd => ?_⟩
        · exact h.not rfl
        · simp only [List.mem_cons, List.not_mem_nil, or_false] at hd
          rcases hd with rfl | rfl
          · exact ⟨nf, trivial⟩
          · exact ⟨trivial, trivial⟩
      · refine ⟨no fun cs h => ?_, fun d hd => ?_⟩
        · exact h.not rfl
        · simp only [List.mem_cons, List.not_mem_nil, or_false] at hd
          rcases hd with rfl | rfl
          · exact ⟨nf, trivial⟩
          · exact ⟨by show Str.length _ ≤ _; decide +kernel, trivial⟩
    generalize [PyData.tuple [.str t.1, .list ((t.2.map pairD).set m bd)], .tuple [.str t.1, .list ((t.2.map pairD).set m bd)], .tuple [.str t.1, .list ((t.2.map pairD).set m bd)], .tuple [sd, .list (t.2.map pairD)], .tuple [.str t.1, .list []], .tuple [.str t.1, .list mds], .tuple [.str t.1],
          .tuple [.str t.1, .list (t.2.map pairD), .list (t.2.map pairD)], .list [.str t.1, .list (t.2.map pairD)], .str t.1, .none, .tuple [.str t.1, .none], .tuple [.str t.1, .str "abc"]] = dall at hall good
    have hl13 := Z.dxs_len hall
    have l13 : ([a1, a2, a3, a4, a6, a7, a8] ++ [a9, a10, .str t.1, .non, a11, a12]).length = 13 := by simp
    generalize [a1, a2, a3, a4, a6, a7, a8] ++ [a9, a10, .str t.1, .non, a11, a12] = vall at hall W27 hl13 l13 ⊢
    have s024 : Same F0 F24 := s011.trans s1124
    walk_at "z"
    refine Z.cut (M := fun σ' H' => (∃ v5 v6 v7 v8 v9, σ' = [some (.ref ta), some dv, some (.int n), some (.str t.1), some (.ref ca), v5, v6, v7, v8, some (.ref q26), v9]) ∧ ∃ F' vs ds, Z.Ws [(q26, .lst vs)] F0 H F' H' ∧ Same F24 F' ∧ Z.DXs K F' vs ds ∧ (∀ e ∈ ds, BadT ts t e ∧ Fit4 e) ∧ 1 ≤ vs.length ∧ vs.length ≤ 14) ?_ ?_
    · walk_at "z"
      refine Z.lenSeq (W27.fh.seq (s024.seq hta)) ?_
      rw [htl]
      walk_at "z"
      refine Z.iteD (fun hm2 => ?_) (fun hm2 => ?_)
      · walk_at "z"
        refine ⟨.inl ⟨rfl, _, SqL.of (W27.at 0 rfl)⟩, ?_⟩
        walk_at "z"
        refine Z.ixDz (Z.dp_same s024 ht) W27.fh (by rw [List.length_map]; omega) (by rw [List.length_map]; omega) fun j dj wj hj hjz hwj => ?_
        rw [List.length_map] at hjz
        rw [List.getElem?_map] at hj
        obtain ⟨t2, ht2, rfl⟩ := Option.map_eq_some_iff.mp hj
        have hjn : j ≠ n := by rcases hjz with h | h <;> omega
        have n2m := List.mem_of_getElem? ht2
        have n2n : t2.1 ≠ t.1 := fun e => by
          have a1 : (ts.map (·.1))[j]? = some t.1 := by rw [List.getElem?_map, ht2]; exact congrArg some e
          have a2 : (ts.map (·.1))[n]? = some t.1 := by rw [List.getElem?_map, etn]; rfl
          exact hjn (nd_ix tk.nd a1 a2)
        have n28 := (tk.nm t2 n2m).1.2.1
        walk_at "z"
        refine Z.ixT hwj W27.fh 0 rfl fun w1 hw1 => ?_
        cases Z.dp_str hw1
        walk_at "z"
        refine Z.tupX (K := K) W27 (.cons (.str t2.1) (.cons (Z.dx_same s1124 hcol) .nil)) fun a30 F30 H30 W30 s30 e30 => ?_
        walk_at "z"
        refine Z.appW W30 0 rfl (fun H31 W31 => ?_) (by omega)
        walk_at "z"
        refine ⟨⟨_, _, _, _, _, rfl⟩, F30, _, _, W31, s30, Z.dxs_app (Z.dxs_same s30 hall) (.cons e30 .nil), fun e he => ?_, by rw [List.length_append]; omega, by rw [List.length_append, l13]; exact Nat.le_refl _⟩
        rcases List.mem_append.mp he with h | h
        · exact good e h
        · rw [List.mem_singleton.mp h]
          refine ⟨fun z c' cs h _ _ => ?_, fun d hd => ?_⟩
          · simp only [PyData.tuple.injEq, List.cons.injEq, PyData.str.injEq, and_true] at h
            rw [← h.1]
            exact ⟨List.mem_map.mpr ⟨t2, n2m, rfl⟩, n2n⟩
          · simp only [List.mem_cons, List.not_mem_nil, or_false] at hd
            rcases hd with rfl | rfl
            · exact ⟨by show Str.length _ ≤ _; omega, trivial⟩
            · exact ⟨trivial, fit_cols cok⟩
      · walk_at "z"
        exact ⟨⟨_, _, _, _, _, rfl⟩, F24, _, _, W27, Same.refl _, hall, good, by omega, by omega⟩
    · rintro σ' H30 ⟨⟨v5, v6, v7, v8, v9, rfl⟩, F30, vs, ds, W30, s30, hds, hgood, hv1, hv2⟩
      have s030 := s024.trans s30
      walk_at "z"
      refine Z.slW W30 (W30.fh.seq (s030.seq hta)) fun q31 H31 W31 => ?_
      walk_at "z"
      refine Z.ixD (Z.dp_same s030 hd) W31.fh 5 rfl fun w1 hw1 => ?_
      cases Z.dp_int hw1
      walk_at "z"
      refine Z.lenSeq (SqL.of (W31.at 1 rfl)) ?_
      refine Z.ic (by show (0 : Int) < _; omega) ?_
      refine ixXc (SqL.of (W31.at 1 rfl)) hds (Int.emod_nonneg _ (by omega)) (Int.emod_lt_of_pos _ (by omega)) fun ev ed hed hev => ?_
      walk_at "z"
      refine Z.lstW W31 fun q32 H32 W32 => ?_
      refine Z.catW W32 (W32.at 1 rfl) (W32.at 0 rfl) (by have := cutV_len (xs := tx) (lo := none) (hi := some (n : Int)); simp only [List.length_cons, List.length_nil]; omega) fun q33 H33 W33 => ?_
      walk_at "z"
      refine Z.slW W33 (W33.fh.seq (s030.seq hta)) fun q34 H34 W34 => ?_
      refine Z.catW W34 (W34.at 1 rfl) (W34.at 0 rfl) (by have := cutV_len (xs := tx) (lo := none) (hi := some (n : Int)); have := cutV_len (xs := tx) (lo := some ((n : Int) + 1)) (hi := none); simp only [List.length_append, List.length_cons, List.length_nil]; omega) fun q35 H35 W35 => ?_
      have htx3 := Z.dxs_of (Z.dpa_same s030 htx)
      have hbl : Z.DXs K F30 (cutV tx none (some (n : Int)) ++ [ev] ++ cutV tx (some ((n : Int) + 1)) none) ((ts.map tabD).set n ed) := by
        rw [← cut_set _ n (by rw [List.length_map]; exact hnl)]
        exact Z.dxs_app (Z.dxs_app (Z.dxs_cut htx3) (.cons hev .nil)) (Z.dxs_cut htx3)
      obtain ⟨F36, W36, s36, g36⟩ := W35.frz 0 rfl
      obtain ⟨hg1, hg2⟩ := hgood ed hed
      refine k F36 H35 _ _ W36.g (.lst (SqL.of g36) (Z.dxs_same s36 hbl)) (bad_tab etn hg1) fun e he => ?_
      rcases List.mem_or_eq_of_mem_set he with h | h
      · obtain ⟨t', ht', rfl⟩ := List.mem_map.mp h
        exact fit_tab (tk.nm t' ht').1 (tk.nm t' ht').2
      · rw [h]; exact hg2

theorem ixDa {K : PySem.W.Frag} {F H : Hp} {Q : VK} {v : V} {ds : List PyData} {z : Int} (h : Dp K F v (.list ds)) (s : Same F H) (h0 : 0 ≤ z) (h1 : z < ds.length) (k : ∀ w d, d ∈ ds → ds[z.toNat]? = some d → Dp K F w d → Q w H) : rIxL K v (.int z) H Q := by
  have e : ds[z.toNat]? = some (ds[z.toNat]'(by omega)) := List.getElem?_eq_getElem _
  have := Z.ixD h s z.toNat e fun w hw => k w _ (List.getElem_mem _) e hw
  rwa [show ((z.toNat : Nat) : Int) = z by omega] at this
theorem op_notIn_seqK {X : Cx} {K : PySem.W.Frag} (h : X.K = K) : OpR X (compareOp .NotIn) (rIn K true) := by subst h; exact op_notIn_seq
theorem pi_listK {X : Cx} {K : PySem.W.Frag} {tg l : Expr} {tl : TE} (h : X.K = K) (hl : PE X l tl) : PI X tg l (iList K tl) := by subst h; exact pi_list hl
theorem pairs_nd : ∀ {os : List (Str × Str)}, os.Nodup → (os.map pairD).Nodup
  | [], _ => List.nodup_nil
  | o :: os, h => by
    rw [List.nodup_cons] at h
    rw [List.map_cons, List.nodup_cons]
    refine ⟨fun m => ?_, pairs_nd h.2⟩
    obtain ⟨o2, m2, e⟩ := List.mem_map.mp m
    exact h.1 (pairD_inj e ▸ m2)
/-- a thing put among the orders: if it is an order at all it is there already -/
def BadO (ts : List Tab) (os : List (Str × Str)) (d : PyData) : Prop := ∀ o : Str × Str, d = pairD o → (∃ t ∈ ts, t.1 = o.1 ∧ ∃ c ∈ t.2.drop 1, c.1 = o.2) → o ∈ os
theorem bad_ord {ts : List Tab} {os : List (Str × Str)} {d : PyData} (n : Nat) (h : BadO ts os d) : ∀ os', ¬ AccO ts (.list ((os.map pairD).take n ++ [d] ++ (os.map pairD).drop n)) os' := by
  intro os' a
  have e := a.seq (ds := (os.map pairD).take n ++ [d] ++ (os.map pairD).drop n) rfl
  have hm : d ∈ os'.map pairD := by rw [← e]; simp
  obtain ⟨o, ho, eo⟩ := List.mem_map.mp hm
  have hin := h o eo.symm (a.2.nm o ho)
  have nd := pairs_nd a.2.nd
  rw [← e, List.append_assoc] at nd
  have hd : d ∈ (os.map pairD).take n ++ (os.map pairD).drop n := by rw [List.take_append_drop, ← eo]; exact List.mem_map_of_mem hin
  have nd2 := (List.perm_middle (l₁ := (os.map pairD).take n) (a := d) (l₂ := (os.map pairD).drop n)).nodup_iff.mp (by simpa using nd)
  exact (List.nodup_cons.mp nd2).1 hd
theorem notInS {K : PySem.W.Frag} {H : Hp} {Q : VK} {z : Str} {zs : List Str} {p : Addr} (h : SqL K H p (zs.map V.str)) (k : Q (.bl (!decide (z ∈ zs))) H) : rIn K true (.str z) (.ref p) H Q := by
  refine ⟨p, _, rfl, .inl h, rfl, flat_str zs, ?_⟩
  rw [if_pos rfl, inV_str]
  exact k
theorem filt_step {zs us : List Str} {i : Nat} {z : Str} (h : zs[i]? = some z) : ((zs.take (i + 1)).filter fun z => !decide (z ∈ us)) = ((zs.take i).filter fun z => !decide (z ∈ us)) ++ if z ∈ us then [] else [z] := by
  rw [List.take_add_one, h, List.filter_append]
  by_cases e : z ∈ us <;> simp [e]
/-- of more names than are taken one is left -/
theorem one_left {zs us : List Str} (nd : zs.Nodup) (hl : us.length < zs.length) : ∃ z r, (zs.filter fun z => !decide (z ∈ us)) = z :: r ∧ z ∈ zs ∧ z ∉ us := by
  cases h : zs.filter fun z => !decide (z ∈ us) with
  | cons z r =>
    have m : z ∈ zs.filter fun z => !decide (z ∈ us) := by rw [h]; exact List.mem_cons_self
    have m := List.mem_filter.mp m
    exact ⟨z, r, rfl, m.1, by simpa using m.2⟩
  | nil =>
    have all : ∀ z ∈ zs, z ∈ us := fun z hz => Classical.byContradiction fun hn => by
      have m : z ∈ zs.filter fun z => !decide (z ∈ us) := List.mem_filter.mpr ⟨hz, by simp [hn]⟩
      rw [h] at m
      cases m
    have := (List.subset_def.mpr fun {a} h => all a h : zs ⊆ us)
    have := List.Nodup.length_le_of_subset nd this
    omega
theorem fit_ords {ts : List Tab} {os : List (Str × Str)} (tk : TabsOk ts) (ok : OrdsOk ts os) : ∀ e ∈ os.map pairD, Fit1 e ∧ Fit2 e := fun e he => by
  obtain ⟨o, ho, rfl⟩ := List.mem_map.mp he
  obtain ⟨t, ht, e1, c, hc, e2⟩ := ok.nm o ho
  obtain ⟨tn, ck⟩ := tk.nm t ht
  have cn := (ck.nm c (List.mem_of_mem_drop hc)).1.2.1
  have tn8 := tn.2.1
  refine ⟨trivial, fun d hd => ?_⟩
  simp only [List.mem_cons, List.not_mem_nil, or_false] at hd
  rcases hd with rfl | rfl
  · show Str.length _ ≤ _
    rw [← e1]
    omega
  · show Str.length _ ≤ _
    rw [← e2]
    omega
theorem same_tab {ts : List Tab} {t t' : Tab} (tk : TabsOk ts) (h : t ∈ ts) (h' : t' ∈ ts) (e : t'.1 = t.1) : t' = t := by
  obtain ⟨i, hi⟩ := List.mem_iff_getElem?.mp h
  obtain ⟨j, hj⟩ := List.mem_iff_getElem?.mp h'
  have n1 : (ts.map (·.1))[i]? = some t.1 := by rw [List.getElem?_map, hi]; rfl
  have n2 : (ts.map (·.1))[j]? = some t.1 := by rw [List.getElem?_map, hj]; exact congrArg some e
  have := nd_ix tk.nd n1 n2
  subst this
  rw [hi] at hj
  exact (Option.some.inj hj).symm
theorem bo_key {ts : List Tab} {os : List (Str × Str)} {t : Tab} {c0 : Col} (tk : TabsOk ts) (ht : t ∈ ts) (hc : t.2[0]? = some c0) : BadO ts os (.tuple [.str t.1, .str c0.1]) := by
  intro o e ⟨t', ht', e1, c, hcm, e2⟩
  have e := pairD_inj (a := (t.1, c0.1)) (b := o) e
  subst e
  have := same_tab tk ht ht' e1
  subst this
  obtain ⟨j, hj⟩ := List.mem_iff_getElem?.mp hcm
  rw [List.getElem?_drop] at hj
  have n1 : (t'.2.map (·.1))[0]? = some c0.1 := by rw [List.getElem?_map, hc]; rfl
  have n2 : (t'.2.map (·.1))[1 + j]? = some c0.1 := by rw [List.getElem?_map, hj]; exact congrArg some e2
  have := nd_ix (tk.nm t' ht').2.nd n1 n2
  omega
theorem bo_none {ts : List Tab} {os : List (Str × Str)} {t : Tab} {z : Str} (tk : TabsOk ts) (ht : t ∈ ts) (hz : z ∉ t.2.map (·.1)) : BadO ts os (.tuple [.str t.1, .str z]) := by
  intro o e ⟨t', ht', e1, c, hcm, e2⟩
  have e := pairD_inj (a := (t.1, z)) (b := o) e
  subst e
  have := same_tab tk ht ht' e1
  subst this
  exact absurd (List.mem_map.mpr ⟨c, List.mem_of_mem_drop hcm, e2⟩) hz
theorem bo_lost {ts : List Tab} {os : List (Str × Str)} {z y : Str} (hz : z ∉ ts.map (·.1)) : BadO ts os (.tuple [.str z, .str y]) := by
  intro o e ⟨t', ht', e1, _⟩
  have e := pairD_inj (a := (z, y)) (b := o) e
  subst e
  exact absurd (List.mem_map.mpr ⟨t', ht', e1⟩) hz
theorem bo_str1 {ts : List Tab} {os : List (Str × Str)} {d e : PyData} (tk : TabsOk ts) (h : named d = false) : BadO ts os (.tuple [d, e]) := by
  intro o e ⟨t', ht', e1, _⟩
  simp only [pairD, PyData.tuple.injEq, List.cons.injEq, and_true] at e
  rw [e.1] at h
  have := (tk.nm t' ht').1
  rw [e1] at this
  exact absurd this (of_decide_eq_false h)
theorem bo_str2 {ts : List Tab} {os : List (Str × Str)} {d e : PyData} (tk : TabsOk ts) (h : named d = false) : BadO ts os (.tuple [e, d]) := by
  intro o e ⟨t', ht', e1, c, hcm, e2⟩
  simp only [pairD, PyData.tuple.injEq, List.cons.injEq, and_true] at e
  rw [e.2] at h
  have := ((tk.nm t' ht').2.nm c (List.mem_of_mem_drop hcm)).1
  rw [e2] at this
  exact absurd this (of_decide_eq_false h)
def sp_law_bad_order (K : PySem.W.Frag) (A : Adr) : Sp := fun vs H Q _ => ∃ (F : Hp) (tv ov dv : V) (ts : List Tab) (os : List (Str × Str)) (x0 x1 x2 x3 x4 : Int), vs = [tv, ov, dv] ∧ Same F H ∧ Dp K F tv (.list (ts.map tabD)) ∧ TabsOk ts ∧ Dp K F ov (.list (os.map pairD)) ∧ OrdsOk ts os ∧ Dp K F dv (.list ([x0, x1, x2, x3, x4].map .int)) ∧ 0 ≤ x0 ∧ 0 ≤ x1 ∧ 0 ≤ x2 ∧ 0 ≤ x3 ∧ 0 ≤ x4 ∧
  ∀ F' H' r d, Z.Gr F H F' H' → Z.DX K F' r d → (∀ os', ¬ AccO ts d os') → d ≠ .none → Fit3 d → Q r H'
theorem ok_law_bad_order (T : Txt K mg A) : ∃ fd, FnOk P w K mg base CX0 3 A.f_law_bad_order fd ["_law_tables", "_law_orders", "_law_draws_here"] (sp_law_bad_order K A) ∧ Binds K fd ["_law_tables", "_law_orders", "_law_draws_here"] [] := by
  have ⟨fd, F, b⟩ := T.d_law_bad_order
  refine ⟨fd, F.ok sc_law_bad_order (fun vs H Q E h => ?_) (fun cdv Ar outer s H vs Q E hr h => ?_), b⟩
  · obtain ⟨F0, tv, ov, dv, ts, os, x0, x1, x2, x3, x4, rfl, _⟩ := h
    rfl
  · obtain ⟨F0, tv, ov, dv, ts, os, x0, x1, x2, x3, x4, rfl, sm, ht, tk, ho, ok, hd, p0, p1, p2, p3, p4, k⟩ := h
    have nd := sc_law_bad_order.nd
    have hu := hu_of hr
    have ⟨fd_law_names, G_law_names, b_law_names⟩ := ok_law_names (P := P) (w := w) (base := base) T
    have ⟨fd_law_strange, G_law_strange, b_law_strange⟩ := ok_law_strange (P := P) (w := w) (base := base) T
    refine ⟨_, (pss_cons (ps_asg (pe_ix ix_list (pv 0) (pe_op op_mod (pe_ix ix_list (pv 2) pe_int (fun _ _ => rfl)) (pe_callB call_len_seq (by rfl) T.b_len PySem.boot_len (pa_cons (pv 0) pa_nil))) (fun _ _ => rfl)) (pg_tup rfl (pgs_cons (pg_name (i := 3) nd rfl (Or.inl rfl)) (pgs_cons (pg_name (i := 4) nd rfl (Or.inr rfl)) pgs_nil))))
      (pss_cons (ps_set (i := 5) nd rfl (Or.inl rfl) (pe_ix ix_list (pe_lc (own := [("_law_one", 9)]) rfl nd (pi_list (pe_call G_law_names (hr.mono (by decide)) (by rfl) T.g_law_names T.d_law_names.kp b_law_names .nil pass0 (pa_cons (pe_ix ix_list (pv 2) pe_int (fun _ _ => rfl)) (pa_cons pe_int pa_nil)))) (blkOk_by (own := [("_law_one", 9)]) (N := ["_law_tables", "_law_orders", "_law_draws_here", "_law_name", "_law_columns", "_law_none", "_law_lost", "_law_some", "_law_at", "_law_one", "_law_column", "_law_kind", "_law_table", "_law_rows"]) (sc := defScope s_law_bad_order) (by decide +kernel)) (fun _ _ _ _ _ => pg_name (i := 9) nd rfl (Or.inl rfl)) (fun _ _ _ _ _ => pts_one (pt_cmpR (op_notIn_seqK (K := K) rfl) (pv 9) (pe_lc (own := [("_law_column", 10), ("_law_kind", 11)]) rfl nd (pi_listK (K := K) rfl (pv 4)) (blkOk_by (own := [("_law_column", 10), ("_law_kind", 11)]) (N := ["_law_tables", "_law_orders", "_law_draws_here", "_law_name", "_law_columns", "_law_none", "_law_lost", "_law_some", "_law_at", "_law_one", "_law_column", "_law_kind", "_law_table", "_law_rows"]) (sc := { kind := .function, names := [(".0", .local), ("_law_one", .local), ("_law_columns", .cell)], isGenerator := false, isCoroutine := false }) (by decide +kernel)) (fun _ _ _ _ _ => (pg_tupK (K := K) (n := 2) rfl rfl (pgs_cons (pg_name (i := 10) nd rfl (Or.inl rfl)) (pgs_cons (pg_name (i := 11) nd rfl (Or.inl rfl)) pgs_nil)))) (fun _ _ _ _ _ => pts_nil) (fun _ _ _ _ _ => (pv 10))) (by rfl))) (fun _ _ _ _ _ => (pv 9))) pe_int (fun _ _ => rfl)))
      (pss_cons (ps_set (i := 6) nd rfl (Or.inl rfl) (pe_ix ix_list (pe_lc (own := [("_law_one", 9)]) rfl nd (pi_list (pe_call G_law_names (hr.mono (by decide)) (by rfl) T.g_law_names T.d_law_names.kp b_law_names .nil pass0 (pa_cons (pe_ix ix_list (pv 2) pe_int (fun _ _ => rfl)) (pa_cons pe_int pa_nil)))) (blkOk_by (own := [("_law_one", 9)]) (N := ["_law_tables", "_law_orders", "_law_draws_here", "_law_name", "_law_columns", "_law_none", "_law_lost", "_law_some", "_law_at", "_law_one", "_law_column", "_law_kind", "_law_table", "_law_rows"]) (sc := defScope s_law_bad_order) (by decide +kernel)) (fun _ _ _ _ _ => pg_name (i := 9) nd rfl (Or.inl rfl)) (fun _ _ _ _ _ => pts_one (pt_cmpR (op_notIn_seqK (K := K) rfl) (pv 9) (pe_lc (own := [("_law_table", 12), ("_law_rows", 13)]) rfl nd (pi_listK (K := K) rfl (pv 0)) (blkOk_by (own := [("_law_table", 12), ("_law_rows", 13)]) (N := ["_law_tables", "_law_orders", "_law_draws_here", "_law_name", "_law_columns", "_law_none", "_law_lost", "_law_some", "_law_at", "_law_one", "_law_column", "_law_kind", "_law_table", "_law_rows"]) (sc := { kind := .function, names := [(".0", .local), ("_law_one", .local), ("_law_tables", .cell)], isGenerator := false, isCoroutine := false }) (by decide +kernel)) (fun _ _ _ _ _ => (pg_tupK (K := K) (n := 2) rfl rfl (pgs_cons (pg_name (i := 12) nd rfl (Or.inl rfl)) (pgs_cons (pg_name (i := 13) nd rfl (Or.inl rfl)) pgs_nil)))) (fun _ _ _ _ _ => pts_nil) (fun _ _ _ _ _ => (pv 12))) (by rfl))) (fun _ _ _ _ _ => (pv 9))) pe_int (fun _ _ => rfl)))
      (pss_cons (ps_set (i := 7) nd rfl (Or.inl rfl) (pe_lst (pa_cons (pe_tup (pa_cons (pv 3) (pa_cons (pe_ix ix_tup (pe_ix ix_list (pv 4) pe_int (fun _ _ => rfl)) pe_int (fun _ _ => rfl)) pa_nil))) (pa_cons (pe_tup (pa_cons (pv 3) (pa_cons (pv 5) pa_nil))) (pa_cons (pe_tup (pa_cons (pv 6) (pa_cons (pe_ix ix_tup (pe_ix ix_list (pv 4) (pe_un un_neg pe_int) (fun _ _ => rfl)) pe_int (fun _ _ => rfl)) pa_nil))) (pa_cons (pe_tup (pa_cons (pv 3) pa_nil)) (pa_cons (pe_tup (pa_cons (pv 3) (pa_cons (pv 5) (pa_cons (pv 5) pa_nil)))) (pa_cons (pe_lst (pa_cons (pv 3) (pa_cons (pv 5) pa_nil))) pa_nil))))))))
      (pss_cons (ps_set (i := 7) nd rfl (Or.inl rfl) (pe_op op_cat (pv 7) (pe_lst (pa_cons (pv 3) (pa_cons pe_non (pa_cons (pe_tup (pa_cons (pe_call G_law_strange (hr.mono (by decide)) (by rfl) T.g_law_strange T.d_law_strange.kp b_law_strange .nil pass0 (pa_cons (pe_ix ix_list (pv 2) pe_int (fun _ _ => rfl)) pa_nil)) (pa_cons (pe_ix ix_tup (pe_ix ix_list (pv 4) (pe_un un_neg pe_int) (fun _ _ => rfl)) pe_int (fun _ _ => rfl)) pa_nil))) (pa_cons (pe_tup (pa_cons (pv 3) (pa_cons (pe_call G_law_strange (hr.mono (by decide)) (by rfl) T.g_law_strange T.d_law_strange.kp b_law_strange .nil pass0 (pa_cons (pe_ix ix_list (pv 2) pe_int (fun _ _ => rfl)) pa_nil)) pa_nil))) pa_nil)))))))
      (Evl.pss_cut (ps_if (pt_cmpR (op_neD hr.units) (pv 1) (pe_lst pa_nil) (nomark _)) (pss_one (ps_expr (pe_bm PySem.F.plainAttrs_list PySem.F.slot_list_append PySem.F.type_list_append mt_append (pv 7) (pa_cons (pe_ix ix_list (pv 1) (pe_op op_mod (pe_ix ix_list (pv 2) pe_int (fun _ _ => rfl)) (pe_callB call_len_seq (by rfl) T.b_len PySem.boot_len (pa_cons (pv 1) pa_nil))) (fun _ _ => rfl)) pa_nil)))) pss_nil)
      (pss_cons (ps_set (i := 8) nd rfl (Or.inl rfl) (pe_op op_mod (pe_ix ix_list (pv 2) pe_int (fun _ _ => rfl)) (pe_op op_add (pe_callB call_len_seq (by rfl) T.b_len PySem.boot_len (pa_cons (pv 1) pa_nil)) pe_int)))
      (pss_one (ps_ret (pe_op op_cat (pe_op op_cat (pe_slice sl_list (pv 1) po_none (po_some (pv 8))) (pe_lst (pa_cons (pe_ix ix_list (pv 7) (pe_op op_mod (pe_ix ix_list (pv 2) pe_int (fun _ _ => rfl)) (pe_callB call_len_seq (by rfl) T.b_len PySem.boot_len (pa_cons (pv 7) pa_nil))) (fun _ _ => rfl)) pa_nil))) (pe_slice sl_list (pv 1) (po_some (pv 8)) po_none))))))))))), ?_⟩
    simp only [cxOf, Cx.nox, L2.start, List.map_cons, List.map_nil, List.length_cons, List.length_nil, Nat.reduceAdd, Nat.reduceSub, List.replicate, List.cons_append, List.nil_append]
    have tlo := tk.lo
    have thi := tk.hi
    have ohi := ok.hi
    obtain ⟨ta, tx, rfl, hta, htx⟩ := Z.dp_lst ht
    have htl := Z.dpa_len htx
    rw [List.length_map] at htl
    obtain ⟨oa, ox, rfl, hoa, hox⟩ := Z.dp_lst ho
    have hol := Z.dpa_len hox
    rw [List.length_map] at hol
    walk_at "z"
    refine Z.ixD hd sm 0 rfl fun w1 hw1 => ?_
    cases Z.dp_int hw1
    walk_at "z"
    refine Z.lenSeq (sm.seq hta) ?_
    rw [htl]
    walk_at "z"
    obtain ⟨n, hn, hnl⟩ : ∃ n : Nat, x0 % (ts.length : Int) = (n : Int) ∧ n < ts.length := ⟨(x0 % (ts.length : Int)).toNat, by have := Int.emod_nonneg x0 (show (ts.length : Int) ≠ 0 by omega); omega, by have := Int.emod_lt_of_pos x0 (show (0 : Int) < ts.length by omega); have := Int.emod_nonneg x0 (show (ts.length : Int) ≠ 0 by omega); omega⟩
    rw [hn]
    have etn : ts[n]? = some ts[n] := List.getElem?_eq_getElem hnl
    have htm := List.mem_of_getElem? etn
    generalize ts[n] = t at etn htm
    obtain ⟨tn, cok⟩ := tk.nm t htm
    have clo := cok.lo
    have chi := cok.hi
    have tn8 := tn.2.1
    refine Z.ixD ht sm n (d := tabD t) (by rw [List.getElem?_map, etn]; rfl) fun w1 hw1 => ?_
    refine Z.gtupD hw1 sm fun ys hys => ?_
    obtain ⟨y1, y2, rfl, hy1, hy2⟩ := Z.dpa2 hys
    cases Z.dp_str hy1
    obtain ⟨ca, cx, rfl, hca, hcx⟩ := Z.dp_lst hy2
    have hcl := Z.dpa_len hcx
    rw [List.length_map] at hcl
    walk_at "z"
    refine Z.ixD hd sm 1 rfl fun w1 hw1 => ?_
    cases Z.dp_int hw1
    refine ⟨F0, x1, 6, rfl, sm, by decide, fun F1 H1 nv zs hzl hzn hznd g1 hnv => ?_⟩
    obtain ⟨za, zx, rfl, hza, hzx⟩ := Z.dp_lst hnv
    have hzxl := Z.dpa_len hzx
    rw [List.length_map] at hzxl
    have W1 := (Z.Ws.init sm).ext g1
    walk_at "z"
    refine ⟨za, rfl, ⟨_, W1.fh.seq hza⟩, fun D hD => ?_⟩
    refine lc_it walk_list (fun i H' => Z.Ws [(D, .lst (((zs.take i).filter fun z => !decide (z ∈ t.2.map (·.1))).map .str))] F0 H F1 H') (W1.new hD) (fun i H' hi W => W.fh.seq hza) ?_ ?_
    · rintro i x H2 H3 hi W2 ⟨rfl, hx⟩
      obtain ⟨d, e1, e2⟩ := Z.dpa_ix hzx hx
      rw [List.getElem?_map] at e1
      obtain ⟨z, hzi, rfl⟩ := Option.map_eq_some_iff.mp e1
      cases Z.dp_str e2
      refine ⟨rfl, ?_⟩
      walk_at "z"
      refine ⟨ca, rfl, ⟨_, W2.fh.seq (g1.f.seq hca)⟩, fun E hE => ?_⟩
      refine lc_it walk_list (fun j H' => Z.Ws [(E, .lst (((t.2.take j).map (·.1)).map .str)), (D, .lst (((zs.take i).filter fun z => !decide (z ∈ t.2.map (·.1))).map .str))] F0 H F1 H') (W2.new hE) (fun j H' hj W => W.fh.seq (g1.f.seq hca)) ?_ ?_
      · rintro j x H4 H5 hj W3 ⟨rfl, hx⟩
        obtain ⟨d, e1, e2⟩ := Z.dpa_ix hcx hx
        rw [List.getElem?_map] at e1
        obtain ⟨c', hci, rfl⟩ := Option.map_eq_some_iff.mp e1
        refine Z.gtupD e2 (g1.f.trans W3.fh) fun zs hzs => ?_
        obtain ⟨z1, z2, rfl, hz1, hz2⟩ := Z.dpa2 hzs
        cases Z.dp_str hz1
        cases Z.dp_str hz2
        walk_at "z"
        refine ⟨rfl, ?_⟩
        walk_at "z"
        refine ⟨_, W3.at 0 rfl, by rw [List.length_map, List.length_map, List.length_take]; exact Nat.lt_of_le_of_lt (show _ ≤ 1000 by omega) (by decide), ?_⟩
        rw [List.take_add_one, hci, List.map_append, List.map_append]
        exact W3.set 0 rfl _
      · rintro H4 W3
        rw [hcl, List.take_length] at W3
        walk_at "z"
        refine notInS (SqL.of (W3.at 0 rfl)) ?_
        refine ⟨_, rfl, ?_⟩
        have el := filt_step (us := t.2.map (·.1)) hzi
        refine Z.iteN (fun h => ?_) (fun h => ?_)
        · walk_at "z"
          refine ⟨_, W3.at 1 rfl, ?_, ?_⟩
          · rw [List.length_map]
            exact Nat.lt_of_le_of_lt (Nat.le_trans (List.length_filter_le _ _) (show _ ≤ 1000 by rw [List.length_take]; omega)) (by decide)
          · rw [el, if_neg h, List.map_append]
            exact (W3.set 1 rfl _).pick [1] (by decide) rfl
        · rw [el, if_pos h, List.append_nil]
          exact W3.pick [1] (by decide) rfl
    · rintro H2 W2
      rw [hzxl, List.take_length] at W2
      obtain ⟨nz, nr, en, nz1, nz2⟩ := one_left (us := t.2.map (·.1)) hznd (by rw [List.length_map]; omega)
      walk_at "z"
      refine Z.ixL (i := 0) (v := .str nz) (SqL.of (W2.at 0 rfl)) (by rw [en]; rfl) ?_
      have W2 := W2.pick [] (L' := []) List.nodup_nil rfl
      walk_at "z"
      refine Z.ixD (Z.dp_same g1.f hd) W2.fh 1 rfl fun w1 hw1 => ?_
      cases Z.dp_int hw1
      refine ⟨F1, x1, 6, rfl, W2.fh, by decide, fun F4 H4 mv ys hyl hyn hynd g4 hmv => ?_⟩
      obtain ⟨ya, yx, rfl, hya, hyx⟩ := Z.dp_lst hmv
      have hyxl := Z.dpa_len hyx
      rw [List.length_map] at hyxl
      have W4 := W2.ext g4
      have s04 := g1.f.trans g4.f
      walk_at "z"
      refine ⟨ya, rfl, ⟨_, W4.fh.seq hya⟩, fun D hD => ?_⟩
      refine lc_it walk_list (fun i H' => Z.Ws [(D, .lst (((ys.take i).filter fun z => !decide (z ∈ ts.map (·.1))).map .str))] F0 H F4 H') (W4.new hD) (fun i H' hi W => W.fh.seq hya) ?_ ?_
      · rintro i x H5 H6 hi W5 ⟨rfl, hx⟩
        obtain ⟨d, e1, e2⟩ := Z.dpa_ix hyx hx
        rw [List.getElem?_map] at e1
        obtain ⟨z, hzi, rfl⟩ := Option.map_eq_some_iff.mp e1
        cases Z.dp_str e2
        refine ⟨rfl, ?_⟩
        walk_at "z"
        refine ⟨ta, rfl, ⟨_, W5.fh.seq (s04.seq hta)⟩, fun E hE => ?_⟩
        refine lc_it walk_list (fun j H' => Z.Ws [(E, .lst (((ts.take j).map (·.1)).map .str)), (D, .lst (((ys.take i).filter fun z => !decide (z ∈ ts.map (·.1))).map .str))] F0 H F4 H') (W5.new hE) (fun j H' hj W => W.fh.seq (s04.seq hta)) ?_ ?_
        · rintro j x H7 H8 hj W6 ⟨rfl, hx⟩
          obtain ⟨d, e1, e2⟩ := Z.dpa_ix htx hx
          rw [List.getElem?_map] at e1
          obtain ⟨t', hti, rfl⟩ := Option.map_eq_some_iff.mp e1
          refine Z.gtupD e2 (s04.trans W6.fh) fun zs hzs => ?_
          obtain ⟨z1, z2, rfl, hz1, hz2⟩ := Z.dpa2 hzs
          cases Z.dp_str hz1
          walk_at "z"
          refine ⟨rfl, ?_⟩
          walk_at "z"
          refine ⟨_, W6.at 0 rfl, by rw [List.length_map, List.length_map, List.length_take]; exact Nat.lt_of_le_of_lt (show _ ≤ 1000 by omega) (by decide), ?_⟩
          rw [List.take_add_one, hti, List.map_append, List.map_append]
          exact W6.set 0 rfl _
        · rintro H7 W6
          rw [htl, List.take_length] at W6
          walk_at "z"
          refine notInS (SqL.of (W6.at 0 rfl)) ?_
          refine ⟨_, rfl, ?_⟩
          have el := filt_step (us := ts.map (·.1)) hzi
          refine Z.iteN (fun h => ?_) (fun h => ?_)
          · walk_at "z"
            refine ⟨_, W6.at 1 rfl, ?_, ?_⟩
            · rw [List.length_map]
              exact Nat.lt_of_le_of_lt (Nat.le_trans (List.length_filter_le _ _) (show _ ≤ 1000 by rw [List.length_take]; omega)) (by decide)
            · rw [el, if_neg h, List.map_append]
              exact (W6.set 1 rfl _).pick [1] (by decide) rfl
          · rw [el, if_pos h, List.append_nil]
            exact W6.pick [1] (by decide) rfl
      · rintro H5 W5
        rw [hyxl, List.take_length] at W5
        obtain ⟨mz, mr, em, mz1, mz2⟩ := one_left (us := ts.map (·.1)) hynd (by rw [List.length_map]; omega)
        walk_at "z"
        refine Z.ixL (i := 0) (v := .str mz) (SqL.of (W5.at 0 rfl)) (by rw [em]; rfl) ?_
        have W5 := W5.pick [] (L' := []) List.nodup_nil rfl
        walk_at "z"
        have hc0 : t.2[0]? = some (t.2[0]'(by omega)) := List.getElem?_eq_getElem _
        generalize t.2[0]'(by omega) = c0 at hc0
        have hcol : Dp K F4 (.ref ca) (.list (t.2.map pairD)) := Z.dp_same s04 hy2
        refine Z.ixD hcol W5.fh 0 (d := pairD c0) (by rw [List.getElem?_map, hc0]; rfl) fun w2 hw2 => ?_
        walk_at "z"
        refine Z.ixT hw2 W5.fh 0 rfl fun w1 hw1 => ?_
        cases Z.dp_str hw1
        walk_at "z"
        refine Z.tupX (K := K) W5 (.cons (.str t.1) (.cons (.str c0.1) .nil)) fun a1 F7 H7 W7 s7 e1 => ?_
        walk_at "z"
        refine Z.tupX (K := K) W7 (.cons (.str t.1) (.cons (.str nz) .nil)) fun a2 F8 H8 W8 s8 e2 => ?_
        walk_at "z"
        refine ⟨_, rfl, ?_⟩
        refine Z.ixDz (Z.dp_same (s7.trans s8) hcol) W8.fh (by rw [List.length_map]; show -(t.2.length : Int) ≤ -1; omega) (by rw [List.length_map]; show (-1 : Int) < _; omega) fun j dj wj hj hjz hwj => ?_
        rw [List.getElem?_map] at hj
        obtain ⟨cl, hcl1, rfl⟩ := Option.map_eq_some_iff.mp hj
        have hclm := List.mem_of_getElem? hcl1
        walk_at "z"
        refine Z.ixT hwj W8.fh 0 rfl fun w1 hw1 => ?_
        cases Z.dp_str hw1
        walk_at "z"
        refine Z.tupX (K := K) W8 (.cons (.str mz) (.cons (.str cl.1) .nil)) fun a3 F9 H9 W9 s9 e3 => ?_
        walk_at "z"
        refine Z.tupX (K := K) W9 (.cons (.str t.1) .nil) fun a4 F10 H10 W10 s10 e4 => ?_
        walk_at "z"
        refine Z.tupX (K := K) W10 (.cons (.str t.1) (.cons (.str nz) (.cons (.str nz) .nil))) fun a5 F11 H11 W11 s11 e5 => ?_
        walk_at "z"
        refine Z.lstX (K := K) W11 (.cons (.str t.1) (.cons (.str nz) .nil)) fun a6 F12 H12 W12 s12 e6 => ?_
        walk_at "z"
        refine Z.lstW W12 fun q13 H13 W13 => ?_
        have s412 : Same F4 F12 := s7.trans (s8.trans (s9.trans (s10.trans (s11.trans s12))))
        walk_at "z"
        refine Z.ixD (Z.dp_same (s04.trans s412) hd) W13.fh 2 rfl fun w1 hw1 => ?_
        cases Z.dp_int hw1
        refine ⟨F12, x2, rfl, W13.fh, p2, fun F14 H14 sv sd g14 hsv hsn hsf hsf3 => ?_⟩
        have W14 := W13.ext g14
        walk_at "z"
        refine ⟨_, rfl, ?_⟩
        refine Z.ixDz (Z.dp_same (s412.trans g14.f) hcol) W14.fh (by rw [List.length_map]; show -(t.2.length : Int) ≤ -1; omega) (by rw [List.length_map]; show (-1 : Int) < _; omega) fun j dj wj hj hjz hwj => ?_
        rw [List.getElem?_map] at hj
        obtain ⟨cl2, hcl2, rfl⟩ := Option.map_eq_some_iff.mp hj
        have hclm2 := List.mem_of_getElem? hcl2
        walk_at "z"
        refine Z.ixT hwj W14.fh 0 rfl fun w1 hw1 => ?_
        cases Z.dp_str hw1
        walk_at "z"
        refine Z.tupX (K := K) W14 (.cons hsv (.cons (.str cl2.1) .nil)) fun a7 F15 H15 W15 s15 e7 => ?_
        walk_at "z"
        have s415 := s412.trans (g14.f.trans s15)
        refine Z.ixD (Z.dp_same (s04.trans s415) hd) W15.fh 2 rfl fun w1 hw1 => ?_
        cases Z.dp_int hw1
        refine ⟨F15, x2, rfl, W15.fh, p2, fun F16 H16 sv2 sd2 g16 hsv2 hsn2 hsf2 hsf32 => ?_⟩
        have W16 := W15.ext g16
        walk_at "z"
        refine Z.tupX (K := K) W16 (.cons (.str t.1) (.cons hsv2 .nil)) fun a8 F17 H17 W17 s17 e8 => ?_
        walk_at "z"
        refine Z.lstW W17 fun q18 H18 W18 => ?_
        refine Z.catW W18 (W18.at 1 rfl) (W18.at 0 rfl) (by simp only [List.length_cons, List.length_nil]; omega) fun q19 H19 W19 => ?_
        have W20 : Z.Ws [(q19, .lst ([a1, a2, a3, a4, a5, a6] ++ [.str t.1, .non, a7, a8]))] F0 H F17 H19 := W19.pick [0] (by decide) rfl
        have s017 : Same F0 F17 := s04.trans (s415.trans (g16.f.trans s17))
        have sa : ∀ {Fi : Hp}, Same Fi F12 → Same Fi F17 := fun h => h.trans (g14.f.trans (s15.trans (g16.f.trans s17)))
        have hall : Z.DXs K F17 ([a1, a2, a3, a4, a5, a6] ++ [.str t.1, .non, a7, a8])
            [.tuple [.str t.1, .str c0.1], .tuple [.str t.1, .str nz], .tuple [.str mz, .str cl.1], .tuple [.str t.1], .tuple [.str t.1, .str nz, .str nz], .list [.str t.1, .str nz], .str t.1, .none, .tuple [sd, .str cl2.1], .tuple [.str t.1, sd2]] :=
          .cons (Z.dx_same (sa (s8.trans (s9.trans (s10.trans (s11.trans s12))))) e1) (.cons (Z.dx_same (sa (s9.trans (s10.trans (s11.trans s12)))) e2) (.cons (Z.dx_same (sa (s10.trans (s11.trans s12))) e3)
            (.cons (Z.dx_same (sa (s11.trans s12)) e4) (.cons (Z.dx_same (sa s12) e5) (.cons (Z.dx_same (sa (Same.refl _)) e6) (.cons (.str _) (.cons .non (.cons (Z.dx_same (g16.f.trans s17) e7) (.cons e8 .nil)))))))))
        have good : ∀ e ∈ [PyData.tuple [.str t.1, .str c0.1], .tuple [.str t.1, .str nz], .tuple [.str mz, .str cl.1], .tuple [.str t.1], .tuple [.str t.1, .str nz, .str nz], .list [.str t.1, .str nz], .str t.1, .none, .tuple [sd, .str cl2.1], .tuple [.str t.1, sd2]], BadO ts os e ∧ Fit1 e ∧ Fit2 e := by
          have nf : Fit1 (.str t.1) := by show Str.length _ ≤ _; omega
          have f0 : Fit1 (.str c0.1) := by have := (cok.nm c0 (List.mem_of_getElem? hc0)).1.2.1; show Str.length _ ≤ _; omega
          have f1 : Fit1 (.str nz) := by have := (hzn nz nz1).2.1; show Str.length _ ≤ _; omega
          have f2 : Fit1 (.str mz) := by have := (hyn mz mz1).2.1; show Str.length _ ≤ _; omega
          have f3 : Fit1 (.str cl.1) := by have := (cok.nm cl hclm).1.2.1; show Str.length _ ≤ _; omega
          have f4 : Fit1 (.str cl2.1) := by have := (cok.nm cl2 hclm2).1.2.1; show Str.length _ ≤ _; omega
          have two : ∀ {a b : PyData}, Fit1 a → Fit1 b → Fit1 (.tuple [a, b]) ∧ Fit2 (.tuple [a, b]) := fun ha hb => ⟨trivial, fun d hd => by
            simp only [List.mem_cons, List.not_mem_nil, or_false] at hd
            rcases hd with rfl | rfl
            · exact ha
            · exact hb⟩
          intro e he
          simp only [List.mem_cons, List.not_mem_nil, or_false] at he
          rcases he with rfl | rfl | rfl | rfl | rfl | rfl | rfl | rfl | rfl | rfl
          · exact ⟨bo_key tk htm hc0, two nf f0⟩
          · exact ⟨bo_none tk htm nz2, two nf f1⟩
          · exact ⟨bo_lost mz2, two f2 f3⟩
          · refine ⟨fun o e _ => by simp [pairD] at e, trivial, fun d hd => ?_⟩
            rw [List.mem_singleton.mp hd]
            exact nf
          · refine ⟨fun o e _ => by simp [pairD] at e, trivial, fun d hd => ?_⟩
            simp only [List.mem_cons, List.not_mem_nil, or_false] at hd
            rcases hd with rfl | rfl | rfl
            · exact nf
            · exact f1
            · exact f1
          · exact ⟨fun o e _ => by simp [pairD] at e, trivial, trivial⟩
          · exact ⟨fun o e _ => by simp [pairD] at e, nf, trivial⟩
          · exact ⟨fun o e _ => by simp [pairD] at e, trivial, trivial⟩
          · exact ⟨bo_str1 tk hsn, two hsf f4⟩
          · exact ⟨bo_str2 tk hsn2, two nf hsf2⟩
        generalize [PyData.tuple [.str t.1, .str c0.1], .tuple [.str t.1, .str nz], .tuple [.str mz, .str cl.1], .tuple [.str t.1], .tuple [.str t.1, .str nz, .str nz], .list [.str t.1, .str nz], .str t.1, .none, .tuple [sd, .str cl2.1], .tuple [.str t.1, sd2]] = dall at hall good
        have l10 : ([a1, a2, a3, a4, a5, a6] ++ [.str t.1, .non, a7, a8]).length = 10 := by simp
        generalize [a1, a2, a3, a4, a5, a6] ++ [.str t.1, .non, a7, a8] = vall at hall W20 l10 ⊢
        walk_at "z"
        refine Z.cut (M := fun σ' H' => (∃ v4 v9 v10 v11 v12 v13 v14 v15, σ' = [some (.ref ta), some (.ref oa), some dv, some (.str t.1), some (.ref ca), v4, v9, some (.ref q19), v10, v11, v12, v13, v14, v15]) ∧ ∃ F' vs ds, Z.Ws [(q19, .lst vs)] F0 H F' H' ∧ Same F17 F' ∧ Z.DXs K F' vs ds ∧ (∀ e ∈ ds, BadO ts os e ∧ Fit1 e ∧ Fit2 e) ∧ 1 ≤ vs.length ∧ vs.length ≤ 11) ?_ ?_
        · walk_at "z"
          refine Z.lstD (K := K) W20 .nil fun r F21 H21 W21 s21 hr => ?_
          have s021 := s017.trans s21
          refine ⟨_, _, Z.dp_same (s021.trans W21.fh) ho, Z.dp_same W21.fh hr, shaped_pairsL (fun o h => pairOk_of (ok.pair tk o h)), shaped_pairsL (os := []) (fun o h => nomatch h), ?_⟩
          rw [eqv_nil]
          by_cases er : os = []
          · rw [decide_eq_true er]
            walk_at "z"
            exact ⟨⟨_, _, _, _, _, _, _, _, rfl⟩, F21, _, _, W21, s21, Z.dxs_same s21 hall, good, by omega, by omega⟩
          · rw [decide_eq_false er]
            have hne := er
            have hop : 0 < os.length := List.length_pos_iff.mpr hne
            walk_at "z"
            refine ⟨.inl ⟨rfl, _, SqL.of (W21.at 0 rfl)⟩, ?_⟩
            walk_at "z"
            refine Z.ixD (Z.dp_same s021 hd) W21.fh 2 rfl fun w1 hw1 => ?_
            cases Z.dp_int hw1
            walk_at "z"
            refine Z.lenSeq (W21.fh.seq (s021.seq hoa)) ?_
            rw [hol]
            walk_at "z"
            refine ixDa (Z.dp_same s021 ho) W21.fh (Int.emod_nonneg _ (by omega)) (by rw [List.length_map]; exact Int.emod_lt_of_pos _ (by omega)) fun w d hd' _ hw => ?_
            obtain ⟨o, hom, rfl⟩ := List.mem_map.mp hd'
            walk_at "z"
            refine Z.appW W21 0 rfl (fun H22 W22 => ?_) (by omega)
            walk_at "z"
            refine ⟨⟨_, _, _, _, _, _, _, _, rfl⟩, F21, _, _, W22, s21, Z.dxs_app (Z.dxs_same s21 hall) (.cons (Z.dx_of hw) .nil), fun e he => ?_, by rw [List.length_append]; omega, by rw [List.length_append, l10]; exact Nat.le_refl _⟩
            rcases List.mem_append.mp he with h | h
            · exact good e h
            · rw [List.mem_singleton.mp h]
              refine ⟨fun o' e _ => ?_, fit_ords tk ok _ hd'⟩
              rw [← pairD_inj e]
              exact hom
        · rintro σ' H21 ⟨⟨v4, v9, v10, v11, v12, v13, v14, v15, rfl⟩, F21, vs, ds, W21, s21, hds, hgood, hv1, hv2⟩
          have s021 := s017.trans s21
          walk_at "z"
          refine Z.ixD (Z.dp_same s021 hd) W21.fh 3 rfl fun w1 hw1 => ?_
          cases Z.dp_int hw1
          walk_at "z"
          refine Z.lenSeq (W21.fh.seq (s021.seq hoa)) ?_
          rw [hol]
          walk_at "z"
          obtain ⟨n', hn', hnl'⟩ : ∃ n : Nat, x3 % ((os.length : Int) + 1) = (n : Int) ∧ n < os.length + 1 := ⟨(x3 % ((os.length : Int) + 1)).toNat, by have := Int.emod_nonneg x3 (show ((os.length : Int) + 1) ≠ 0 by omega); omega, by have := Int.emod_lt_of_pos x3 (show (0 : Int) < (os.length : Int) + 1 by omega); have := Int.emod_nonneg x3 (show ((os.length : Int) + 1) ≠ 0 by omega); omega⟩
          rw [hn']
          refine Z.slW W21 (W21.fh.seq (s021.seq hoa)) fun q22 H22 W22 => ?_
          walk_at "z"
          refine Z.ixD (Z.dp_same s021 hd) W22.fh 4 rfl fun w1 hw1 => ?_
          cases Z.dp_int hw1
          walk_at "z"
          refine Z.lenSeq (SqL.of (W22.at 1 rfl)) ?_
          refine Z.ic (by show (0 : Int) < _; omega) ?_
          refine ixXc (SqL.of (W22.at 1 rfl)) hds (Int.emod_nonneg _ (by omega)) (Int.emod_lt_of_pos _ (by omega)) fun ev ed hed hev => ?_
          walk_at "z"
          refine Z.lstW W22 fun q23 H23 W23 => ?_
          refine Z.catW W23 (W23.at 1 rfl) (W23.at 0 rfl) (by have := cutV_len (xs := ox) (lo := none) (hi := some (n' : Int)); simp only [List.length_cons, List.length_nil]; omega) fun q24 H24 W24 => ?_
          walk_at "z"
          refine Z.slW W24 (W24.fh.seq (s021.seq hoa)) fun q25 H25 W25 => ?_
          refine Z.catW W25 (W25.at 1 rfl) (W25.at 0 rfl) (by have := cutV_len (xs := ox) (lo := none) (hi := some (n' : Int)); have := cutV_len (xs := ox) (lo := some (n' : Int)) (hi := none); simp only [List.length_append, List.length_cons, List.length_nil]; omega) fun q26 H26 W26 => ?_
          have hox3 := Z.dxs_of (Z.dpa_same s021 hox)
          have hbl : Z.DXs K F21 (cutV ox none (some (n' : Int)) ++ [ev] ++ cutV ox (some (n' : Int)) none) ((os.map pairD).take n' ++ [ed] ++ (os.map pairD).drop n') := by
            rw [← cutD_head (os.map pairD) n' (by rw [List.length_map]; omega), ← cutD_tail]
            exact Z.dxs_app (Z.dxs_app (Z.dxs_cut hox3) (.cons hev .nil)) (Z.dxs_cut hox3)
          obtain ⟨F27, W27, s27, g27⟩ := W26.frz 0 rfl
          obtain ⟨hg1, hg2⟩ := hgood ed hed
          refine k F27 H26 _ _ W27.g (.lst (SqL.of g27) (Z.dxs_same s27 hbl)) (bad_ord n' hg1) (fun e => by cases e) fun e he => ?_
          rcases List.mem_append.mp he with he | he
          · rcases List.mem_append.mp he with he | he
            · exact fit_ords tk ok e (List.mem_of_mem_take he)
            · rw [List.mem_singleton.mp he]
              exact hg2
          · exact fit_ords tk ok e (List.mem_of_mem_drop he)

theorem fit_pairs {ds : List PyData} (h : ∀ e ∈ ds, ∃ a b : Str, e = .tuple [.str a, .str b] ∧ a.length ≤ 8 ∧ b.length ≤ 8) : ∀ e ∈ ds, Fit1 e ∧ Fit2 e := fun e he => by
  obtain ⟨a, b, rfl, ha, hb⟩ := h e he
  refine ⟨trivial, fun d hd => ?_⟩
  simp only [List.mem_cons, List.not_mem_nil, or_false] at hd
  rcases hd with rfl | rfl
  · show Str.length _ ≤ _
    omega
  · show Str.length _ ≤ _
    omega
theorem acct_len {ds : List PyData} {ts : List Tab} (h : AccT (.list ds) ts) : ds.length = ts.length ∧ 1 ≤ ts.length ∧ ts.length ≤ 4 := by
  obtain ⟨tds, h1, h2, _, tk⟩ := h
  have e := seqD_of (d := .list ds) (ds := ds) rfl h1
  exact ⟨by rw [e]; exact h2, tk.lo, tk.hi⟩
def Hopeless (td od : PyData) : Prop := ∀ ts, AccT td ts → od ≠ .none ∧ ∀ os, ¬ AccO ts od os
theorem hl_tab {td od : PyData} (h : ∀ ts, ¬ AccT td ts) : Hopeless td od := fun ts a => absurd a (h ts)
def sp_law_whole (K : PySem.W.Frag) (A : Adr) : Sp := fun vs H Q _ => ∃ (F : Hp) (dv : V) (x0 x1 x2 : Int), vs = [dv] ∧ Same F H ∧ Dp K F dv (.list ([x0, x1, x2].map .int)) ∧ 0 ≤ x0 ∧ 0 ≤ x1 ∧ 0 ≤ x2 ∧
  ∀ F' H' r td od, Z.Gr F H F' H' → Z.DX K F' r (.tuple [td, od]) → Fit5 td → Fit3 od → Hopeless td od → Q r H'
theorem ok_law_whole (T : Txt K mg A) : ∃ fd, FnOk P w K mg base CX0 3 A.f_law_whole fd ["_law_draws_here"] (sp_law_whole K A) ∧ Binds K fd ["_law_draws_here"] [] := by
  have ⟨fd, F, b⟩ := T.d_law_whole
  refine ⟨fd, F.ok sc_law_whole (fun vs H Q E h => ?_) (fun cdv Ar outer s H vs Q E hr h => ?_), b⟩
  · obtain ⟨F0, dv, x0, x1, x2, rfl, _⟩ := h
    rfl
  · obtain ⟨F0, dv, x0, x1, x2, rfl, sm, hd, p0, p1, p2, k⟩ := h
    have nd := sc_law_whole.nd
    have hu := hu_of hr
    have ⟨fd_law_names, G_law_names, b_law_names⟩ := ok_law_names (P := P) (w := w) (base := base) T
    refine ⟨_, (pss_cons (ps_set (i := 1) nd rfl (Or.inr rfl) (pe_call G_law_names (hr.mono (by decide)) (by rfl) T.g_law_names T.d_law_names.kp b_law_names .nil pass0 (pa_cons (pe_ix ix_list (pv 0) pe_int (fun _ _ => rfl)) (pa_cons pe_int pa_nil))))
      (pss_cons (ps_setLc (i := 2) rfl nd rfl rfl (sw_true rfl rfl rfl (by decide +kernel)) (own := [("_law_k", 5)]) (pi_range1 rfl T.b_range (pa_cons pe_int pa_nil)) (blkOk_by (own := [("_law_k", 5)]) (N := ["_law_draws_here", "_law_names_here", "_law_columns", "_law_tables", "_law_orders", "_law_k"]) (sc := defScope s_law_whole) (by decide +kernel)) (fun _ _ _ _ _ => pg_name (i := 5) nd rfl (Or.inl rfl)) (fun _ _ _ _ _ => pts_nil) (fun _ _ _ _ _ => (pe_tup (pa_cons (pe_ix (ix_listK (K := K) rfl) (pv 1) (pv 5) (fun _ _ => rfl)) (pa_cons pe_str pa_nil)))))
      (pss_cons (ps_setLc (i := 3) rfl nd rfl rfl (sw_true rfl rfl rfl (by decide +kernel)) (own := [("_law_k", 5)]) (pi_range1 rfl T.b_range (pa_cons pe_int pa_nil)) (blkOk_by (own := [("_law_k", 5)]) (N := ["_law_draws_here", "_law_names_here", "_law_columns", "_law_tables", "_law_orders", "_law_k"]) (sc := defScope s_law_whole) (by decide +kernel)) (fun _ _ _ _ _ => pg_name (i := 5) nd rfl (Or.inl rfl)) (fun _ _ _ _ _ => pts_nil) (fun _ _ _ _ _ => (pe_tup (pa_cons (pe_ix (ix_listK (K := K) rfl) (pv 1) (pv 5) (fun _ _ => rfl)) (pa_cons (pe_lst (pa_cons (pe_tup (pa_cons (pe_ix (ix_listK (K := K) rfl) (pv 1) pe_int (fun _ _ => rfl)) (pa_cons pe_str pa_nil))) pa_nil)) pa_nil)))))
      (pss_cons (ps_setLc (i := 4) rfl nd rfl rfl (sw_true rfl rfl rfl (by decide +kernel)) (own := [("_law_k", 5)]) (pi_range1 rfl T.b_range (pa_cons pe_int pa_nil)) (blkOk_by (own := [("_law_k", 5)]) (N := ["_law_draws_here", "_law_names_here", "_law_columns", "_law_tables", "_law_orders", "_law_k"]) (sc := defScope s_law_whole) (by decide +kernel)) (fun _ _ _ _ _ => pg_name (i := 5) nd rfl (Or.inl rfl)) (fun _ _ _ _ _ => pts_nil) (fun _ _ _ _ _ => (pe_tup (pa_cons (pe_ix (ix_listK (K := K) rfl) (pv 1) (pe_op op_fdivW (pv 5) pe_int) (fun _ _ => rfl)) (pa_cons (pe_ix (ix_listK (K := K) rfl) (pv 1) (pe_op op_add pe_int (pe_op op_mod (pv 5) pe_int)) (fun _ _ => rfl)) pa_nil)))))
      (pss_cons (ps_if (pt_cmpR op_lt (pe_op op_mod (pe_ix ix_list (pv 0) pe_int (fun _ _ => rfl)) pe_int) pe_int (nomark _)) (pss_one (ps_ret (pe_tup (pa_cons (pe_ix ix_list (pe_lst (pa_cons (pe_lst pa_nil) (pa_cons (pv 3) pa_nil))) (pe_op op_mod (pe_ix ix_list (pv 0) pe_int (fun _ _ => rfl)) pe_int) (fun _ _ => rfl)) (pa_cons (pe_lst pa_nil) pa_nil))))) pss_nil)
      (pss_cons (ps_if (pt_cmpR op_eq (pe_op op_mod (pe_ix ix_list (pv 0) pe_int (fun _ _ => rfl)) pe_int) pe_int (nomark _)) (pss_one (ps_ret (pe_tup (pa_cons (pe_lst (pa_cons (pe_tup (pa_cons (pe_ix ix_list (pv 1) pe_int (fun _ _ => rfl)) (pa_cons (pv 2) pa_nil))) (pa_cons (pe_tup (pa_cons (pe_ix ix_list (pv 1) pe_int (fun _ _ => rfl)) (pa_cons (pv 2) pa_nil))) pa_nil))) (pa_cons (pe_slice sl_list (pv 4) po_none (po_some pe_int)) pa_nil))))) pss_nil)
      (pss_one (ps_ret (pe_tup (pa_cons (pe_ix ix_list (pe_lst (pa_cons pe_non (pa_cons pe_int (pa_cons pe_str (pa_cons pe_dnewK (pa_cons pe_bl pa_nil)))))) (pe_op op_mod (pe_ix ix_list (pv 0) pe_int (fun _ _ => rfl)) pe_int) (fun _ _ => rfl)) (pa_cons (pe_ix ix_list (pe_lst (pa_cons (pe_lst pa_nil) (pa_cons pe_non pa_nil))) (pe_op op_mod (pe_ix ix_list (pv 0) pe_int (fun _ _ => rfl)) pe_int) (fun _ _ => rfl)) pa_nil))))))))))), ?_⟩
    simp only [cxOf, Cx.nox, L2.start, List.map_cons, List.map_nil, List.length_cons, List.length_nil, Nat.reduceAdd, Nat.reduceSub, List.replicate, List.cons_append, List.nil_append]
    walk_at "z"
    refine Z.ixD hd sm 0 rfl fun w1 hw1 => ?_
    cases Z.dp_int hw1
    refine ⟨F0, x0, 5, rfl, sm, by decide, fun F1 H1 nv zs hzl hzn hznd g1 hnv => ?_⟩
    have W1 := (Z.Ws.init sm).ext g1
    have nmAt : ∀ {F' H' : Hp} {Q : VK} {z : Int}, Same F1 F' → Same F' H' → 0 ≤ z → z < 5 → (∀ y : Str, y.length ≤ 8 → Q (.str y) H') → rIxL K nv (.int z) H' Q := fun s1 s2 h0 h1 q => by
      refine ixDa (Z.dp_same s1 hnv) s2 h0 (by rw [List.length_map]; omega) fun w d hd _ hw => ?_
      obtain ⟨y, hy, rfl⟩ := List.mem_map.mp hd
      cases Z.dp_str hw
      exact q y (hzn y hy).2.1
    walk_at "z"
    refine ⟨4, rfl, by decide, by decide, fun D hD => ?_⟩
    refine lc_range (lo := 0) (n := 4) (fun i H' => ∃ F' vs ds, Z.Ws [(D, .lst vs)] F0 H F' H' ∧ Same F1 F' ∧ Z.DXs K F' vs ds ∧ ds.length = i ∧ ∀ e ∈ ds, ∃ a b : Str, e = .tuple [.str a, .str b] ∧ a.length ≤ 8 ∧ b.length ≤ 8) ⟨F1, [], [], W1.new hD, Same.refl _, .nil, rfl, fun e h => nomatch h⟩ ?_ ?_
    · rintro i H2 hi ⟨F2, vs, ds, W2, s2, hds, hdl, hfit⟩
      refine ⟨rfl, ?_⟩
      walk_at "z"
      refine nmAt s2 W2.fh (by omega) (by omega) fun y hy => ?_
      walk_at "z"
      refine Z.tupX (K := K) W2 (.cons (.str _) (.cons (.str _) .nil)) fun r F3 H3 W3 s3 hr => ?_
      have hvl := Z.dxs_len hds
      refine ⟨vs, W3.at 0 rfl, Nat.lt_of_le_of_lt (show vs.length ≤ 1000 by omega) (by decide), F3, _, _, W3.set 0 rfl _, s2.trans s3, Z.dxs_app (Z.dxs_same s3 hds) (.cons hr .nil), by rw [List.length_append, hdl]; rfl, fun e he => ?_⟩
      rcases List.mem_append.mp he with h | h
      · exact hfit e h
      · exact ⟨y, "word", List.mem_singleton.mp h, hy, by decide +kernel⟩
    rintro H2 ⟨F2, cvs, cds, W2, s2, hcds, hcdl, hcfit⟩
    obtain ⟨F3, W3, s3, g3⟩ := W2.frz 0 rfl
    have W3 := W3.pick [] (L' := []) List.nodup_nil rfl
    have hcx : Z.DX K F3 (.ref D) (.list cds) := .lst (SqL.of g3) (Z.dxs_same s3 hcds)
    have hcf : Fit3 (.list cds) := fit_pairs hcfit
    have s13 := s2.trans s3
    walk_at "z"
    refine ⟨5, rfl, by decide, by decide, fun D2 hD2 => ?_⟩
    refine lc_range (lo := 0) (n := 5) (fun i H' => ∃ F' vs ds, Z.Ws [(D2, .lst vs)] F0 H F' H' ∧ Same F3 F' ∧ Z.DXs K F' vs ds ∧ ds.length = i ∧ ∀ e ∈ ds, Fit4 e) ⟨F3, [], [], W3.new hD2, Same.refl _, .nil, rfl, fun e h => nomatch h⟩ ?_ ?_
    · rintro i H4 hi ⟨F4, vs, ds, W4, s4, hds, hdl, hfit⟩
      refine ⟨rfl, ?_⟩
      walk_at "z"
      refine nmAt (s13.trans s4) W4.fh (by omega) (by omega) fun y hy => ?_
      walk_at "z"
      refine nmAt (s13.trans s4) W4.fh (by omega) (by omega) fun y2 hy2 => ?_
      walk_at "z"
      refine Z.tupX (K := K) W4 (.cons (.str y2) (.cons (.str _) .nil)) fun r5 F5 H5 W5 s5 hr5 => ?_
      walk_at "z"
      refine Z.lstX (K := K) W5 (.cons hr5 .nil) fun r6 F6 H6 W6 s6 hr6 => ?_
      walk_at "z"
      refine Z.tupX (K := K) W6 (.cons (.str y) (.cons hr6 .nil)) fun r7 F7 H7 W7 s7 hr7 => ?_
      have hvl := Z.dxs_len hds
      refine ⟨vs, W7.at 0 rfl, Nat.lt_of_le_of_lt (show vs.length ≤ 1000 by omega) (by decide), F7, _, _, W7.set 0 rfl _, s4.trans (s5.trans (s6.trans s7)), Z.dxs_app (Z.dxs_same (s5.trans (s6.trans s7)) hds) (.cons hr7 .nil), by rw [List.length_append, hdl]; rfl, fun e he => ?_⟩
      rcases List.mem_append.mp he with h | h
      · exact hfit e h
      · rw [List.mem_singleton.mp h]
        intro d hd
        simp only [List.mem_cons, List.not_mem_nil, or_false] at hd
        rcases hd with rfl | rfl
        · exact ⟨by show Str.length _ ≤ _; omega, trivial⟩
        · exact ⟨trivial, fit_pairs fun e he => ⟨y2, "number", List.mem_singleton.mp he, hy2, by decide +kernel⟩⟩
    rintro H4 ⟨F4, tvs, tds, W4, s4, htds, htdl, htfit⟩
    obtain ⟨F5, W5, s5, g5⟩ := W4.frz 0 rfl
    have W5 := W5.pick [] (L' := []) List.nodup_nil rfl
    have htx : Z.DX K F5 (.ref D2) (.list tds) := .lst (SqL.of g5) (Z.dxs_same s5 htds)
    have s35 := s4.trans s5
    have s15 := s13.trans s35
    walk_at "z"
    refine ⟨6, rfl, by decide, by decide, fun D3 hD3 => ?_⟩
    refine lc_range (lo := 0) (n := 6) (fun i H' => ∃ F' vs ds, Z.Ws [(D3, .lst vs)] F0 H F' H' ∧ Same F5 F' ∧ Z.DXs K F' vs ds ∧ ds.length = i ∧ ∀ e ∈ ds, ∃ a b : Str, e = .tuple [.str a, .str b] ∧ a.length ≤ 8 ∧ b.length ≤ 8) ⟨F5, [], [], W5.new hD3, Same.refl _, .nil, rfl, fun e h => nomatch h⟩ ?_ ?_
    · rintro i H6 hi ⟨F6, vs, ds, W6, s6, hds, hdl, hfit⟩
      refine ⟨rfl, ?_⟩
      walk_at "z"
      refine nmAt (s15.trans s6) W6.fh (by omega) (by omega) fun y hy => ?_
      walk_at "z"
      refine nmAt (s15.trans s6) W6.fh (by omega) (by omega) fun y2 hy2 => ?_
      walk_at "z"
      refine Z.tupX (K := K) W6 (.cons (.str y) (.cons (.str y2) .nil)) fun r7 F7 H7 W7 s7 hr7 => ?_
      have hvl := Z.dxs_len hds
      refine ⟨vs, W7.at 0 rfl, Nat.lt_of_le_of_lt (show vs.length ≤ 1000 by omega) (by decide), F7, _, _, W7.set 0 rfl _, s6.trans s7, Z.dxs_app (Z.dxs_same s7 hds) (.cons hr7 .nil), by rw [List.length_append, hdl]; rfl, fun e he => ?_⟩
      rcases List.mem_append.mp he with h | h
      · exact hfit e h
      · exact ⟨y, y2, List.mem_singleton.mp h, hy, hy2⟩
    rintro H6 ⟨F6, ovs, ods, W6, s6, hods, hodl, hofit⟩
    have s16 := s15.trans s6
    have s06 := g1.f.trans s16
    have hovl := Z.dxs_len hods
    walk_at "z"
    refine Z.ixD (Z.dp_same s06 hd) W6.fh 1 rfl fun w1 hw1 => ?_
    cases Z.dp_int hw1
    walk_at "z"
    refine Z.iteD (fun h2 => ?_) (fun h2 => ?_)
    · walk_at "z"
      refine Z.lstX (K := K) W6 .nil fun a1 F7 H7 W7 s7 e1 => ?_
      walk_at "z"
      refine Z.lstX (K := K) W7 (.cons e1 (.cons (Z.dx_same (s6.trans s7) htx) .nil)) fun a2 F8 H8 W8 s8 e2 => ?_
      walk_at "z"
      refine Z.ixD (Z.dp_same (s06.trans (s7.trans s8)) hd) W8.fh 1 rfl fun w1 hw1 => ?_
      cases Z.dp_int hw1
      walk_at "z"
      refine ixXa e2 W8.fh (by omega) (by simp only [List.length_cons, List.length_nil]; omega) fun v d hd hv => ?_
      walk_at "z"
      refine Z.lstX (K := K) W8 .nil fun a3 F9 H9 W9 s9 e3 => ?_
      walk_at "z"
      refine Z.tupX (K := K) W9 (.cons (Z.dx_same s9 hv) (.cons e3 .nil)) fun a4 F10 H10 W10 s10 e4 => ?_
      simp only [List.mem_cons, List.not_mem_nil, or_false] at hd
      rcases hd with rfl | rfl
      · exact k F10 H10 _ _ _ W10.g e4 (fun e he => nomatch he) (fun e he => nomatch he) (hl_tab fun ts h => by have := acct_len h; simp only [List.length_nil] at this; omega)
      · exact k F10 H10 _ _ _ W10.g e4 htfit (fun e he => nomatch he) (hl_tab fun ts h => by have := acct_len h; omega)
    · walk_at "z"
      refine Z.ixD (Z.dp_same s06 hd) W6.fh 1 rfl fun w1 hw1 => ?_
      cases Z.dp_int hw1
      walk_at "z"
      refine Z.iteD (fun h3 => ?_) (fun h3 => ?_)
      · walk_at "z"
        refine nmAt s16 W6.fh (by omega) (by omega) fun y hy => ?_
        walk_at "z"
        refine Z.tupX (K := K) W6 (.cons (.str y) (.cons (Z.dx_same (s35.trans s6) hcx) .nil)) fun a1 F7 H7 W7 s7 e1 => ?_
        walk_at "z"
        refine nmAt (s16.trans s7) W7.fh (by omega) (by omega) fun y2 hy2 => ?_
        walk_at "z"
        refine Z.tupX (K := K) W7 (.cons (.str y2) (.cons (Z.dx_same (s35.trans (s6.trans s7)) hcx) .nil)) fun a2 F8 H8 W8 s8 e2 => ?_
        walk_at "z"
        refine Z.lstX (K := K) W8 (.cons (Z.dx_same s8 e1) (.cons e2 .nil)) fun a3 F9 H9 W9 s9 e3 => ?_
        walk_at "z"
        refine Z.slW W9 (SqL.of (W9.at 0 rfl)) fun q10 H10 W10 => ?_
        have ecut : Z.DXs K F9 (cutV ovs none (some 5)) (ods.take 5) := by
          rw [← cutD_head ods 5 (by omega)]
          exact Z.dxs_cut (Z.dxs_same (s7.trans (s8.trans s9)) hods)
        obtain ⟨F11, W11, s11, g11⟩ := W10.frz 0 rfl
        walk_at "z"
        refine Z.tupX (K := K) W11 (.cons (Z.dx_same s11 e3) (.cons (.lst (SqL.of g11) (Z.dxs_same s11 ecut)) .nil)) fun a4 F12 H12 W12 s12 e4 => ?_
        have ff : ∀ {z : Str}, z.length ≤ 8 → Fit4 (.tuple [.str z, .list cds]) := fun hz d hd => by
          simp only [List.mem_cons, List.not_mem_nil, or_false] at hd
          rcases hd with rfl | rfl
          · exact ⟨by show Str.length _ ≤ _; omega, trivial⟩
          · exact ⟨trivial, hcf⟩
        refine k F12 H12 _ _ _ W12.g e4 (fun e he => ?_) (fit_pairs fun e he => hofit e (List.mem_of_mem_take he)) (fun ts h => ⟨fun e => by (cases e), fun os ho => ?_⟩)
        · simp only [List.mem_cons, List.not_mem_nil, or_false] at he
          rcases he with rfl | rfl
          · exact ff hy
          · exact ff hy2
        · have e := ho.seq (ds := ods.take 5) rfl
          have l := congrArg List.length e
          rw [List.length_map, List.length_take, hodl] at l
          have := ho.2.hi
          omega
      · walk_at "z"
        intro p7 hp7
        have W7 := W6.dat (o := .dK []) hp7
        have s7 := Z.same_new (o := .dK []) (W6.freeF hp7)
        have h7 : Z.DX K (upd F6 p7 (.dK [])) (.ref p7) (.dict []) := .dic upd_same
        generalize upd H6 p7 (.dK []) = H7 at W7 ⊢
        generalize upd F6 p7 (.dK []) = F7 at W7 s7 h7
        walk_at "z"
        refine Z.lstX (K := K) W7 (.cons .non (.cons (.int _) (.cons (.str _) (.cons h7 (.cons (.bl _) .nil))))) fun a1 F8 H8 W8 s8 e1 => ?_
        walk_at "z"
        refine Z.ixD (Z.dp_same (s06.trans (s7.trans s8)) hd) W8.fh 1 rfl fun w1 hw1 => ?_
        cases Z.dp_int hw1
        walk_at "z"
        refine ixXa e1 W8.fh (by omega) (by simp only [List.length_cons, List.length_nil]; omega) fun v d hdm hv => ?_
        walk_at "z"
        refine Z.lstX (K := K) W8 .nil fun a2 F9 H9 W9 s9 e2 => ?_
        walk_at "z"
        refine Z.lstX (K := K) W9 (.cons e2 (.cons .non .nil)) fun a3 F10 H10 W10 s10 e3 => ?_
        walk_at "z"
        refine Z.ixD (Z.dp_same (s06.trans (s7.trans (s8.trans (s9.trans s10)))) hd) W10.fh 2 rfl fun w1 hw1 => ?_
        cases Z.dp_int hw1
        walk_at "z"
        refine ixXa e3 W10.fh (by omega) (by simp only [List.length_cons, List.length_nil]; omega) fun v2 d2 hd2 hv2 => ?_
        walk_at "z"
        refine Z.tupX (K := K) W10 (.cons (Z.dx_same (s9.trans s10) hv) (.cons hv2 .nil)) fun a4 F11 H11 W11 s11 e4 => ?_
        refine k F11 H11 _ _ _ W11.g e4 ?_ ?_ (hl_tab fun ts h => h.not ?_)
        · simp only [List.mem_cons, List.not_mem_nil, or_false] at hdm
          rcases hdm with rfl | rfl | rfl | rfl | rfl <;> exact trivial
        · simp only [List.mem_cons, List.not_mem_nil, or_false] at hd2
          rcases hd2 with rfl | rfl
          · exact fun e he => nomatch he
          · exact trivial
        · simp only [List.mem_cons, List.not_mem_nil, or_false] at hdm
          rcases hdm with rfl | rfl | rfl | rfl | rfl <;> rfl

theorem cutV_int (xs : List Int) (lo hi : Option Int) : ∃ ys : List Int, cutV (xs.map V.int) lo hi = ys.map V.int ∧ ys.length ≤ xs.length := by
  refine ⟨(xs.drop (HT.sIx xs.length 0 lo)).take (HT.sIx xs.length xs.length hi - HT.sIx xs.length 0 lo), ?_, ?_⟩
  · unfold cutV
    rw [List.length_map, List.map_take, List.map_drop]
  · rw [List.length_take, List.length_drop]
    omega
theorem tabs_acc {ts : List Tab} (tk : TabsOk ts) : AccT (.list (ts.map tabD)) ts :=
  ⟨_, .inl rfl, by rw [List.length_map], fun i e t he ht => by
    rw [List.getElem?_map, ht] at he
    cases he
    exact ⟨_, rfl, .inl rfl, (tk.nm t (List.mem_of_getElem? ht)).2⟩, tk⟩
theorem fit_tabs {ts : List Tab} (tk : TabsOk ts) : Fit5 (.list (ts.map tabD)) := fun e he => by
  obtain ⟨t, ht, rfl⟩ := List.mem_map.mp he
  exact fit_tab (tk.nm t ht).1 (tk.nm t ht).2
theorem hl_ord {td od : PyData} (hn : od ≠ .none) (h : ∀ ts os, ¬ AccO ts od os) : Hopeless td od := fun ts _ => ⟨hn, h ts⟩
theorem acco_no {ts : List Tab} {os : List (Str × Str)} {d e : PyData} (h : AccO ts d os) (hs : seqD d = some [e]) (hne : ∀ o : Str × Str, e ≠ pairD o) : False := by
  have e1 := h.seq hs
  match os, e1 with
  | [], e1 => simp at e1
  | o :: r, e1 => exact hne o (by simpa using (List.cons.inj e1).1)
theorem parE {i j : Nat} {ta : TA} {D : Ends} {σ : L2.St} {H : Hp} (h : ta σ H fun vs H1 => ∃ v w, vs = [v, w] ∧ D.nx ((σ.set i (some v)).set j (some w)) H1) : tPar i j ta D σ H := h
local macro_rules | `(tactic| walk_at "z1") => `(tactic| (with_reducible refine parE ?_))
def spLaw (K : PySem.W.Frag) : Sp := fun vs H Q _ => ∃ (a : Addr) (ns : List Int), vs = [.ref a] ∧ SqL K H a (ns.map V.int) ∧ ns.length ≤ 63 ∧ ∀ H', Q (.bl true) H'
theorem ok_law {f : Addr} {fd : FuncData} (F : Fun K "law" "law" s_law f fd) (T : Txt K mg A) : FnOk P w K mg base CX0 7 f fd ["_law_script"] (spLaw K) := by
  refine F.ok sc_law (fun vs H Q E h => ?_) (fun cdv Ar outer s H vs Q E hr h => ?_)
  · obtain ⟨a, ns, rfl, _⟩ := h
    rfl
  · obtain ⟨a, ns, rfl, hS, hlen, k⟩ := h
    have nd := sc_law.nd
    have hu := hu_of hr
    have ⟨fd_law_schema, G_law_schema, b_law_schema⟩ := ok_law_schema (P := P) (w := w) (base := base) T
    have ⟨fd_law_cell, G_law_cell, b_law_cell⟩ := ok_law_cell (P := P) (w := w) (base := base) T
    have ⟨fd_law_draws, G_law_draws, b_law_draws⟩ := ok_law_draws (P := P) (w := w) (base := base) T
    have ⟨fd_law_whole, G_law_whole, b_law_whole⟩ := ok_law_whole (P := P) (w := w) (base := base) T
    have ⟨fd_law_bad_order, G_law_bad_order, b_law_bad_order⟩ := ok_law_bad_order (P := P) (w := w) (base := base) T
    have ⟨fd_law_bad_table, G_law_bad_table, b_law_bad_table⟩ := ok_law_bad_table (P := P) (w := w) (base := base) T
    have ⟨fd_law_refused, G_law_refused, b_law_refused⟩ := ok_law_refused (P := P) (w := w) (base := base) T
    have ⟨fd_Schema_table_names, G_Schema_table_names, b_Schema_table_names⟩ := ok_Schema_table_names (P := P) (w := w) (base := base) T
    have ⟨fd_Schema___init__, G_Schema___init__, b_Schema___init__, ds_Schema___init__, vd_Schema___init__, bd_Schema___init__⟩ := ok_Schema___init__ (P := P) (w := w) (base := base) T
    refine ⟨_, (pss_cons (ps_asg (pe_call G_law_schema (hr.mono (by decide)) (by rfl) T.g_law_schema T.d_law_schema.kp b_law_schema .nil pass0 (pa_cons (pe_call G_law_cell (hr.mono (by decide)) (by rfl) T.g_law_cell T.d_law_cell.kp b_law_cell .nil pass0 (pa_cons (pv 0) (pa_cons pe_int pa_nil))) pa_nil)) (pg_tup rfl (pgs_cons (pg_name (i := 1) nd rfl (Or.inl rfl)) (pgs_cons (pg_name (i := 2) nd rfl (Or.inl rfl)) pgs_nil))))
      (pss_cons (ps_for PassesOwn.never rfl (pi_list (pe_op op_cat (pe_lst (pa_cons (pe_call G_law_cell (hr.mono (by decide)) (by rfl) T.g_law_cell T.d_law_cell.kp b_law_cell .nil pass0 (pa_cons (pv 0) (pa_cons pe_int pa_nil))) pa_nil)) (pe_slice sl_list (pv 0) (po_some pe_int) (po_some pe_int)))) (pg_name (i := 3) nd rfl (Or.inl rfl)) (pss_cons (ps_set (i := 4) nd rfl (Or.inl rfl) (pe_call G_law_draws (hr.mono (by decide)) (by rfl) T.g_law_draws T.d_law_draws.kp b_law_draws .nil pass0 (pa_cons (pv 3) (pa_cons pe_int pa_nil))))
      (Evl.pss_cut (ps_if (pt_cmpR op_eq (pe_op op_mod (pe_ix ix_list (pv 4) pe_int (fun _ _ => rfl)) pe_int) pe_int (nomark _)) (pss_one (ps_asg (pe_call G_law_whole (hr.mono (by decide)) (by rfl) T.g_law_whole T.d_law_whole.kp b_law_whole .nil pass0 (pa_cons (pe_slice sl_list (pv 4) (po_some pe_int) (po_some pe_int)) pa_nil)) (pg_tup rfl (pgs_cons (pg_name (i := 5) nd rfl (Or.inl rfl)) (pgs_cons (pg_name (i := 6) nd rfl (Or.inl rfl)) pgs_nil))))) (pss_one (ps_if (pt_cmpR op_eq (pe_op op_mod (pe_ix ix_list (pv 4) pe_int (fun _ _ => rfl)) pe_int) pe_int (nomark _)) (pss_one (ps_par (i := 5) (j := 6) rfl nd rfl rfl (by decide) rfl rfl (pa_cons (pv 1) (pa_cons (pe_call G_law_bad_order (hr.mono (by decide)) (by rfl) T.g_law_bad_order T.d_law_bad_order.kp b_law_bad_order .nil pass0 (pa_cons (pv 1) (pa_cons (pv 2) (pa_cons (pe_slice sl_list (pv 4) (po_some pe_int) (po_some pe_int)) pa_nil)))) pa_nil)) (by rfl))) (pss_one (ps_par (i := 5) (j := 6) rfl nd rfl rfl (by decide) rfl rfl (pa_cons (pe_call G_law_bad_table (hr.mono (by decide)) (by rfl) T.g_law_bad_table T.d_law_bad_table.kp b_law_bad_table .nil pass0 (pa_cons (pv 1) (pa_cons (pe_slice sl_list (pv 4) (po_some pe_int) (po_some pe_int)) pa_nil))) (pa_cons (pe_ix ix_list (pe_lst (pa_cons (pe_lst pa_nil) (pa_cons pe_non pa_nil))) (pe_op op_mod (pe_ix ix_list (pv 4) pe_int (fun _ _ => rfl)) pe_int) (fun _ _ => rfl)) pa_nil)) (by rfl))))))
      (pss_cons (ps_if (pt_not (pt_val (pe_call G_law_refused (hr.mono (by decide)) (by rfl) T.g_law_refused T.d_law_refused.kp b_law_refused .nil pass0 (pa_cons (pv 5) (pa_cons (pv 6) pa_nil))))) (pss_one (ps_ret pe_bl)) pss_nil)
      (pss_one (ps_if (pt_not (pt_val (pe_call G_law_refused (hr.mono (by decide)) (by rfl) T.g_law_refused T.d_law_refused.kp b_law_refused .nil pass0 (pa_cons (pv 1) (pa_cons (pe_ix ix_list (pe_lst (pa_cons pe_int (pa_cons pe_str (pa_cons pe_dnewK (pa_cons (pe_tup (pa_cons (pe_tup pa_nil) pa_nil)) (pa_cons (pe_tup (pa_cons pe_non pa_nil)) pa_nil)))))) (pe_op op_mod (pe_ix ix_list (pv 4) pe_int (fun _ _ => rfl)) pe_int) (fun _ _ => rfl)) pa_nil))))) (pss_one (ps_ret pe_bl)) pss_nil))))))
      (pss_one (ps_ret (pe_cmpR (op_eqD hr.units) (pe_meth0 (pe_make T.mk_Schema G_Schema___init__ (hr.mono (by decide)) rfl T.g_Schema b_Schema___init__ .nil (passes_call (E := fun _ _ _ => False) takes0 (fun _ _ _ _ h => h)) (pa_cons (pv 1) (pa_cons (pv 2) pa_nil))) T.c_Schema T.m_Schema_table_names G_Schema_table_names (hr.mono (by decide)) b_Schema_table_names .nil pass0) (pe_lc (own := [("_law_name", 7), ("_law_columns", 8)]) rfl nd (pi_list (pv 1)) (blkOk_by (own := [("_law_name", 7), ("_law_columns", 8)]) (N := ["_law_script", "_law_tables", "_law_orders", "_law_cell_here", "_law_draws_here", "_law_bad", "_law_more", "_law_name", "_law_columns"]) (sc := defScope s_law) (by decide +kernel)) (fun _ _ _ _ _ => (pg_tupK (K := K) (n := 2) rfl rfl (pgs_cons (pg_name (i := 7) nd rfl (Or.inl rfl)) (pgs_cons (pg_name (i := 8) nd rfl (Or.inl rfl)) pgs_nil)))) (fun _ _ _ _ _ => pts_nil) (fun _ _ _ _ _ => (pv 7))) (nomark _)))))), ?_⟩
    simp only [cxOf, Cx.nox, L2.start, List.map_cons, List.map_nil, List.length_cons, List.length_nil, Nat.reduceAdd, Nat.reduceSub, List.replicate, List.cons_append, List.nil_append]
    have W0 := Z.Ws.init (Same.refl H)
    walk_at "z"
    refine ⟨a, ns, 0, rfl, hS, hlen, by decide, fun c0 => ?_⟩
    walk_at "z"
    refine ⟨H, c0, rfl, Same.refl _, fun F1 H1 r1 ts os tk ok g1 hr1 => ?_⟩
    have W1 := W0.ext g1
    walk_at "z"
    refine Z.gtupD hr1 W1.fh fun zs hzs => ?_
    obtain ⟨tv, ov, rfl, ht, ho⟩ := Z.dpa2 hzs
    walk_at "z"
    refine ⟨a, ns, 1, rfl, W1.same.seq hS, hlen, by decide, fun c1 => ?_⟩
    walk_at "z"
    refine Z.lstW W1 fun p2 H2 W2 => ?_
    walk_at "z"
    refine ⟨a, _, rfl, W2.same.seq hS, fun p3 hp3 => ?_⟩
    obtain ⟨cs, ec, hcl⟩ := cutV_int ns (some 2) (some 42)
    rw [ec]
    have W3 := W2.new (o := .lst (cs.map V.int)) hp3
    generalize upd H2 p3 (.lst (cs.map V.int)) = H3 at W3 ⊢
    refine ⟨p2, p3, _, _, rfl, rfl, W3.at 1 rfl, W3.at 0 rfl, Nat.le_trans (show 1 + (cs.map V.int).length ≤ 1000 by rw [List.length_map]; omega) (by decide), fun p4 hp4 => ?_⟩
    have W4 := W3.new (o := .lst ([.int c1] ++ cs.map V.int)) hp4
    generalize upd H3 p4 (.lst ([.int c1] ++ cs.map V.int)) = H4 at W4 ⊢
    have g4 := W4.at 0 rfl
    have htx := Z.dx_of ht
    have hox := Z.dx_of ho
    refine ⟨p4, rfl, ⟨_, SqL.of g4⟩, for_list (xs := [.int c1] ++ cs.map V.int) (fun i σ H' => (∃ v3 v4 v5 v6 v7 v8, σ = [some (.ref a), some tv, some ov, v3, v4, v5, v6, v7, v8]) ∧ Same H4 H') ⟨⟨_, _, _, _, _, _, rfl⟩, Same.refl _⟩ (fun i σ H' hi P => SqL.of (P.2 _ _ g4)) ?_ ?_⟩
    · rintro i x σ H5 hx ⟨⟨v3, v4, v5, v6, v7, v8, rfl⟩, s5⟩
      obtain ⟨c, rfl⟩ : ∃ c, x = .int c := by
        rcases List.mem_append.mp (List.mem_of_getElem? hx) with m | m
        · exact ⟨c1, List.mem_singleton.mp m⟩
        · obtain ⟨y, _, rfl⟩ := List.mem_map.mp m
          exact ⟨y, rfl⟩
      have W5 := Z.Ws.init (W4.fh.trans s5)
      walk_at "z"
      refine ⟨F1, c, 8, rfl, W5.fh, by decide, fun F6 H6 dv xs hxl pos g6 hdv => ?_⟩
      have W6 := W5.ext g6
      obtain ⟨d0, d1, d2, d3, d4, d5, d6, d7, rfl⟩ : ∃ a b c d e f g h, xs = [a, b, c, d, e, f, g, h] := by
        match xs, hxl with
        | [a, b, c, d, e, f, g, h], _ => exact ⟨a, b, c, d, e, f, g, h, rfl⟩
      have p0 := (pos d0 (by simp)).1
      have p1 := (pos d1 (by simp)).1
      have p2 := (pos d2 (by simp)).1
      have p3 := (pos d3 (by simp)).1
      have p4 := (pos d4 (by simp)).1
      have p5 := (pos d5 (by simp)).1
      have p6 := (pos d6 (by simp)).1
      have p7 := (pos d7 (by simp)).1
      clear pos
      have ht6 := Z.dp_same g6.f ht
      have ho6 := Z.dp_same g6.f ho
      walk_at "z"
      refine Z.cut (M := fun σ' H' => ∃ bv mv v7 v8, σ' = [some (.ref a), some tv, some ov, some (.int c), some dv, some bv, some mv, v7, v8] ∧ ∃ F' td od, Z.Ws [] F1 H5 F' H' ∧ Same F6 F' ∧ Z.DX K F' bv td ∧ Fit5 td ∧ Z.DX K F' mv od ∧ Fit3 od ∧ Hopeless td od) ?_ ?_
      · walk_at "z"
        refine Z.ixD hdv W6.fh 0 rfl fun w hw => ?_
        cases Z.dp_int hw
        walk_at "z"
        refine Z.iteD (fun h3 => ?_) (fun h3 => ?_)
        · walk_at "z"
          refine Z.slD W6 hdv fun r7 F7 H7 W7 s7 hr7 => ?_
          have hr7 : Dp K F7 r7 (.list ([d1, d2, d3].map .int)) := hr7
          walk_at "z"
          refine ⟨F7, r7, d1, d2, d3, rfl, W7.fh, hr7, p1, p2, p3, fun F8 H8 r td od g8 hr f5 f3 hh => ?_⟩
          have W8 := W7.ext g8
          walk_at "z"
          refine Z.gtupX hr W8.fh fun ys hys => ?_
          obtain ⟨y1, y2, rfl, hy1, hy2⟩ := Z.dxs2 hys
          walk_at "z"
          exact ⟨_, _, _, _, rfl, F8, td, od, W8, s7.trans g8.f, hy1, f5, hy2, f3, hh⟩
        · walk_at "z"
          refine Z.ixD hdv W6.fh 0 rfl fun w hw => ?_
          cases Z.dp_int hw
          walk_at "z"
          refine Z.iteD (fun h2 => ?_) (fun h2 => ?_)
          · walk_at "z"
            refine Z.slD W6 hdv fun r7 F7 H7 W7 s7 hr7 => ?_
            have hr7 : Dp K F7 r7 (.list ([d1, d2, d3, d4, d5].map .int)) := hr7
            walk_at "z"
            refine ⟨F7, tv, ov, r7, ts, os, d1, d2, d3, d4, d5, rfl, W7.fh, Z.dp_same s7 ht6, tk, Z.dp_same s7 ho6, ok, hr7, p1, p2, p3, p4, p5, fun F8 H8 r d g8 hr hno hnn f3 => ?_⟩
            have W8 := W7.ext g8
            have s18 := g6.f.trans (s7.trans g8.f)
            walk_at "z"
            refine ⟨_, _, rfl, ?_⟩
            walk_at "z"
            refine ⟨_, _, _, _, rfl, F8, _, d, W8, s7.trans g8.f, Z.dx_same s18 htx, fit_tabs tk, hr, f3, fun ts' h => ?_⟩
            cases accT_one h (tabs_acc tk)
            exact ⟨hnn, hno⟩
          · walk_at "z"
            refine Z.slD W6 hdv fun r7 F7 H7 W7 s7 hr7 => ?_
            have hr7 : Dp K F7 r7 (.list ([d1, d2, d3, d4, d5, d6].map .int)) := hr7
            walk_at "z"
            refine ⟨F7, tv, r7, ts, d1, d2, d3, d4, d5, d6, rfl, W7.fh, Z.dp_same s7 ht6, tk, hr7, p1, p2, p3, p4, p5, p6, fun F8 H8 r d g8 hr hno f5 => ?_⟩
            have W8 := W7.ext g8
            walk_at "z"
            refine Z.lstX (K := K) W8 .nil fun a9 F9 H9 W9 s9 e9 => ?_
            walk_at "z"
            refine Z.lstX (K := K) W9 (.cons e9 (.cons .non .nil)) fun a10 F10 H10 W10 s10 e10 => ?_
            walk_at "z"
            have s610 := s7.trans (g8.f.trans (s9.trans s10))
            refine Z.ixD (Z.dp_same s610 hdv) W10.fh 7 rfl fun w hw => ?_
            cases Z.dp_int hw
            walk_at "z"
            refine ixXa e10 W10.fh (by omega) (by simp only [List.length_cons, List.length_nil]; omega) fun mv od hod hmv => ?_
            walk_at "z"
            refine ⟨_, _, rfl, ?_⟩
            walk_at "z"
            refine ⟨_, _, _, _, rfl, F10, d, od, W10, s610, Z.dx_same (s9.trans s10) hr, f5, hmv, ?_, hl_tab hno⟩
            simp only [List.mem_cons, List.not_mem_nil, or_false] at hod
            rcases hod with rfl | rfl
            · exact fun e he => nomatch he
            · exact trivial
      · rintro σ' H7 ⟨bv, mv, v7, v8, rfl, F7, td, od, W7, s67, hb, f5, hm, f3, hh⟩
        walk_at "z"
        refine ⟨F7, bv, mv, td, od, rfl, W7.fh, hb, f5, hm, f3, hh, fun H8 s8 => ?_⟩
        have W8 := W7.exts s8
        walk_at "z"
        intro a9 ha9
        have W9 := W8.dat (o := .dK []) ha9
        have s9 := Z.same_new (o := .dK []) (W8.freeF ha9)
        have e9 : Z.DX K (upd F7 a9 (.dK [])) (.ref a9) (.dict []) := .dic upd_same
        generalize upd H8 a9 (.dK []) = H9 at W9 ⊢
        generalize upd F7 a9 (.dK []) = F9 at W9 s9 e9
        walk_at "z"
        refine Z.tupX (K := K) W9 .nil fun a10 F10 H10 W10 s10 e10 => ?_
        walk_at "z"
        refine Z.tupX (K := K) W10 (.cons e10 .nil) fun a11 F11 H11 W11 s11 e11 => ?_
        walk_at "z"
        refine Z.tupX (K := K) W11 (.cons .non .nil) fun a12 F12 H12 W12 s12 e12 => ?_
        walk_at "z"
        refine Z.lstX (K := K) W12 (.cons (.int _) (.cons (.str _) (.cons (Z.dx_same (s10.trans (s11.trans s12)) e9) (.cons (Z.dx_same s12 e11) (.cons e12 .nil))))) fun a13 F13 H13 W13 s13 e13 => ?_
        walk_at "z"
        have s713 := s9.trans (s10.trans (s11.trans (s12.trans s13)))
        refine Z.ixD (Z.dp_same (s67.trans s713) hdv) W13.fh 7 rfl fun w hw => ?_
        cases Z.dp_int hw
        walk_at "z"
        refine ixXa e13 W13.fh (by omega) (by simp only [List.length_cons, List.length_nil]; omega) fun mv2 od2 hod2 hmv2 => ?_
        walk_at "z"
        have hw : Fit3 od2 ∧ ∀ {td : PyData}, Hopeless td od2 := by
          have tu : ∀ e : PyData, Fit1 e → Fit2 e → (∀ o : Str × Str, e ≠ pairD o) → Fit3 (.tuple [e]) ∧ ∀ {td : PyData}, Hopeless td (.tuple [e]) := fun e h1 h2 hne =>
            ⟨fun x hx => by rw [List.mem_singleton.mp hx]; exact ⟨h1, h2⟩, hl_ord (fun e => by cases e) fun ts os h => acco_no h rfl hne⟩
          simp only [List.mem_cons, List.not_mem_nil, or_false] at hod2
          rcases hod2 with rfl | rfl | rfl | rfl | rfl
          · exact ⟨trivial, hl_ord (fun e => by cases e) fun ts os h => h.not rfl⟩
          · exact ⟨trivial, hl_ord (fun e => by cases e) fun ts os h => h.not rfl⟩
          · exact ⟨trivial, hl_ord (fun e => by cases e) fun ts os h => h.not rfl⟩
          · exact tu _ trivial (fun d hd => nomatch hd) (fun o e => by simp [pairD] at e)
          · exact tu _ trivial trivial (fun o e => by simp [pairD] at e)
        refine ⟨F13, tv, mv2, _, od2, rfl, W13.fh, Z.dx_same (g6.f.trans (s67.trans s713)) htx, fit_tabs tk, hmv2, hw.1, hw.2, fun H14 s14 => ?_⟩
        walk_at "z"
        exact ⟨⟨_, _, _, _, _, _, rfl⟩, s5.trans (W13.same.trans s14)⟩
    · rintro σ H5 ⟨⟨v3, v4, v5, v6, v7, v8, rfl⟩, s5⟩
      have W5 := Z.Ws.init (W4.fh.trans s5)
      walk_at "z"
      intro x dx nx ndx ne
      have M0 := ws_make (C := A.Schema) (W4.fh.trans s5) nx ndx ne
      refine ⟨F1, H5, x, dx, tv, ov, _, _, rfl, M0, htx, fit_tabs tk, hox, fit_ords tk ok, fun ts' os' h1 h2 F' H6' q kvs ko W' s' hkv hko => ?_, fun hh => absurd ⟨.inl rfl, ok⟩ ((hh ts (tabs_acc tk)).2 os)⟩
      cases accT_one h1 (tabs_acc tk)
      have ok' : OrdsOk ts os' := by
        rcases h2 with ⟨e, _⟩ | ⟨_, h⟩
        · cases e
        · exact h.2
      refine ⟨rfl, ?_⟩
      obtain ⟨Fa, Wa, sa, ga⟩ := W'.frz 0 rfl
      obtain ⟨Fb, Wb, sb, gb⟩ := Wa.frz 0 rfl
      have hs : IsSch K A Fb (.ref x) ts os' := ⟨x, dx, q, kvs, ko, rfl, sb _ _ ga, gb, hkv.same (sa.trans sb), Z.dp_same (sa.trans sb) hko, tk, ok'⟩
      have hx' : H6' x = some (.ins A.Schema dx (schF q ko)) := W'.at 0 rfl
      walk_at "z"
      refine ⟨Fb, _, ts, os', rfl, Wb.fh, hs, fun H7 p7 W7 => ?_⟩
      have W8 := (Z.Ws.init Wb.fh).join W7
      have s18 : Same F1 Fb := s'.trans (sa.trans sb)
      obtain ⟨ta, tx, rfl, hta, htxx⟩ := Z.dp_lst ht
      have htl := Z.dpa_len htxx
      rw [List.length_map] at htl
      walk_at "z"
      refine ⟨ta, rfl, ⟨_, W8.fh.seq (s18.seq hta)⟩, fun D hD => ?_⟩
      refine lc_it walk_list (fun j H' => Z.Ws [(D, .lst (((ts.take j).map (·.1)).map .str)), (p7, .lst (ts.map fun t => .str t.1))] Fb H6' Fb H') (W8.new hD) (fun j H' hj W => W.fh.seq (s18.seq hta)) ?_ ?_
      · rintro j x H9 H10 hj W9 ⟨rfl, hx⟩
        obtain ⟨d, e1, e2⟩ := Z.dpa_ix htxx hx
        rw [List.getElem?_map] at e1
        obtain ⟨t', hti, rfl⟩ := Option.map_eq_some_iff.mp e1
        refine Z.gtupD e2 (s18.trans W9.fh) fun zs hzs => ?_
        obtain ⟨z1, z2, rfl, hz1, hz2⟩ := Z.dpa2 hzs
        cases Z.dp_str hz1
        walk_at "z"
        refine ⟨rfl, ?_⟩
        walk_at "z"
        refine ⟨_, W9.at 0 rfl, by rw [List.length_map, List.length_map, List.length_take]; have := tk.hi; exact Nat.lt_of_le_of_lt (show _ ≤ 1000 by omega) (by decide), ?_⟩
        rw [List.take_add_one, hti, List.map_append, List.map_append]
        exact W9.set 0 rfl _
      · rintro H9 W9
        rw [htl, List.take_length] at W9
        refine Z.eqStrs (xs := ts.map (·.1)) (SqL.of (by have := W9.at 1 rfl; rw [List.map_map]; exact this)) (SqL.of (W9.at 0 rfl)) (fun z hz => ?_) (k _)
        obtain ⟨t, htm, rfl⟩ := List.mem_map.mp hz
        exact (tk.nm t htm).1.ok

theorem all_mk {l : PySem.W.OpenLaw} {w : World} {K : PySem.W.Frag} {h : Heap} {mg : Str → Option Value} {fa : Addr} (X : K.In h) (G : h.Ns mainGlobals mg) (hfa : mg "law" = some (.ref fa))
    {CSchema CStoreError CNoSchema CTooMany CNoOrder CNoTable CNoColumn CNoPlan f_is_name f_is_kind f_is_row_of f_need_pair f_columns_in f_tables_in f_orders_in f_Schema___init__ D_Schema___init__ f_Schema_table_names f_law_cell f_law_draws f_law_names f_law_schema f_law_refused f_law_strange f_law_bad_column f_law_bad_table f_law_bad_order f_law_whole f_law : Addr} {od_is_name an_is_name od_is_kind an_is_kind od_is_row_of an_is_row_of od_need_pair an_need_pair od_columns_in an_columns_in od_tables_in an_tables_in od_orders_in an_orders_in od_Schema___init__ an_Schema___init__ Dod_Schema___init__ od_Schema_table_names an_Schema_table_names od_law_cell an_law_cell od_law_draws an_law_draws od_law_names an_law_names od_law_schema an_law_schema od_law_refused an_law_refused od_law_strange an_law_strange od_law_bad_column an_law_bad_column od_law_bad_table an_law_bad_table od_law_bad_order an_law_bad_order od_law_whole an_law_whole od_law an_law : Option Addr} {sl_is_name sl_is_kind sl_is_row_of sl_need_pair sl_columns_in sl_tables_in sl_orders_in sl_Schema___init__ Dsl_Schema___init__ sl_Schema_table_names sl_law_cell sl_law_draws sl_law_names sl_law_schema sl_law_refused sl_law_strange sl_law_bad_column sl_law_bad_table sl_law_bad_order sl_law_whole sl_law : Array (Option Value)} {oc_is_name kV_is_name dc_is_name pm_is_name cd_is_name ct_is_name oc_is_kind kV_is_kind dc_is_kind pm_is_kind cd_is_kind ct_is_kind oc_is_row_of kV_is_row_of dc_is_row_of pm_is_row_of cd_is_row_of ct_is_row_of oc_need_pair kV_need_pair dc_need_pair pm_need_pair cd_need_pair ct_need_pair oc_columns_in kV_columns_in dc_columns_in pm_columns_in cd_columns_in ct_columns_in oc_tables_in kV_tables_in dc_tables_in pm_tables_in cd_tables_in ct_tables_in oc_orders_in kV_orders_in dc_orders_in pm_orders_in cd_orders_in ct_orders_in oc_Schema___init__ kV_Schema___init__ dc_Schema___init__ pm_Schema___init__ cd_Schema___init__ ct_Schema___init__ Doc_Schema___init__ oc_Schema_table_names kV_Schema_table_names dc_Schema_table_names pm_Schema_table_names cd_Schema_table_names ct_Schema_table_names oc_law_cell kV_law_cell dc_law_cell pm_law_cell cd_law_cell ct_law_cell oc_law_draws kV_law_draws dc_law_draws pm_law_draws cd_law_draws ct_law_draws oc_law_names kV_law_names dc_law_names pm_law_names cd_law_names ct_law_names oc_law_schema kV_law_schema dc_law_schema pm_law_schema cd_law_schema ct_law_schema oc_law_refused kV_law_refused dc_law_refused pm_law_refused cd_law_refused ct_law_refused oc_law_strange kV_law_strange dc_law_strange pm_law_strange cd_law_strange ct_law_strange oc_law_bad_column kV_law_bad_column dc_law_bad_column pm_law_bad_column cd_law_bad_column ct_law_bad_column oc_law_bad_table kV_law_bad_table dc_law_bad_table pm_law_bad_table cd_law_bad_table ct_law_bad_table oc_law_bad_order kV_law_bad_order dc_law_bad_order pm_law_bad_order cd_law_bad_order ct_law_bad_order oc_law_whole kV_law_whole dc_law_whole pm_law_whole cd_law_whole ct_law_whole oc_law kV_law dc_law pm_law cd_law ct_law : Value} {Dn_Schema___init__ : Nat} {t_LETTERS t_MOST_COLUMNS t_MOST_ORDERS t_MOST_SIGNS t_MOST_TABLES : Tok}
    (a_Schema : PySem.W.nsIn K mainGlobals "Schema" = some (some (.ref CSchema)))
    (pg_Schema : PySem.W.plainGet K CSchema Str.empty = true)
    (hd_Schema : PySem.W.hasDictIn K CSchema = true)
    (po_Schema : PySem.W.plainOver K CSchema = true)
    (sa_Schema : PySem.W.findIn K (.ref CSchema) "__setattr__" = some (some (.builtin "object.__setattr__")))
    (mk_Schema : PySem.W.makesIn K CSchema = true)
    (kc_Schema : PySem.W.keepIn K (.ref CSchema) = true)
    (n_Schema_columns : PySem.W.findIn K (.ref CSchema) "columns" = some none)
    (n_Schema_kept_orders : PySem.W.findIn K (.ref CSchema) "kept_orders" = some none)
    (a_StoreError : PySem.W.nsIn K mainGlobals "StoreError" = some (some (.ref CStoreError)))
    (a_NoSchema : PySem.W.nsIn K mainGlobals "NoSchema" = some (some (.ref CNoSchema)))
    (a_TooMany : PySem.W.nsIn K mainGlobals "TooMany" = some (some (.ref CTooMany)))
    (a_NoOrder : PySem.W.nsIn K mainGlobals "NoOrder" = some (some (.ref CNoOrder)))
    (a_NoTable : PySem.W.nsIn K mainGlobals "NoTable" = some (some (.ref CNoTable)))
    (a_NoColumn : PySem.W.nsIn K mainGlobals "NoColumn" = some (some (.ref CNoColumn)))
    (a_NoPlan : PySem.W.nsIn K mainGlobals "NoPlan" = some (some (.ref CNoPlan)))
    (a_is_name : PySem.W.nsIn K mainGlobals "is_name" = some (some (.ref f_is_name)))
    (l_is_name : K.lookup f_is_name = some ⟨oc_is_name, od_is_name, .func (PySem.W.fnOf "is_name" "is_name" (defArgs s_is_name) (defBody s_is_name) (defScope s_is_name) .none kV_is_name dc_is_name pm_is_name an_is_name cd_is_name ct_is_name), sl_is_name⟩)
    (c_is_name : PySem.W.codeIn K cd_is_name "is_name" = true)
    (k_is_name : PySem.W.keepIn K (.ref f_is_name) = true)
    (a_is_kind : PySem.W.nsIn K mainGlobals "is_kind" = some (some (.ref f_is_kind)))
    (l_is_kind : K.lookup f_is_kind = some ⟨oc_is_kind, od_is_kind, .func (PySem.W.fnOf "is_kind" "is_kind" (defArgs s_is_kind) (defBody s_is_kind) (defScope s_is_kind) .none kV_is_kind dc_is_kind pm_is_kind an_is_kind cd_is_kind ct_is_kind), sl_is_kind⟩)
    (c_is_kind : PySem.W.codeIn K cd_is_kind "is_kind" = true)
    (k_is_kind : PySem.W.keepIn K (.ref f_is_kind) = true)
    (a_is_row_of : PySem.W.nsIn K mainGlobals "is_row_of" = some (some (.ref f_is_row_of)))
    (l_is_row_of : K.lookup f_is_row_of = some ⟨oc_is_row_of, od_is_row_of, .func (PySem.W.fnOf "is_row_of" "is_row_of" (defArgs s_is_row_of) (defBody s_is_row_of) (defScope s_is_row_of) .none kV_is_row_of dc_is_row_of pm_is_row_of an_is_row_of cd_is_row_of ct_is_row_of), sl_is_row_of⟩)
    (c_is_row_of : PySem.W.codeIn K cd_is_row_of "is_row_of" = true)
    (k_is_row_of : PySem.W.keepIn K (.ref f_is_row_of) = true)
    (a_need_pair : PySem.W.nsIn K mainGlobals "need_pair" = some (some (.ref f_need_pair)))
    (l_need_pair : K.lookup f_need_pair = some ⟨oc_need_pair, od_need_pair, .func (PySem.W.fnOf "need_pair" "need_pair" (defArgs s_need_pair) (defBody s_need_pair) (defScope s_need_pair) .none kV_need_pair dc_need_pair pm_need_pair an_need_pair cd_need_pair ct_need_pair), sl_need_pair⟩)
    (c_need_pair : PySem.W.codeIn K cd_need_pair "need_pair" = true)
    (k_need_pair : PySem.W.keepIn K (.ref f_need_pair) = true)
    (a_columns_in : PySem.W.nsIn K mainGlobals "columns_in" = some (some (.ref f_columns_in)))
    (l_columns_in : K.lookup f_columns_in = some ⟨oc_columns_in, od_columns_in, .func (PySem.W.fnOf "columns_in" "columns_in" (defArgs s_columns_in) (defBody s_columns_in) (defScope s_columns_in) .none kV_columns_in dc_columns_in pm_columns_in an_columns_in cd_columns_in ct_columns_in), sl_columns_in⟩)
    (c_columns_in : PySem.W.codeIn K cd_columns_in "columns_in" = true)
    (k_columns_in : PySem.W.keepIn K (.ref f_columns_in) = true)
    (a_tables_in : PySem.W.nsIn K mainGlobals "tables_in" = some (some (.ref f_tables_in)))
    (l_tables_in : K.lookup f_tables_in = some ⟨oc_tables_in, od_tables_in, .func (PySem.W.fnOf "tables_in" "tables_in" (defArgs s_tables_in) (defBody s_tables_in) (defScope s_tables_in) .none kV_tables_in dc_tables_in pm_tables_in an_tables_in cd_tables_in ct_tables_in), sl_tables_in⟩)
    (c_tables_in : PySem.W.codeIn K cd_tables_in "tables_in" = true)
    (k_tables_in : PySem.W.keepIn K (.ref f_tables_in) = true)
    (a_orders_in : PySem.W.nsIn K mainGlobals "orders_in" = some (some (.ref f_orders_in)))
    (l_orders_in : K.lookup f_orders_in = some ⟨oc_orders_in, od_orders_in, .func (PySem.W.fnOf "orders_in" "orders_in" (defArgs s_orders_in) (defBody s_orders_in) (defScope s_orders_in) .none kV_orders_in dc_orders_in pm_orders_in an_orders_in cd_orders_in ct_orders_in), sl_orders_in⟩)
    (c_orders_in : PySem.W.codeIn K cd_orders_in "orders_in" = true)
    (k_orders_in : PySem.W.keepIn K (.ref f_orders_in) = true)
    (a_Schema___init__ : PySem.W.findIn K (.ref CSchema) "__init__" = some (some (.ref f_Schema___init__)))
    (i_Schema___init__ : PySem.W.isFn K (.ref f_Schema___init__) = true)
    (l_Schema___init__ : K.lookup f_Schema___init__ = some ⟨oc_Schema___init__, od_Schema___init__, .func (PySem.W.fnOf "__init__" "Schema.__init__" (defArgs s_Schema___init__) (defBody s_Schema___init__) (defScope s_Schema___init__) (.ref D_Schema___init__) kV_Schema___init__ dc_Schema___init__ pm_Schema___init__ an_Schema___init__ cd_Schema___init__ ct_Schema___init__), sl_Schema___init__⟩)
    (c_Schema___init__ : PySem.W.codeIn K cd_Schema___init__ "Schema.__init__" = true)
    (k_Schema___init__ : PySem.W.keepIn K (.ref f_Schema___init__) = true)
    (lD_Schema___init__ : K.lookup D_Schema___init__ = some ⟨Doc_Schema___init__, Dod_Schema___init__, .seq #[.none] Dn_Schema___init__, Dsl_Schema___init__⟩)
    (a_Schema_table_names : PySem.W.findIn K (.ref CSchema) "table_names" = some (some (.ref f_Schema_table_names)))
    (i_Schema_table_names : PySem.W.isFn K (.ref f_Schema_table_names) = true)
    (l_Schema_table_names : K.lookup f_Schema_table_names = some ⟨oc_Schema_table_names, od_Schema_table_names, .func (PySem.W.fnOf "table_names" "Schema.table_names" (defArgs s_Schema_table_names) (defBody s_Schema_table_names) (defScope s_Schema_table_names) .none kV_Schema_table_names dc_Schema_table_names pm_Schema_table_names an_Schema_table_names cd_Schema_table_names ct_Schema_table_names), sl_Schema_table_names⟩)
    (c_Schema_table_names : PySem.W.codeIn K cd_Schema_table_names "Schema.table_names" = true)
    (k_Schema_table_names : PySem.W.keepIn K (.ref f_Schema_table_names) = true)
    (a_law_cell : PySem.W.nsIn K mainGlobals "_law_cell" = some (some (.ref f_law_cell)))
    (l_law_cell : K.lookup f_law_cell = some ⟨oc_law_cell, od_law_cell, .func (PySem.W.fnOf "_law_cell" "_law_cell" (defArgs s_law_cell) (defBody s_law_cell) (defScope s_law_cell) .none kV_law_cell dc_law_cell pm_law_cell an_law_cell cd_law_cell ct_law_cell), sl_law_cell⟩)
    (c_law_cell : PySem.W.codeIn K cd_law_cell "_law_cell" = true)
    (k_law_cell : PySem.W.keepIn K (.ref f_law_cell) = true)
    (a_law_draws : PySem.W.nsIn K mainGlobals "_law_draws" = some (some (.ref f_law_draws)))
    (l_law_draws : K.lookup f_law_draws = some ⟨oc_law_draws, od_law_draws, .func (PySem.W.fnOf "_law_draws" "_law_draws" (defArgs s_law_draws) (defBody s_law_draws) (defScope s_law_draws) .none kV_law_draws dc_law_draws pm_law_draws an_law_draws cd_law_draws ct_law_draws), sl_law_draws⟩)
    (c_law_draws : PySem.W.codeIn K cd_law_draws "_law_draws" = true)
    (k_law_draws : PySem.W.keepIn K (.ref f_law_draws) = true)
    (a_law_names : PySem.W.nsIn K mainGlobals "_law_names" = some (some (.ref f_law_names)))
    (l_law_names : K.lookup f_law_names = some ⟨oc_law_names, od_law_names, .func (PySem.W.fnOf "_law_names" "_law_names" (defArgs s_law_names) (defBody s_law_names) (defScope s_law_names) .none kV_law_names dc_law_names pm_law_names an_law_names cd_law_names ct_law_names), sl_law_names⟩)
    (c_law_names : PySem.W.codeIn K cd_law_names "_law_names" = true)
    (k_law_names : PySem.W.keepIn K (.ref f_law_names) = true)
    (a_law_schema : PySem.W.nsIn K mainGlobals "_law_schema" = some (some (.ref f_law_schema)))
    (l_law_schema : K.lookup f_law_schema = some ⟨oc_law_schema, od_law_schema, .func (PySem.W.fnOf "_law_schema" "_law_schema" (defArgs s_law_schema) (defBody s_law_schema) (defScope s_law_schema) .none kV_law_schema dc_law_schema pm_law_schema an_law_schema cd_law_schema ct_law_schema), sl_law_schema⟩)
    (c_law_schema : PySem.W.codeIn K cd_law_schema "_law_schema" = true)
    (k_law_schema : PySem.W.keepIn K (.ref f_law_schema) = true)
    (a_law_refused : PySem.W.nsIn K mainGlobals "_law_refused" = some (some (.ref f_law_refused)))
    (l_law_refused : K.lookup f_law_refused = some ⟨oc_law_refused, od_law_refused, .func (PySem.W.fnOf "_law_refused" "_law_refused" (defArgs s_law_refused) (defBody s_law_refused) (defScope s_law_refused) .none kV_law_refused dc_law_refused pm_law_refused an_law_refused cd_law_refused ct_law_refused), sl_law_refused⟩)
    (c_law_refused : PySem.W.codeIn K cd_law_refused "_law_refused" = true)
    (k_law_refused : PySem.W.keepIn K (.ref f_law_refused) = true)
    (a_law_strange : PySem.W.nsIn K mainGlobals "_law_strange" = some (some (.ref f_law_strange)))
    (l_law_strange : K.lookup f_law_strange = some ⟨oc_law_strange, od_law_strange, .func (PySem.W.fnOf "_law_strange" "_law_strange" (defArgs s_law_strange) (defBody s_law_strange) (defScope s_law_strange) .none kV_law_strange dc_law_strange pm_law_strange an_law_strange cd_law_strange ct_law_strange), sl_law_strange⟩)
    (c_law_strange : PySem.W.codeIn K cd_law_strange "_law_strange" = true)
    (k_law_strange : PySem.W.keepIn K (.ref f_law_strange) = true)
    (a_law_bad_column : PySem.W.nsIn K mainGlobals "_law_bad_column" = some (some (.ref f_law_bad_column)))
    (l_law_bad_column : K.lookup f_law_bad_column = some ⟨oc_law_bad_column, od_law_bad_column, .func (PySem.W.fnOf "_law_bad_column" "_law_bad_column" (defArgs s_law_bad_column) (defBody s_law_bad_column) (defScope s_law_bad_column) .none kV_law_bad_column dc_law_bad_column pm_law_bad_column an_law_bad_column cd_law_bad_column ct_law_bad_column), sl_law_bad_column⟩)
    (c_law_bad_column : PySem.W.codeIn K cd_law_bad_column "_law_bad_column" = true)
    (k_law_bad_column : PySem.W.keepIn K (.ref f_law_bad_column) = true)
    (a_law_bad_table : PySem.W.nsIn K mainGlobals "_law_bad_table" = some (some (.ref f_law_bad_table)))
    (l_law_bad_table : K.lookup f_law_bad_table = some ⟨oc_law_bad_table, od_law_bad_table, .func (PySem.W.fnOf "_law_bad_table" "_law_bad_table" (defArgs s_law_bad_table) (defBody s_law_bad_table) (defScope s_law_bad_table) .none kV_law_bad_table dc_law_bad_table pm_law_bad_table an_law_bad_table cd_law_bad_table ct_law_bad_table), sl_law_bad_table⟩)
    (c_law_bad_table : PySem.W.codeIn K cd_law_bad_table "_law_bad_table" = true)
    (k_law_bad_table : PySem.W.keepIn K (.ref f_law_bad_table) = true)
    (a_law_bad_order : PySem.W.nsIn K mainGlobals "_law_bad_order" = some (some (.ref f_law_bad_order)))
    (l_law_bad_order : K.lookup f_law_bad_order = some ⟨oc_law_bad_order, od_law_bad_order, .func (PySem.W.fnOf "_law_bad_order" "_law_bad_order" (defArgs s_law_bad_order) (defBody s_law_bad_order) (defScope s_law_bad_order) .none kV_law_bad_order dc_law_bad_order pm_law_bad_order an_law_bad_order cd_law_bad_order ct_law_bad_order), sl_law_bad_order⟩)
    (c_law_bad_order : PySem.W.codeIn K cd_law_bad_order "_law_bad_order" = true)
    (k_law_bad_order : PySem.W.keepIn K (.ref f_law_bad_order) = true)
    (a_law_whole : PySem.W.nsIn K mainGlobals "_law_whole" = some (some (.ref f_law_whole)))
    (l_law_whole : K.lookup f_law_whole = some ⟨oc_law_whole, od_law_whole, .func (PySem.W.fnOf "_law_whole" "_law_whole" (defArgs s_law_whole) (defBody s_law_whole) (defScope s_law_whole) .none kV_law_whole dc_law_whole pm_law_whole an_law_whole cd_law_whole ct_law_whole), sl_law_whole⟩)
    (c_law_whole : PySem.W.codeIn K cd_law_whole "_law_whole" = true)
    (k_law_whole : PySem.W.keepIn K (.ref f_law_whole) = true)
    (a_law : PySem.W.nsIn K mainGlobals "law" = some (some (.ref f_law)))
    (l_law : K.lookup f_law = some ⟨oc_law, od_law, .func (PySem.W.fnOf "law" "law" (defArgs s_law) (defBody s_law) (defScope s_law) .none kV_law dc_law pm_law an_law cd_law ct_law), sl_law⟩)
    (c_law : PySem.W.codeIn K cd_law "law" = true)
    (k_law : PySem.W.keepIn K (.ref f_law) = true)
    (xF_NoSchema : PySem.W.excIn K CNoSchema [.type "ValueError", .type "Exception", .type "BaseException", .type "object"] "ValueError.__new__" = true)
    (kc_NoSchema : PySem.W.keepIn K (.ref CNoSchema) = true)
    (xg_NoSchema : PySem.W.findIn K (.ref CNoSchema) "__getattribute__" = some (some (.builtin "BaseException.__getattribute__")))
    (xk_NoSchema : PySem.W.findIn K (.ref CNoSchema) "__getattr__" = some none)
    (xd_NoSchema : PySem.W.hasDictIn K CNoSchema = true)
    (xa_NoSchema : PySem.W.findIn K (.ref CNoSchema) "__class__" = some (some (.builtin "object.__class__")))
    (xm_NoSchema : PySem.W.mroIn K CNoSchema (.type "object") = some true)
    (sb_NoSchema : PySem.W.subIn K (.ref CNoSchema) (.type "BaseException") = some true)
    (cb_NoSchema : PySem.W.isClsIn K CNoSchema = true)
    (tb_NoSchema : PySem.W.typeIn K (.ref CNoSchema) = some (.type "type"))
    (sb_StoreError : PySem.W.subIn K (.ref CStoreError) (.type "BaseException") = some true)
    (cb_StoreError : PySem.W.isClsIn K CStoreError = true)
    (tb_StoreError : PySem.W.typeIn K (.ref CStoreError) = some (.type "type"))
    (sb_TooMany : PySem.W.subIn K (.ref CTooMany) (.type "BaseException") = some true)
    (cb_TooMany : PySem.W.isClsIn K CTooMany = true)
    (tb_TooMany : PySem.W.typeIn K (.ref CTooMany) = some (.type "type"))
    (sb_NoOrder : PySem.W.subIn K (.ref CNoOrder) (.type "BaseException") = some true)
    (cb_NoOrder : PySem.W.isClsIn K CNoOrder = true)
    (tb_NoOrder : PySem.W.typeIn K (.ref CNoOrder) = some (.type "type"))
    (sb_NoTable : PySem.W.subIn K (.ref CNoTable) (.type "BaseException") = some true)
    (cb_NoTable : PySem.W.isClsIn K CNoTable = true)
    (tb_NoTable : PySem.W.typeIn K (.ref CNoTable) = some (.type "type"))
    (sb_NoColumn : PySem.W.subIn K (.ref CNoColumn) (.type "BaseException") = some true)
    (cb_NoColumn : PySem.W.isClsIn K CNoColumn = true)
    (tb_NoColumn : PySem.W.typeIn K (.ref CNoColumn) = some (.type "type"))
    (sb_NoPlan : PySem.W.subIn K (.ref CNoPlan) (.type "BaseException") = some true)
    (cb_NoPlan : PySem.W.isClsIn K CNoPlan = true)
    (tb_NoPlan : PySem.W.typeIn K (.ref CNoPlan) = some (.type "type"))
    (xn : PySem.W.specialIn K (.builtin "object.__class__") "__get__" = some (some (.builtin "getset_descriptor.__get__")))
    (xt : PySem.W.takesIn K (.builtin "object.__class__") = some true)
    (sub_NoSchema_NoSchema : PySem.W.subIn K (.ref CNoSchema) (.ref CNoSchema) = some true)
    (sub_NoSchema_StoreError : PySem.W.subIn K (.ref CNoSchema) (.ref CStoreError) = some true)
    (sub_NoSchema_NoColumn : PySem.W.subIn K (.ref CNoSchema) (.ref CNoColumn) = some false)
    (sub_NoSchema_NoOrder : PySem.W.subIn K (.ref CNoSchema) (.ref CNoOrder) = some false)
    (sub_NoSchema_NoPlan : PySem.W.subIn K (.ref CNoSchema) (.ref CNoPlan) = some false)
    (sub_NoSchema_NoTable : PySem.W.subIn K (.ref CNoSchema) (.ref CNoTable) = some false)
    (sub_NoSchema_TooMany : PySem.W.subIn K (.ref CNoSchema) (.ref CTooMany) = some false)
    (sub_NoColumn_NoColumn : PySem.W.subIn K (.ref CNoColumn) (.ref CNoColumn) = some true)
    (sub_NoOrder_NoOrder : PySem.W.subIn K (.ref CNoOrder) (.ref CNoOrder) = some true)
    (sub_NoPlan_NoPlan : PySem.W.subIn K (.ref CNoPlan) (.ref CNoPlan) = some true)
    (sub_NoTable_NoTable : PySem.W.subIn K (.ref CNoTable) (.ref CNoTable) = some true)
    (sub_TooMany_TooMany : PySem.W.subIn K (.ref CTooMany) (.ref CTooMany) = some true)
    (z_abs : PySem.W.nsIn K mainGlobals "abs" = some none)
    (z_enumerate : PySem.W.nsIn K mainGlobals "enumerate" = some none)
    (z_int : PySem.W.nsIn K mainGlobals "int" = some none)
    (z_isinstance : PySem.W.nsIn K mainGlobals "isinstance" = some none)
    (z_len : PySem.W.nsIn K mainGlobals "len" = some none)
    (z_list : PySem.W.nsIn K mainGlobals "list" = some none)
    (z_range : PySem.W.nsIn K mainGlobals "range" = some none)
    (z_str : PySem.W.nsIn K mainGlobals "str" = some none)
    (z_tuple : PySem.W.nsIn K mainGlobals "tuple" = some none)
    (u_LETTERS : PySem.W.nsIn K mainGlobals "LETTERS" = some (some (.str "abcdefghijklmnopqrstuvwxyz" t_LETTERS)))
    (u_MOST_COLUMNS : PySem.W.nsIn K mainGlobals "MOST_COLUMNS" = some (some (.int (4) t_MOST_COLUMNS)))
    (u_MOST_ORDERS : PySem.W.nsIn K mainGlobals "MOST_ORDERS" = some (some (.int (4) t_MOST_ORDERS)))
    (u_MOST_SIGNS : PySem.W.nsIn K mainGlobals "MOST_SIGNS" = some (some (.int (8) t_MOST_SIGNS)))
    (u_MOST_TABLES : PySem.W.nsIn K mainGlobals "MOST_TABLES" = some (some (.int (4) t_MOST_TABLES)))
    : ∃ fd : FuncData, (∀ (s : Shared) (v : Value), BindsTo s fd ⟨[v], []⟩ [("_law_script", v)]) ∧ ∀ base : Heap, K.In base → base.Ns mainGlobals mg → FnOk l.prog w K mg base CX0 7 fa fd ["_law_script"] (spLaw K) := by
  have e := hfa.symm.trans (PySem.W.mg_of X G a_law)
  cases e
  have T : Txt K mg { Schema := CSchema, StoreError := CStoreError, NoSchema := CNoSchema, TooMany := CTooMany, NoOrder := CNoOrder, NoTable := CNoTable, NoColumn := CNoColumn, NoPlan := CNoPlan, f_is_name := f_is_name, f_is_kind := f_is_kind, f_is_row_of := f_is_row_of, f_need_pair := f_need_pair, f_columns_in := f_columns_in, f_tables_in := f_tables_in, f_orders_in := f_orders_in, f_Schema___init__ := f_Schema___init__, f_Schema_table_names := f_Schema_table_names, f_law_cell := f_law_cell, f_law_draws := f_law_draws, f_law_names := f_law_names, f_law_schema := f_law_schema, f_law_refused := f_law_refused, f_law_strange := f_law_strange, f_law_bad_column := f_law_bad_column, f_law_bad_table := f_law_bad_table, f_law_bad_order := f_law_bad_order, f_law_whole := f_law_whole, f_law := fa } := { c_Schema := ⟨pg_Schema, hd_Schema, po_Schema, sa_Schema⟩, g_Schema := PySem.W.mg_of X G a_Schema, n_Schema_columns := n_Schema_columns, n_Schema_kept_orders := n_Schema_kept_orders, g_StoreError := PySem.W.mg_of X G a_StoreError, g_NoSchema := PySem.W.mg_of X G a_NoSchema, g_TooMany := PySem.W.mg_of X G a_TooMany, g_NoOrder := PySem.W.mg_of X G a_NoOrder, g_NoTable := PySem.W.mg_of X G a_NoTable, g_NoColumn := PySem.W.mg_of X G a_NoColumn, g_NoPlan := PySem.W.mg_of X G a_NoPlan, d_is_name := ⟨_, fun_mk (st := s_is_name) l_is_name c_is_name k_is_name, (fun_mk (st := s_is_name) l_is_name c_is_name k_is_name).binds (ps := ["thing"]) fun _ _ _ _ _ _ us hl => match us, hl with | [_], _ => rfl⟩, g_is_name := PySem.W.mg_of X G a_is_name, d_is_kind := ⟨_, fun_mk (st := s_is_kind) l_is_kind c_is_kind k_is_kind, (fun_mk (st := s_is_kind) l_is_kind c_is_kind k_is_kind).binds (ps := ["thing"]) fun _ _ _ _ _ _ us hl => match us, hl with | [_], _ => rfl⟩, g_is_kind := PySem.W.mg_of X G a_is_kind, d_is_row_of := ⟨_, fun_mk (st := s_is_row_of) l_is_row_of c_is_row_of k_is_row_of, (fun_mk (st := s_is_row_of) l_is_row_of c_is_row_of k_is_row_of).binds (ps := ["thing", "least", "most"]) fun _ _ _ _ _ _ us hl => match us, hl with | [_, _, _], _ => rfl⟩, g_is_row_of := PySem.W.mg_of X G a_is_row_of, d_need_pair := ⟨_, fun_mk (st := s_need_pair) l_need_pair c_need_pair k_need_pair, (fun_mk (st := s_need_pair) l_need_pair c_need_pair k_need_pair).binds (ps := ["thing"]) fun _ _ _ _ _ _ us hl => match us, hl with | [_], _ => rfl⟩, g_need_pair := PySem.W.mg_of X G a_need_pair, d_columns_in := ⟨_, fun_mk (st := s_columns_in) l_columns_in c_columns_in k_columns_in, (fun_mk (st := s_columns_in) l_columns_in c_columns_in k_columns_in).binds (ps := ["thing"]) fun _ _ _ _ _ _ us hl => match us, hl with | [_], _ => rfl⟩, g_columns_in := PySem.W.mg_of X G a_columns_in, d_tables_in := ⟨_, fun_mk (st := s_tables_in) l_tables_in c_tables_in k_tables_in, (fun_mk (st := s_tables_in) l_tables_in c_tables_in k_tables_in).binds (ps := ["thing"]) fun _ _ _ _ _ _ us hl => match us, hl with | [_], _ => rfl⟩, g_tables_in := PySem.W.mg_of X G a_tables_in, d_orders_in := ⟨_, fun_mk (st := s_orders_in) l_orders_in c_orders_in k_orders_in, (fun_mk (st := s_orders_in) l_orders_in c_orders_in k_orders_in).binds (ps := ["thing", "tables"]) fun _ _ _ _ _ _ us hl => match us, hl with | [_, _], _ => rfl⟩, g_orders_in := PySem.W.mg_of X G a_orders_in, d_Schema___init__ := FD.mk (st := s_Schema___init__) l_Schema___init__ c_Schema___init__ k_Schema___init__ lD_Schema___init__ (ps := ["self", "tables", "orders"]) (fun _ _ _ _ _ _ _ us its hl hi => match us, hl, its, hi with | [_, _, _], _, [_], _ => ⟨_, rfl, rfl⟩) (fun _ _ _ _ _ _ _ us its hl hi => match us, hl, its, hi with | [_, _], _, [_], _ => ⟨_, rfl, rfl⟩), mk_Schema := ⟨mk_Schema, a_Schema___init__, i_Schema___init__, kc_Schema⟩, d_Schema_table_names := ⟨_, fun_mk (st := s_Schema_table_names) l_Schema_table_names c_Schema_table_names k_Schema_table_names, (fun_mk (st := s_Schema_table_names) l_Schema_table_names c_Schema_table_names k_Schema_table_names).binds (ps := ["self"]) fun _ _ _ _ _ _ us hl => match us, hl with | [_], _ => rfl⟩, m_Schema_table_names := ⟨a_Schema_table_names, i_Schema_table_names, k_Schema_table_names⟩, d_law_cell := ⟨_, fun_mk (st := s_law_cell) l_law_cell c_law_cell k_law_cell, (fun_mk (st := s_law_cell) l_law_cell c_law_cell k_law_cell).binds (ps := ["_law_script", "_law_k"]) fun _ _ _ _ _ _ us hl => match us, hl with | [_, _], _ => rfl⟩, g_law_cell := PySem.W.mg_of X G a_law_cell, d_law_draws := ⟨_, fun_mk (st := s_law_draws) l_law_draws c_law_draws k_law_draws, (fun_mk (st := s_law_draws) l_law_draws c_law_draws k_law_draws).binds (ps := ["_law_cell_here", "_law_many"]) fun _ _ _ _ _ _ us hl => match us, hl with | [_, _], _ => rfl⟩, g_law_draws := PySem.W.mg_of X G a_law_draws, d_law_names := ⟨_, fun_mk (st := s_law_names) l_law_names c_law_names k_law_names, (fun_mk (st := s_law_names) l_law_names c_law_names k_law_names).binds (ps := ["_law_cell_here", "_law_many"]) fun _ _ _ _ _ _ us hl => match us, hl with | [_, _], _ => rfl⟩, g_law_names := PySem.W.mg_of X G a_law_names, d_law_schema := ⟨_, fun_mk (st := s_law_schema) l_law_schema c_law_schema k_law_schema, (fun_mk (st := s_law_schema) l_law_schema c_law_schema k_law_schema).binds (ps := ["_law_cell_here"]) fun _ _ _ _ _ _ us hl => match us, hl with | [_], _ => rfl⟩, g_law_schema := PySem.W.mg_of X G a_law_schema, d_law_refused := ⟨_, fun_mk (st := s_law_refused) l_law_refused c_law_refused k_law_refused, (fun_mk (st := s_law_refused) l_law_refused c_law_refused k_law_refused).binds (ps := ["_law_tables", "_law_orders"]) fun _ _ _ _ _ _ us hl => match us, hl with | [_, _], _ => rfl⟩, g_law_refused := PySem.W.mg_of X G a_law_refused, d_law_strange := ⟨_, fun_mk (st := s_law_strange) l_law_strange c_law_strange k_law_strange, (fun_mk (st := s_law_strange) l_law_strange c_law_strange k_law_strange).binds (ps := ["_law_draw"]) fun _ _ _ _ _ _ us hl => match us, hl with | [_], _ => rfl⟩, g_law_strange := PySem.W.mg_of X G a_law_strange, d_law_bad_column := ⟨_, fun_mk (st := s_law_bad_column) l_law_bad_column c_law_bad_column k_law_bad_column, (fun_mk (st := s_law_bad_column) l_law_bad_column c_law_bad_column k_law_bad_column).binds (ps := ["_law_column", "_law_columns", "_law_draws_here"]) fun _ _ _ _ _ _ us hl => match us, hl with | [_, _, _], _ => rfl⟩, g_law_bad_column := PySem.W.mg_of X G a_law_bad_column, d_law_bad_table := ⟨_, fun_mk (st := s_law_bad_table) l_law_bad_table c_law_bad_table k_law_bad_table, (fun_mk (st := s_law_bad_table) l_law_bad_table c_law_bad_table k_law_bad_table).binds (ps := ["_law_tables", "_law_draws_here"]) fun _ _ _ _ _ _ us hl => match us, hl with | [_, _], _ => rfl⟩, g_law_bad_table := PySem.W.mg_of X G a_law_bad_table, d_law_bad_order := ⟨_, fun_mk (st := s_law_bad_order) l_law_bad_order c_law_bad_order k_law_bad_order, (fun_mk (st := s_law_bad_order) l_law_bad_order c_law_bad_order k_law_bad_order).binds (ps := ["_law_tables", "_law_orders", "_law_draws_here"]) fun _ _ _ _ _ _ us hl => match us, hl with | [_, _, _], _ => rfl⟩, g_law_bad_order := PySem.W.mg_of X G a_law_bad_order, d_law_whole := ⟨_, fun_mk (st := s_law_whole) l_law_whole c_law_whole k_law_whole, (fun_mk (st := s_law_whole) l_law_whole c_law_whole k_law_whole).binds (ps := ["_law_draws_here"]) fun _ _ _ _ _ _ us hl => match us, hl with | [_], _ => rfl⟩, g_law_whole := PySem.W.mg_of X G a_law_whole, d_law := ⟨_, fun_mk (st := s_law) l_law c_law k_law, (fun_mk (st := s_law) l_law c_law k_law).binds (ps := ["_law_script"]) fun _ _ _ _ _ _ us hl => match us, hl with | [_], _ => rfl⟩, g_law := PySem.W.mg_of X G a_law, xF_NoSchema := xF_NoSchema, kc_NoSchema := kc_NoSchema, xg_NoSchema := xg_NoSchema, xk_NoSchema := xk_NoSchema, xd_NoSchema := xd_NoSchema, xa_NoSchema := xa_NoSchema, xm_NoSchema := xm_NoSchema, sb_NoSchema := sb_NoSchema, cb_NoSchema := cb_NoSchema, tb_NoSchema := tb_NoSchema, sb_StoreError := sb_StoreError, cb_StoreError := cb_StoreError, tb_StoreError := tb_StoreError, sb_TooMany := sb_TooMany, cb_TooMany := cb_TooMany, tb_TooMany := tb_TooMany, sb_NoOrder := sb_NoOrder, cb_NoOrder := cb_NoOrder, tb_NoOrder := tb_NoOrder, sb_NoTable := sb_NoTable, cb_NoTable := cb_NoTable, tb_NoTable := tb_NoTable, sb_NoColumn := sb_NoColumn, cb_NoColumn := cb_NoColumn, tb_NoColumn := tb_NoColumn, sb_NoPlan := sb_NoPlan, cb_NoPlan := cb_NoPlan, tb_NoPlan := tb_NoPlan, xn := xn, xt := xt, sub_NoSchema_NoSchema := sub_NoSchema_NoSchema, sub_NoSchema_StoreError := sub_NoSchema_StoreError, sub_NoSchema_NoColumn := sub_NoSchema_NoColumn, sub_NoSchema_NoOrder := sub_NoSchema_NoOrder, sub_NoSchema_NoPlan := sub_NoSchema_NoPlan, sub_NoSchema_NoTable := sub_NoSchema_NoTable, sub_NoSchema_TooMany := sub_NoSchema_TooMany, sub_NoColumn_NoColumn := sub_NoColumn_NoColumn, sub_NoOrder_NoOrder := sub_NoOrder_NoOrder, sub_NoPlan_NoPlan := sub_NoPlan_NoPlan, sub_NoTable_NoTable := sub_NoTable_NoTable, sub_TooMany_TooMany := sub_TooMany_TooMany, b_abs := PySem.W.mg_none_of X G z_abs, b_enumerate := PySem.W.mg_none_of X G z_enumerate, b_int := PySem.W.mg_none_of X G z_int, b_isinstance := PySem.W.mg_none_of X G z_isinstance, b_len := PySem.W.mg_none_of X G z_len, b_list := PySem.W.mg_none_of X G z_list, b_range := PySem.W.mg_none_of X G z_range, b_str := PySem.W.mg_none_of X G z_str, b_tuple := PySem.W.mg_none_of X G z_tuple, v_LETTERS := ⟨t_LETTERS, PySem.W.mg_of X G u_LETTERS⟩, v_MOST_COLUMNS := ⟨t_MOST_COLUMNS, PySem.W.mg_of X G u_MOST_COLUMNS⟩, v_MOST_ORDERS := ⟨t_MOST_ORDERS, PySem.W.mg_of X G u_MOST_ORDERS⟩, v_MOST_SIGNS := ⟨t_MOST_SIGNS, PySem.W.mg_of X G u_MOST_SIGNS⟩, v_MOST_TABLES := ⟨t_MOST_TABLES, PySem.W.mg_of X G u_MOST_TABLES⟩ }
  exact ⟨_, fun s v => .of_eq rfl, fun base _ _ => ok_law (fun_mk (st := s_law) l_law c_law k_law) T⟩
theorem walk {l : PySem.W.OpenLaw} {q : Program} {loose : List Str} {XP : (Str → Option Value) → Heap → Prop} {YP : World → Heap → Prop} {d : DefRec} {K : Params → PySem.W.Frag} (hn : l.most = some 63) (hdf : d.params.defaults = [])
    (hY : ∀ (w : World) (h : Heap), YP w h → (K w.params).In h)
    (F : ∀ (w : World) (mg : Str → Option Value) (fa : Addr) (h : Heap), (K w.params).In h → h.Ns mainGlobals mg → mg d.name = some (.ref fa) →
      ∃ fd : FuncData, (∀ (s : Shared) (u : Value), BindsTo s fd ⟨[u], []⟩ [("_law_script", u)]) ∧ ∀ base : Heap, (K w.params).In base → base.Ns mainGlobals mg → FnOk l.prog w (K w.params) mg base CX0 7 fa fd ["_law_script"] (spLaw (K w.params))) :
    PySem.W.WalkO q loose XP YP l.row.toRowW d [] (fun f vs => PySem.call f vs) :=
  L2.walk_of (n := 63) (k := 7) (x := "_law_script") (CX := fun _ => CX0) (sp := fun w => spLaw (K w.params)) hn (by decide) hdf ⟨rfl, by decide, by decide⟩ hY F (fun _ _ a ns hl _ hS => ⟨a, ns, rfl, hS, hl, fun _ => rfl⟩) fun _ _ _ _ _ z => z
end
end Toy
open PySem PySem.W PyProof.Rows in
set_option maxRecDepth 100000 in
set_option maxHeartbeats 0 in
theorem PySem.Challenge.cw_planstore_k03_no_schemas_holds : PySem.Challenge.rw_planstore_k03_no_schemas.Holds := by
  w_on; o_law; k_head; (case hw => w_witness2)
  k_fill
  refine Toy.walk (l := PySem.Challenge.rw_planstore_k03_no_schemas) rfl rfl (fun w h Y => PySem.W.kIn_of Y) ?F
  case F =>
    intro w mg fa h KX G hmg
    refine' Toy.all_mk KX G hmg ?a_Schema ?pg_Schema ?hd_Schema ?po_Schema ?sa_Schema ?mk_Schema ?kc_Schema ?n_Schema_columns ?n_Schema_kept_orders ?a_StoreError ?a_NoSchema ?a_TooMany ?a_NoOrder ?a_NoTable ?a_NoColumn ?a_NoPlan ?a_is_name ?l_is_name ?c_is_name ?k_is_name ?a_is_kind ?l_is_kind ?c_is_kind ?k_is_kind ?a_is_row_of ?l_is_row_of ?c_is_row_of ?k_is_row_of ?a_need_pair ?l_need_pair ?c_need_pair ?k_need_pair ?a_columns_in ?l_columns_in ?c_columns_in ?k_columns_in ?a_tables_in ?l_tables_in ?c_tables_in ?k_tables_in ?a_orders_in ?l_orders_in ?c_orders_in ?k_orders_in ?a_Schema___init__ ?i_Schema___init__ ?l_Schema___init__ ?c_Schema___init__ ?k_Schema___init__ ?lD_Schema___init__ ?a_Schema_table_names ?i_Schema_table_names ?l_Schema_table_names ?c_Schema_table_names ?k_Schema_table_names ?a_law_cell ?l_law_cell ?c_law_cell ?k_law_cell ?a_law_draws ?l_law_draws ?c_law_draws ?k_law_draws ?a_law_names ?l_law_names ?c_law_names ?k_law_names ?a_law_schema ?l_law_schema ?c_law_schema ?k_law_schema ?a_law_refused ?l_law_refused ?c_law_refused ?k_law_refused ?a_law_strange ?l_law_strange ?c_law_strange ?k_law_strange ?a_law_bad_column ?l_law_bad_column ?c_law_bad_column ?k_law_bad_column ?a_law_bad_table ?l_law_bad_table ?c_law_bad_table ?k_law_bad_table ?a_law_bad_order ?l_law_bad_order ?c_law_bad_order ?k_law_bad_order ?a_law_whole ?l_law_whole ?c_law_whole ?k_law_whole ?a_law ?l_law ?c_law ?k_law ?xF_NoSchema ?kc_NoSchema ?xg_NoSchema ?xk_NoSchema ?xd_NoSchema ?xa_NoSchema ?xm_NoSchema ?sb_NoSchema ?cb_NoSchema ?tb_NoSchema ?sb_StoreError ?cb_StoreError ?tb_StoreError ?sb_TooMany ?cb_TooMany ?tb_TooMany ?sb_NoOrder ?cb_NoOrder ?tb_NoOrder ?sb_NoTable ?cb_NoTable ?tb_NoTable ?sb_NoColumn ?cb_NoColumn ?tb_NoColumn ?sb_NoPlan ?cb_NoPlan ?tb_NoPlan ?xn ?xt ?sub_NoSchema_NoSchema ?sub_NoSchema_StoreError ?sub_NoSchema_NoColumn ?sub_NoSchema_NoOrder ?sub_NoSchema_NoPlan ?sub_NoSchema_NoTable ?sub_NoSchema_TooMany ?sub_NoColumn_NoColumn ?sub_NoOrder_NoOrder ?sub_NoPlan_NoPlan ?sub_NoTable_NoTable ?sub_TooMany_TooMany ?z_abs ?z_enumerate ?z_int ?z_isinstance ?z_len ?z_list ?z_range ?z_str ?z_tuple ?u_LETTERS ?u_MOST_COLUMNS ?u_MOST_ORDERS ?u_MOST_SIGNS ?u_MOST_TABLES
    (case a_Schema => k_is)
    (case pg_Schema => k_is)
    (case hd_Schema => k_is)
    (case po_Schema => k_is)
    (case sa_Schema => k_is)
    (case mk_Schema => k_is)
    (case kc_Schema => k_is)
    (case n_Schema_columns => k_is)
    (case n_Schema_kept_orders => k_is)
    (case a_StoreError => k_is)
    (case a_NoSchema => k_is)
    (case a_TooMany => k_is)
    (case a_NoOrder => k_is)
    (case a_NoTable => k_is)
    (case a_NoColumn => k_is)
    (case a_NoPlan => k_is)
    (case a_is_name => k_is)
    (case l_is_name => k_is)
    (case c_is_name => k_is)
    (case k_is_name => k_is)
    (case a_is_kind => k_is)
    (case l_is_kind => k_is)
    (case c_is_kind => k_is)
    (case k_is_kind => k_is)
    (case a_is_row_of => k_is)
    (case l_is_row_of => k_is)
    (case c_is_row_of => k_is)
    (case k_is_row_of => k_is)
    (case a_need_pair => k_is)
    (case l_need_pair => k_is)
    (case c_need_pair => k_is)
    (case k_need_pair => k_is)
    (case a_columns_in => k_is)
    (case l_columns_in => k_is)
    (case c_columns_in => k_is)
    (case k_columns_in => k_is)
    (case a_tables_in => k_is)
    (case l_tables_in => k_is)
    (case c_tables_in => k_is)
    (case k_tables_in => k_is)
    (case a_orders_in => k_is)
    (case l_orders_in => k_is)
    (case c_orders_in => k_is)
    (case k_orders_in => k_is)
    (case a_Schema___init__ => k_is)
    (case i_Schema___init__ => k_is)
    (case l_Schema___init__ => k_is)
    (case c_Schema___init__ => k_is)
    (case k_Schema___init__ => k_is)
    (case lD_Schema___init__ => k_is)
    (case a_Schema_table_names => k_is)
    (case i_Schema_table_names => k_is)
    (case l_Schema_table_names => k_is)
    (case c_Schema_table_names => k_is)
    (case k_Schema_table_names => k_is)
    (case a_law_cell => k_is)
    (case l_law_cell => k_is)
    (case c_law_cell => k_is)
    (case k_law_cell => k_is)
    (case a_law_draws => k_is)
    (case l_law_draws => k_is)
    (case c_law_draws => k_is)
    (case k_law_draws => k_is)
    (case a_law_names => k_is)
    (case l_law_names => k_is)
    (case c_law_names => k_is)
    (case k_law_names => k_is)
    (case a_law_schema => k_is)
    (case l_law_schema => k_is)
    (case c_law_schema => k_is)
    (case k_law_schema => k_is)
    (case a_law_refused => k_is)
    (case l_law_refused => k_is)
    (case c_law_refused => k_is)
    (case k_law_refused => k_is)
    (case a_law_strange => k_is)
    (case l_law_strange => k_is)
    (case c_law_strange => k_is)
    (case k_law_strange => k_is)
    (case a_law_bad_column => k_is)
    (case l_law_bad_column => k_is)
    (case c_law_bad_column => k_is)
    (case k_law_bad_column => k_is)
    (case a_law_bad_table => k_is)
    (case l_law_bad_table => k_is)
    (case c_law_bad_table => k_is)
    (case k_law_bad_table => k_is)
    (case a_law_bad_order => k_is)
    (case l_law_bad_order => k_is)
    (case c_law_bad_order => k_is)
    (case k_law_bad_order => k_is)
    (case a_law_whole => k_is)
    (case l_law_whole => k_is)
    (case c_law_whole => k_is)
    (case k_law_whole => k_is)
    (case a_law => k_is)
    (case l_law => k_is)
    (case c_law => k_is)
    (case k_law => k_is)
    (case xF_NoSchema => k_exc)
    (case kc_NoSchema => k_is)
    (case xg_NoSchema => k_is)
    (case xk_NoSchema => k_is)
    (case xd_NoSchema => k_is)
    (case xa_NoSchema => k_is)
    (case xm_NoSchema => k_is)
    (case sb_NoSchema => k_is)
    (case cb_NoSchema => k_is)
    (case tb_NoSchema => k_is)
    (case sb_StoreError => k_is)
    (case cb_StoreError => k_is)
    (case tb_StoreError => k_is)
    (case sb_TooMany => k_is)
    (case cb_TooMany => k_is)
    (case tb_TooMany => k_is)
    (case sb_NoOrder => k_is)
    (case cb_NoOrder => k_is)
    (case tb_NoOrder => k_is)
    (case sb_NoTable => k_is)
    (case cb_NoTable => k_is)
    (case tb_NoTable => k_is)
    (case sb_NoColumn => k_is)
    (case cb_NoColumn => k_is)
    (case tb_NoColumn => k_is)
    (case sb_NoPlan => k_is)
    (case cb_NoPlan => k_is)
    (case tb_NoPlan => k_is)
    (case xn => k_is)
    (case xt => k_is)
    (case sub_NoSchema_NoSchema => k_is)
    (case sub_NoSchema_StoreError => k_is)
    (case sub_NoSchema_NoColumn => k_is)
    (case sub_NoSchema_NoOrder => k_is)
    (case sub_NoSchema_NoPlan => k_is)
    (case sub_NoSchema_NoTable => k_is)
    (case sub_NoSchema_TooMany => k_is)
    (case sub_NoColumn_NoColumn => k_is)
    (case sub_NoOrder_NoOrder => k_is)
    (case sub_NoPlan_NoPlan => k_is)
    (case sub_NoTable_NoTable => k_is)
    (case sub_TooMany_TooMany => k_is)
    (case z_abs => k_is)
    (case z_enumerate => k_is)
    (case z_int => k_is)
    (case z_isinstance => k_is)
    (case z_len => k_is)
    (case z_list => k_is)
    (case z_range => k_is)
    (case z_str => k_is)
    (case z_tuple => k_is)
    (case u_LETTERS => k_is)
    (case u_MOST_COLUMNS => k_is)
    (case u_MOST_ORDERS => k_is)
    (case u_MOST_SIGNS => k_is)
    (case u_MOST_TABLES => k_is)
