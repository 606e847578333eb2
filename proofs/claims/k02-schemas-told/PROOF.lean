import PyProof.Rows.All
import Wide.All
import OpenK.AllK
import Wide.FinOn
import HandS.ForMost
import HandS.WideBits
import HandS.RaiseMore
import HandS.IsInst
import HandS.TryOnly
import HandS.Exc
import HandS.Evl
import HandS.TupLe
import HandS.TupAny
import HandS.Walk
import HandS.Deep
import HandS.ListItems
import HandS.Conv
import HandS.Defaults
import HandS.Zip
import HandS.More
import KE.GoesZip
import KE.GoesMore
import PySem.Challenge.RW_planstore_k02_schemas_told
set_option Elab.async false
set_option linter.all false
set_option maxRecDepth 100000
set_option maxHeartbeats 40000000
/-! ### the state of a def: blocks of objects that are ours, over a frame that stands still -/
namespace Z
open PySem L2
structure Hs (L : List (Addr × HO)) (F H : Hp) : Prop where
  nd : (L.map (·.1)).Nodup
  own : ∀ p o, (p, o) ∈ L → H p = some o ∧ F p = none
  fr : ∀ b o, F b = some o → H b = some o
/-- every cell of the block stands -/
def Sees (b : List (Addr × HO)) (H : Hp) : Prop := ∀ p o, (p, o) ∈ b → H p = some o
theorem Sees.same {b : List (Addr × HO)} {H H' : Hp} (s : Sees b H) (e : Same H H') : Sees b H' := fun p o m => e p o (s p o m)
theorem Sees.at {b : List (Addr × HO)} {H : Hp} (s : Sees b H) (i : Nat) {p : Addr} {o : HO} (h : b[i]? = some (p, o)) : H p = some o := s p o (List.mem_of_getElem? h)
section
variable {L L1 L2 : List (Addr × HO)} {F H H' : Hp} {p : Addr} {o o' : HO}
theorem Hs.same (S : Hs L F H) : Same F H := S.fr
theorem Hs.sees (S : Hs L F H) : Sees L H := fun p o m => (S.own p o m).1
theorem Hs.at (S : Hs L F H) (i : Nat) (h : L[i]? = some (p, o)) : H p = some o := S.sees.at i h
theorem Hs.nil : Hs [] H H := ⟨List.nodup_nil, fun _ _ m => (nomatch m), fun _ _ e => e⟩
theorem Hs.ext (S : Hs L F H) (e : Same H H') : Hs L F H' := ⟨S.nd, fun p o m => ⟨e p o (S.own p o m).1, (S.own p o m).2⟩, fun b o q => e b o (S.fr b o q)⟩
theorem Hs.fresh (S : Hs L F H) (hp : H p = none) : p ∉ L.map (·.1) ∧ F p = none := by
  refine ⟨fun m => ?_, ?_⟩
  · obtain ⟨⟨q, u⟩, m, e⟩ := List.mem_map.mp m
    have h := (S.own q u m).1
    have e' : q = p := e
    rw [e', hp] at h
    cases h
  · cases h : F p with
    | none => rfl
    | some u => rw [S.fr p u h] at hp; cases hp
theorem same_new (hp : H p = none) : Same H (upd H p o) := fun b u e => by rw [upd_ne (ne_of_none e hp)]; exact e
theorem Hs.add (S : Hs L F H) (e : Same H H') (hp : H p = none) (h : H' p = some o) : Hs ((p, o) :: L) F H' := by
  obtain ⟨h1, h2⟩ := S.fresh hp
  refine ⟨List.nodup_cons.mpr ⟨h1, S.nd⟩, fun q u m => ?_, fun b u q => e b u (S.fr b u q)⟩
  rcases List.mem_cons.mp m with m | m
  · cases m
    exact ⟨h, h2⟩
  · exact ⟨e q u (S.own q u m).1, (S.own q u m).2⟩
theorem Hs.new (S : Hs L F H) (hp : H p = none) : Hs ((p, o) :: L) F (upd H p o) := S.add (same_new hp) hp upd_same
theorem Hs.head (S : Hs ((p, o) :: L) F H) (o' : HO) : Hs ((p, o') :: L) F (upd H p o') := by
  have nd := S.nd
  rw [List.map_cons, List.nodup_cons] at nd
  refine ⟨by rw [List.map_cons, List.nodup_cons]; exact nd, fun q u m => ?_, fun b u q => ?_⟩
  · rcases List.mem_cons.mp m with m | m
    · cases m
      exact ⟨upd_same, (S.own p o List.mem_cons_self).2⟩
    · have hne : q ≠ p := fun e => nd.1 (List.mem_map.mpr ⟨(q, u), m, e⟩)
      have h := S.own q u (List.mem_cons_of_mem _ m)
      exact ⟨by rw [upd_ne hne]; exact h.1, h.2⟩
  · have hne : b ≠ p := fun e => by
      have := (S.own p o List.mem_cons_self).2
      rw [e, this] at q
      cases q
    rw [upd_ne hne]
    exact S.fr b u q
theorem Hs.perm (S : Hs L F H) (e : L.Perm L1) : Hs L1 F H := ⟨(e.map _).nodup_iff.mp S.nd, fun p o m => S.own p o (e.mem_iff.mpr m), S.fr⟩
theorem set_perm : ∀ {L : List (Addr × HO)} {i : Nat} {x : Addr × HO}, L[i]? = some x → ∀ y, (L.set i y).Perm (y :: L.eraseIdx i)
  | [], i, x, h, y => by simp at h
  | a :: r, 0, x, h, y => List.Perm.refl _
  | a :: r, i + 1, x, h, y => by
    have ih := set_perm (L := r) (i := i) (x := x) (by simpa using h) y
    exact (List.Perm.cons a ih).trans (List.Perm.swap _ _ _)
theorem self_perm {L : List (Addr × HO)} {i : Nat} {x : Addr × HO} (h : L[i]? = some x) : L.Perm (x :: L.eraseIdx i) := by
  have e := set_perm h x
  have : L.set i x = L := by
    obtain ⟨h1, h2⟩ := List.getElem?_eq_some_iff.mp h
    rw [← h2]
    exact List.set_getElem_self h1
  rw [this] at e
  exact e
theorem Hs.set (S : Hs L F H) (i : Nat) (h : L[i]? = some (p, o)) (o' : HO) : Hs (L.set i (p, o')) F (upd H p o') :=
  ((S.perm (self_perm h)).head o').perm (set_perm h (p, o')).symm
theorem Hs.sub (S : Hs L F H) (e : L1.Sublist L) : Hs L1 F H := ⟨(e.map _).nodup S.nd, fun p o m => S.own p o (e.subset m), S.fr⟩
/-- some cells, by their places, in any order -/
theorem Hs.pick (S : Hs L F H) : ∀ (is : List Nat) {L' : List (Addr × HO)}, is.Nodup → is.map (fun i => L[i]?) = L'.map some → Hs L' F H
  | is, L', hn, h => by
    have mem : ∀ x ∈ L', ∃ i ∈ is, L[i]? = some x := fun x hx => by
      have : some x ∈ is.map (fun i => L[i]?) := by rw [h]; exact List.mem_map.mpr ⟨x, hx, rfl⟩
      obtain ⟨i, hi, e⟩ := List.mem_map.mp this
      exact ⟨i, hi, e⟩
    refine ⟨?_, fun p o m => ?_, S.fr⟩
    · clear mem
      induction is generalizing L' with
      | nil =>
        cases L' with
        | nil => exact List.nodup_nil
        | cons a r => cases h
      | cons i is ih =>
        cases L' with
        | nil => cases h
        | cons a r =>
          rw [List.map_cons, List.map_cons, List.cons.injEq] at h
          obtain ⟨h1, h2⟩ := h
          rw [List.nodup_cons] at hn
          rw [List.map_cons, List.nodup_cons]
          refine ⟨fun m => ?_, ih r hn.2 h2⟩
          obtain ⟨b, hb, e⟩ := List.mem_map.mp m
          have : some b ∈ is.map (fun i => L[i]?) := by rw [h2]; exact List.mem_map.mpr ⟨b, hb, rfl⟩
          obtain ⟨j, hj, e2⟩ := List.mem_map.mp this
          have f1 : (L.map (·.1))[i]? = some a.1 := by rw [List.getElem?_map, h1]; rfl
          have f2 : (L.map (·.1))[j]? = some b.1 := by rw [List.getElem?_map]; show Option.map _ (L[j]?) = _; rw [e2]; rfl
          rw [e] at f2
          have : i = j := nd_ix S.nd f1 f2
          rw [this] at hn
          exact hn.1 hj
    · obtain ⟨i, _, e⟩ := mem _ m
      exact S.own p o (List.mem_of_getElem? e)
/-- what stands beside L1 goes into the frame, and comes back behind -/
theorem Hs.split (S : Hs (L1 ++ L2) F H) : ∃ F', Hs L1 F' H ∧ (Same F F' ∧ Sees L2 F') ∧ ∀ L' H', Hs L' F' H' → Hs (L' ++ L2) F H' := by
  have nd := S.nd
  rw [List.map_append, List.nodup_append] at nd
  obtain ⟨n1, n2, n3⟩ := nd
  have key : ∀ p o, (p, o) ∈ L2 → List.lookup p L2 = some o := by
    clear S n3
    induction L2 with
    | nil => intro p o m; cases m
    | cons a r ih =>
      intro p o m
      rw [List.map_cons, List.nodup_cons] at n2
      obtain ⟨q, u⟩ := a
      rcases List.mem_cons.mp m with m | m
      · cases m
        simp [List.lookup]
      · have hne : p ≠ q := fun e => n2.1 (List.mem_map.mpr ⟨(p, o), m, e⟩)
        have hb : (p == q) = false := by simpa using hne
        simp only [List.lookup, hb]
        exact ih n2.2 p o m
  have back : ∀ p o, List.lookup p L2 = some o → (p, o) ∈ L2 := by
    clear S n3 n2 key
    induction L2 with
    | nil => intro p o m; cases m
    | cons a r ih =>
      intro p o m
      obtain ⟨q, u⟩ := a
      by_cases e : p = q
      · subst e
        simp [List.lookup] at m
        subst m
        exact List.mem_cons_self
      · have hb : (p == q) = false := by simpa using e
        simp only [List.lookup, hb] at m
        exact List.mem_cons_of_mem _ (ih p o m)
  refine ⟨fun b => (List.lookup b L2).or (F b), ⟨n1, fun p o m => ⟨(S.own p o (List.mem_append_left _ m)).1, ?_⟩, fun b o q => ?_⟩, ⟨fun b o q => ?_, fun p o m => by simp [key p o m]⟩, fun L' H' S' => ⟨?_, fun p o m => ?_, fun b o q => ?_⟩⟩
  · cases h : List.lookup p L2 with
    | none => exact (S.own p o (List.mem_append_left _ m)).2
    | some u => exact absurd rfl (n3 p (List.mem_map.mpr ⟨_, m, rfl⟩) p (List.mem_map.mpr ⟨_, back p u h, rfl⟩))
  · cases h : List.lookup b L2 with
    | none =>
      have q' : F b = some o := by simpa [h] using q
      exact S.fr b o q'
    | some u =>
      have q' : u = o := by simpa [h] using q
      subst q'
      exact (S.own b u (List.mem_append_right _ (back b u h))).1
  · show (List.lookup b L2).or (F b) = some o
    cases h : List.lookup b L2 with
    | none => exact q
    | some u => rw [(S.own b u (List.mem_append_right _ (back b u h))).2] at q; cases q
  · rw [List.map_append, List.nodup_append]
    refine ⟨S'.nd, n2, fun a ha b hb e => ?_⟩
    subst e
    obtain ⟨⟨q, u⟩, m, rfl⟩ := List.mem_map.mp ha
    obtain ⟨⟨q', u'⟩, m', e⟩ := List.mem_map.mp hb
    have e' : q' = q := e
    subst e'
    have h := (S'.own _ u m).2
    simp [key _ u' m'] at h
  · rcases List.mem_append.mp m with m | m
    · obtain ⟨h1, h2⟩ := S'.own p o m
      refine ⟨h1, ?_⟩
      cases h : List.lookup p L2 with
      | none => simpa [h] using h2
      | some u => simp [h] at h2
    · exact ⟨S'.fr p o (by simp [key p o m]), (S.own p o (List.mem_append_right _ m)).2⟩
  · refine S'.fr b o ?_
    show (List.lookup b L2).or (F b) = some o
    cases h : List.lookup b L2 with
    | none => exact q
    | some u => rw [(S.own b u (List.mem_append_right _ (back b u h))).2] at q; cases q
theorem flat_perm : ∀ {Ls : List (List (Addr × HO))} {i : Nat} {b : List (Addr × HO)}, Ls[i]? = some b → ∀ c, (Ls.set i c).flatten.Perm (c ++ (Ls.eraseIdx i).flatten)
  | [], i, b, h, c => by simp at h
  | a :: r, 0, b, h, c => List.Perm.refl _
  | a :: r, i + 1, b, h, c => by
    have ih := flat_perm (Ls := r) (i := i) (b := b) (by simpa using h) c
    show (a ++ (r.set i c).flatten).Perm (c ++ (a ++ (r.eraseIdx i).flatten))
    refine (List.Perm.append_left a ih).trans ?_
    rw [← List.append_assoc, ← List.append_assoc]
    exact List.Perm.append_right _ List.perm_append_comm
theorem set_self {α : Type} {Ls : List α} {i : Nat} {b : α} (h : Ls[i]? = some b) : Ls.set i b = Ls := by
  obtain ⟨h1, h2⟩ := List.getElem?_eq_some_iff.mp h
  rw [← h2]
  exact List.set_getElem_self h1
/-- the i-th block taken out, changed, put back -/
theorem Hs.block {Ls : List (List (Addr × HO))} (S : Hs Ls.flatten F H) (i : Nat) {b : List (Addr × HO)} (h : Ls[i]? = some b) :
    ∃ F', Hs b F' H ∧ (Same F F' ∧ Sees (Ls.eraseIdx i).flatten F') ∧ ∀ c H', Hs c F' H' → Hs (Ls.set i c).flatten F H' := by
  have p := flat_perm h b
  rw [set_self h] at p
  obtain ⟨F', S', sm, k⟩ := (S.perm p).split
  exact ⟨F', S', sm, fun c H' q => (k c H' q).perm (flat_perm h c).symm⟩
/-- another block in the stead of the i-th -/
theorem Hs.swap {Ls : List (List (Addr × HO))} {c : List (Addr × HO)} (S : Hs (c ++ Ls.flatten) F H) (i : Nat) {b : List (Addr × HO)} (h : Ls[i]? = some b) : Hs (Ls.set i c).flatten F H := by
  have p := flat_perm h b
  rw [set_self h] at p
  have S1 : Hs (c ++ (b ++ (Ls.eraseIdx i).flatten)) F H := S.perm (List.Perm.append_left c p)
  exact (S1.sub (List.Sublist.append_left (List.sublist_append_right _ _) c)).perm (flat_perm h c).symm
theorem Hs.join {new : List (Addr × HO)} (N : Hs new H H') (S : Hs L F H) : Hs (new ++ L) F H' := by
  refine ⟨?_, fun p o m => ?_, fun b o q => N.fr b o (S.fr b o q)⟩
  · rw [List.map_append, List.nodup_append]
    refine ⟨N.nd, S.nd, fun a ha b hb e => ?_⟩
    subst e
    obtain ⟨⟨q, u⟩, m, rfl⟩ := List.mem_map.mp ha
    obtain ⟨⟨q', u'⟩, m', e⟩ := List.mem_map.mp hb
    have e' : q' = q := e
    subst e'
    have h1 := (N.own _ u m).2
    rw [(S.own _ u' m').1] at h1
    cases h1
  · rcases List.mem_append.mp m with m | m
    · obtain ⟨h1, h2⟩ := N.own p o m
      refine ⟨h1, ?_⟩
      cases h : F p with
      | none => rfl
      | some u => rw [S.fr p u h] at h2; cases h2
    · obtain ⟨h1, h2⟩ := S.own p o m
      exact ⟨N.fr p o h1, h2⟩
theorem Hs.base {F0 : Hp} (S : Hs L F H) (e : Same F0 F) : Hs L F0 H := ⟨S.nd, fun p o m => ⟨(S.own p o m).1, e.free (S.own p o m).2⟩, fun b o q => S.fr b o (e b o q)⟩
/-- all else into the frame -/
theorem Hs.all (S : Hs L F H) : ∃ F', Hs L F' H ∧ (∀ b o, b ∉ L.map (·.1) → H b = some o → F' b = some o) ∧ Same F F' := by
  refine ⟨fun b => if b ∈ L.map (·.1) then none else H b, ⟨S.nd, fun p o m => ⟨(S.own p o m).1, if_pos (List.mem_map.mpr ⟨_, m, rfl⟩)⟩, fun b o q => ?_⟩, fun b o h q => (if_neg h).trans q, fun b o q => ?_⟩
  · by_cases h : b ∈ L.map (·.1)
    · rw [if_pos h] at q; cases q
    · rwa [if_neg h] at q
  · have h : b ∉ L.map (·.1) := fun h => by
      obtain ⟨⟨p, u⟩, m, e⟩ := List.mem_map.mp h
      have e' : p = b := e
      rw [← e', (S.own p u m).2] at q
      cases q
    exact (if_neg h).trans (S.fr b o q)
theorem Hs.blk {Ls : List (List (Addr × HO))} (S : Hs Ls.flatten F H) (i : Nat) {b : List (Addr × HO)} (h : Ls[i]? = some b) : Sees b H := fun p o m =>
  (S.own p o (List.mem_flatten.mpr ⟨b, List.mem_of_getElem? h, m⟩)).1
end
end Z
/-! ### readings, one word a construct -/
namespace Z
open PySem L2
/-- one of several readings, chosen where it is asked -/
def tEx {ι : Type} (p : ι → Prop) (t : ι → TE) : TE := fun σ H Q => ∃ i, p i ∧ t i σ H Q
/-- a new list, a new tuple of these values -/
abbrev rLst (xs : List V) (H : Hp) (Q : VK) : Prop := xs.length ≤ sizeLine ∧ ∀ p, H p = none → Q (.ref p) (upd H p (.lst xs))
abbrev rTup (xs : List V) (H : Hp) (Q : VK) : Prop := xs.length ≤ sizeLine ∧ ∀ p, H p = none → Q (.ref p) (upd H p (.tup xs))
/-- C(), no __init__ but object's -/
def tMakeO (C : Addr) : TE := fun _ H Q => ∀ a dx, H a = none → H dx = none → dx ≠ a → Q (.ref a) (upd (upd H dx (.own a)) a (.ins C dx []))
/-- a slice's part that may be None -/
def tPartN (t : TE) : TO := fun σ H Q => t σ H fun x H1 => (x = .non ∧ Q none H1) ∨ ∃ i, x = .int i ∧ Q (some i) H1
section
variable {σ : L2.St} {H : Hp} {Q : VK} {QB : Bool → Hp → Prop} {D : Ends} {t1 t2 ts tu : TS} {te ta tb tv tx : TE} {tt t u : TT} {v x y : V} {i : Nat} {K : PySem.W.Frag} {R : List V → Hp → Prop} {tA tr : TA}
theorem seq (h : t1 { D with nx := t2 D } σ H) : tSeq t1 t2 D σ H := h
theorem next (h : D.nx σ H) : tNext D σ H := h
theorem var (h : σ[i]? = some (some v)) (k : Q v H) : tVar i σ H Q := ⟨v, h, k⟩
theorem con (k : Q v H) : tC v σ H Q := k
theorem asg (h : te σ H fun x H1 => D.nx (σ.set i (some x)) H1) : tAsg te (gName i) D σ H := h
theorem drop (h : te σ H fun _ H1 => D.nx σ H1) : tDrop te D σ H := h
theorem ret (h : te σ H D.rt) : tRet te D σ H := h
theorem retN (h : D.rt .non H) : tRetN D σ H := h
theorem ifS (h : tt σ H fun b H1 => if b = true then t1 D σ H1 else t2 D σ H1) : tIfS tt t1 t2 D σ H := h
theorem op {r : R2} (h : ta σ H fun x H1 => tb σ H1 fun y H2 => r x y H2 Q) : tOp r ta tb σ H Q := h
theorem un {r : V → Hp → VK → Prop} (h : ta σ H fun x H1 => r x H1 Q) : tUn r ta σ H Q := h
theorem i0 {g : Int → Int → V} {a b : Int} (k : Q (g a b) H) : rI0 g (.int a) (.int b) H Q := ⟨a, b, rfl, rfl, k⟩
theorem ic {C : Int → Int → Prop} {g : Int → Int → V} {a b : Int} (c : C a b) (k : Q (g a b) H) : rI C g (.int a) (.int b) H Q := ⟨a, b, rfl, rfl, c, k⟩
theorem eqS (h : scal x y = true) (k : Q (.bl (decide (x = y))) H) : rEq x y H Q := ⟨h, k⟩
theorem neS (h : scal x y = true) (k : Q (.bl (!decide (x = y))) H) : rNe x y H Q := ⟨h, k⟩
theorem test {b : Bool} (h : te σ H fun x H' => ∃ k, x = .bl k ∧ QB k H') : tTest te σ H QB := h
theorem tstB {b : Bool} (k : QB b H) : ∃ k, (V.bl b) = .bl k ∧ QB k H := ⟨b, rfl, k⟩
theorem bB (h : te σ H fun x H1 => ∃ c, x = .bl c ∧ QB c H1) : tB te σ H QB := h
theorem andT (h : t σ H fun c H1 => if c = true then u σ H1 QB else QB false H1) : tAnd t u σ H QB := h
theorem orT (h : t σ H fun c H1 => if c = true then QB true H1 else u σ H1 QB) : tOr t u σ H QB := h
theorem notT (h : t σ H fun c H1 => QB (!c) H1) : tNot t σ H QB := h
theorem andV (h : ta σ H fun x H1 => ∃ c, x = .bl c ∧ if c = true then tb σ H1 Q else Q (.bl false) H1) : tAndV ta tb σ H Q := h
theorem orV (h : ta σ H fun x H1 => ∃ c, x = .bl c ∧ if c = true then Q (.bl true) H1 else tb σ H1 Q) : tOrV ta tb σ H Q := h
theorem notV (h : ta σ H fun x H1 => ∃ c, x = .bl c ∧ Q (.bl (!c)) H1) : tNotV ta σ H Q := h
theorem ifE (h : tt σ H fun c H1 => if c = true then ta σ H1 Q else tb σ H1 Q) : tIf tt ta tb σ H Q := h
theorem blE {b : Bool} {P : Bool → Prop} (k : P b) : ∃ c, (V.bl b) = .bl c ∧ P c := ⟨b, rfl, k⟩
theorem nil (k : R [] H) : tNil σ H R := k
theorem cons (h : ta σ H fun x H1 => tr σ H1 fun xs H2 => R (x :: xs) H2) : tCons ta tr σ H R := h
theorem fld {f : Str} (h : ta σ H fun x H1 => ∃ a C dx fs v, x = .ref a ∧ H1 a = some (.ins C dx fs) ∧ Cls K C ∧ NoAttr K C f ∧ fs.lookup f = some v ∧ Q v H1) : tFld K ta f σ H Q := h
theorem fldE {a C dx : Addr} {fs : List (Str × V)} {f : Str} {R : V → Prop} (ho : H a = some (.ins C dx fs)) (c : Cls K C) (n : NoAttr K C f) (l : fs.lookup f = some v) (k : R v) :
    ∃ a' C dx fs v, (V.ref a) = .ref a' ∧ H a' = some (.ins C dx fs) ∧ Cls K C ∧ NoAttr K C f ∧ fs.lookup f = some v ∧ R v := ⟨a, C, dx, fs, v, rfl, ho, c, n, l, k⟩
theorem sfld {f : Str} (h : tv σ H fun y H1 => ta σ H1 fun x H2 => ∃ a C dx fs, x = .ref a ∧ H2 a = some (.ins C dx fs) ∧ Cls K C ∧ NoAttr K C f ∧ fs.length < 1000 ∧ D.nx σ (upd H2 a (.ins C dx (putF f y fs)))) : sFld K ta tv f D σ H := h
theorem sfldE {a C dx : Addr} {fs : List (Str × V)} {f : Str} {R : Addr → Addr → Addr → List (Str × V) → Prop} (ho : H a = some (.ins C dx fs)) (c : Cls K C) (n : NoAttr K C f) (l : fs.length < 1000) (k : R a C dx fs) :
    ∃ a' C dx fs, (V.ref a) = .ref a' ∧ H a' = some (.ins C dx fs) ∧ Cls K C ∧ NoAttr K C f ∧ fs.length < 1000 ∧ R a' C dx fs := ⟨a, C, dx, fs, rfl, ho, c, n, l, k⟩
theorem aug {f : Str} {rd : V → V → Hp → VK → Prop} (h : ta σ H fun x H1 => ∃ a C dx fs v, x = .ref a ∧ H1 a = some (.ins C dx fs) ∧ Cls K C ∧ NoAttr K C f ∧ fs.lookup f = some v ∧
    tv σ H1 fun y H2 => rd v y H2 fun z H3 => ∃ dx' fs', H3 a = some (.ins C dx' fs') ∧ fs'.length < 1000 ∧ D.nx σ (upd H3 a (.ins C dx' (putF f z fs')))) : sFldAug K ta tv rd f D σ H := h
theorem augE {a C dx : Addr} {fs : List (Str × V)} {R : Addr → List (Str × V) → Prop} (ho : H a = some (.ins C dx fs)) (l : fs.length < 1000) (k : R dx fs) :
    ∃ dx fs, H a = some (.ins C dx fs) ∧ fs.length < 1000 ∧ R dx fs := ⟨dx, fs, ho, l, k⟩
theorem augV {a C dx : Addr} {fs : List (Str × V)} {f : Str} {R : Addr → Addr → V → Prop} (ho : H a = some (.ins C dx fs)) (c : Cls K C) (n : NoAttr K C f) (l : fs.lookup f = some v) (k : R a C v) :
    ∃ a' C dx fs v, (V.ref a) = .ref a' ∧ H a' = some (.ins C dx fs) ∧ Cls K C ∧ NoAttr K C f ∧ fs.lookup f = some v ∧ R a' C v := ⟨a, C, dx, fs, v, rfl, ho, c, n, l, k⟩
theorem rAddE {a b : Int} {R : V → Hp → Prop} (k : R (.int (a + b)) H) : rAdd (.int a) (.int b) H R := ⟨a, b, rfl, rfl, k⟩
theorem isN {P : Prop} (k : P) : (V.non = .non) ∧ P := ⟨rfl, k⟩
theorem lstE {vs : List V} (hz : vs.length ≤ 1000) (k : ∀ p, H p = none → Q (.ref p) (upd H p (.lst vs))) : vs.length ≤ sizeLine ∧ ∀ p, H p = none → Q (.ref p) (upd H p (.lst vs)) := ⟨Nat.le_trans hz (by decide), k⟩
theorem lst (h : tA σ H fun xs H1 => rLst xs H1 Q) : tLst tA σ H Q := h
theorem tup (h : tA σ H fun xs H1 => rTup xs H1 Q) : tTup tA σ H Q := h
theorem call {sp : Sp} {E : XK} (h : tA σ H fun vs H1 => sp (vs ++ []) H1 Q E) : tCall sp [] E tA σ H Q := h
theorem iteD {p A B : Prop} [Decidable p] (h1 : p → A) (h2 : ¬ p → B) : if decide p = true then A else B := by
  by_cases h : p
  · rw [if_pos (decide_eq_true h)]; exact h1 h
  · rw [if_neg (by rw [decide_eq_false h]; exact Bool.false_ne_true)]; exact h2 h
theorem iteN {p A B : Prop} [Decidable p] (h1 : ¬ p → A) (h2 : p → B) : if (!decide p) = true then A else B := by
  by_cases h : p
  · rw [if_neg (by rw [decide_eq_true h]; exact Bool.false_ne_true)]; exact h2 h
  · rw [if_pos (by rw [decide_eq_false h]; rfl)]; exact h1 h
theorem iteSelf {α : Type} {a : α} {A B : Prop} [Decidable (a = a)] (k : A) : if decide (a = a) = true then A else B := by rw [if_pos (decide_eq_true rfl)]; exact k
theorem iteNSelf {α : Type} {a : α} {A B : Prop} [Decidable (a = a)] (k : B) : if (!decide (a = a)) = true then A else B := by rw [if_neg (by rw [decide_eq_true rfl]; exact Bool.false_ne_true)]; exact k
theorem setLE {p : Addr} {xs : List V} {i : Nat} {v : V} {R : Hp → Prop} (ho : H p = some (.lst xs)) (hi : i < xs.length) (k : R (upd H p (.lst (xs.set i v)))) : rSetL (.ref p) (.int i) v H R :=
  ⟨p, xs, i, i, rfl, rfl, ho, by unfold ixN; rw [if_pos (by omega), if_pos (by omega)]; simp, k⟩
theorem m0 {r : V → List V → Hp → VK → Prop} (h : ta σ H fun x H1 => (∃ a, x = .str a) ∧ r x [] H1 Q) : tM0 r ta σ H Q := h
theorem m1 {r : V → List V → Hp → VK → Prop} (h : ta σ H fun x H1 => (∃ a, x = .str a) ∧ te σ H1 fun y H2 => r x [y] H2 Q) : tM1 r ta te σ H Q := h
theorem lenSeq {p : Addr} {xs : List V} {R : List V → Prop} (h : SqL K H p xs) (k : R xs) : ∃ q ys, [V.ref p] = [.ref q] ∧ (SqL K H q ys ∨ SqT K H q ys) ∧ R ys := ⟨p, xs, rfl, .inl h, k⟩
theorem ixAll {p : Addr} {xs : List V} {z : Int} {G : V → Prop} (h : SqL K H p xs) (h0 : 0 ≤ z) (h1 : z < xs.length) (hp : ∀ x ∈ xs, G x) (k : ∀ v, G v → xs[z.toNat]? = some v → Q v H) : rIxL K (.ref p) (.int z) H Q := by
  have hz : z.toNat < xs.length := by omega
  have e : xs[z.toNat]? = some xs[z.toNat] := List.getElem?_eq_getElem hz
  refine ⟨p, xs, z, xs[z.toNat], rfl, rfl, h, ?_, k _ (hp _ (List.getElem_mem hz)) e⟩
  have e2 := atI_nat e
  have e3 : ((z.toNat : Nat) : Int) = z := by omega
  rwa [e3] at e2
theorem ixL {p : Addr} {xs : List V} {i : Nat} {v : V} (h : SqL K H p xs) (e : xs[i]? = some v) (k : Q v H) : rIxL K (.ref p) (.int i) H Q := ⟨p, xs, i, v, rfl, rfl, h, atI_nat e, k⟩
theorem iteTd {b : Bool} {A B : Prop} (h : b = true) (k : A) : if b = true then A else B := by rw [if_pos h]; exact k
theorem iteFd {b : Bool} {A B : Prop} (h : b = false) (k : B) : if b = true then A else B := by rw [if_neg (by rw [h]; exact Bool.false_ne_true)]; exact k
theorem gcons {t : TG} {u : TGs} {v : V} {r : List V} {R : L2.St → Hp → Prop} (h : t v σ H fun σ' H' => u r σ' H' R) : gCons t u (v :: r) σ H R := ⟨v, r, rfl, h⟩
theorem gnil {R : L2.St → Hp → Prop} (k : R σ H) : gNil [] σ H R := ⟨rfl, k⟩
theorem gname {v : V} {R : L2.St → Hp → Prop} (k : R (σ.set i (some v)) H) : gName i v σ H R := k
theorem partN {R : Option Int → Hp → Prop} (h : te σ H fun x H1 => (x = .non ∧ R none H1) ∨ ∃ i, x = .int i ∧ R (some i) H1) : tPartN te σ H R := h
theorem forR1 {g : TG} (h : tA σ H fun vs H1 => ∃ j : Int, vs = [.int j] ∧ -(2 ^ 62) ≤ j ∧ j < 2 ^ 62 ∧ ∃ W : Nat → Nat → L2.St → Hp → Prop, (∃ m, W 0 m σ H1) ∧ ∀ i m σ H, W i m σ H →
      ((Itr 0 j.toNat).stop i H ∧ D.nx σ H) ∨ ((Itr 0 j.toNat).go i H ∧ ∃ N : L2.St → Hp → Prop, (∀ σ' H', N σ' H' → ∃ m', m' < m ∧ W (i + 1) m' σ' H') ∧ ∀ x H', (Itr 0 j.toNat).yld i H x H' → g x σ H' fun σ2 H2 => ts { D with nx := N, ct := N, bk := D.nx } σ2 H2)) :
    tFor (iRng1 tA) g ts D σ H := h
theorem forL {tl : TE} {g : TG} (h : tl σ H fun x H1 => ∃ a, x = .ref a ∧ (∃ xs, SqL K H1 a xs) ∧ ∃ W : Nat → Nat → L2.St → Hp → Prop, (∃ m, W 0 m σ H1) ∧ ∀ i m σ H, W i m σ H →
      ((Itl K a).stop i H ∧ D.nx σ H) ∨ ((Itl K a).go i H ∧ ∃ N : L2.St → Hp → Prop, (∀ σ' H', N σ' H' → ∃ m', m' < m ∧ W (i + 1) m' σ' H') ∧ ∀ x H', (Itl K a).yld i H x H' → g x σ H' fun σ2 H2 => ts { D with nx := N, ct := N, bk := D.nx } σ2 H2)) :
    tFor (iList K tl) g ts D σ H := h
theorem rng {n : Nat} {P : Nat → Prop} (hn : n ≤ 100000) (k : P n) : ∃ j : Int, [V.int (n : Int)] = [.int j] ∧ -(2 ^ 62) ≤ j ∧ j < 2 ^ 62 ∧ P j.toNat := ⟨n, rfl, by omega, by omega, by rw [Int.toNat_natCast]; exact k⟩
theorem cut {M : L2.St → Hp → Prop} (h : tu { D with nx := M } σ H) (k : ∀ σ' H', M σ' H' → ts D σ' H') : Evl.tCut tu ts D σ H := ⟨M, h, k⟩
theorem meth {C : Addr} {m : Str} {sp : Sp} {dvs : List V} {E : XK} (h : ta σ H fun x H1 => ∃ a dx fs, x = .ref a ∧ H1 a = some (.ins C dx fs) ∧ fs.lookup m = none ∧ tA σ H1 fun vs H2 => sp (x :: (vs ++ dvs)) H2 Q E) : tMeth C m sp dvs E ta tA σ H Q := h
theorem methE {C a dx : Addr} {fs : List (Str × V)} {m : Str} {P : Prop} (ho : H a = some (.ins C dx fs)) (l : fs.lookup m = none) (k : P) :
    ∃ a' dx fs, (V.ref a) = .ref a' ∧ H a' = some (.ins C dx fs) ∧ fs.lookup m = none ∧ P := ⟨a, dx, fs, rfl, ho, l, k⟩
theorem make {C : Addr} {sp : Sp} {dvs : List V} {E : XK} (h : tA σ H fun vs H1 => ∀ x dx, H1 x = none → H1 dx = none → dx ≠ x →
    sp (.ref x :: (vs ++ dvs)) (upd (upd H1 dx (.own x)) x (.ins C dx [])) (fun v H2 => v = .non ∧ Q (.ref x) H2) E) : tMake C sp dvs E tA σ H Q := h
theorem makeO {C : Addr} (h : ∀ a dx, H a = none → H dx = none → dx ≠ a → Q (.ref a) (upd (upd H dx (.own a)) a (.ins C dx []))) : tMakeO C σ H Q := h
theorem mkO {L : List (Addr × HO)} {F : Hp} {a dx C : Addr} (S : Hs L F H) (h1 : H a = none) (h2 : H dx = none) (h3 : dx ≠ a) : Hs ((a, .ins C dx []) :: L) F (upd (upd H dx (.own a)) a (.ins C dx [])) :=
  (S.ext (same_new h2)).new (by rw [upd_ne (Ne.symm h3)]; exact h1)
theorem sl {r : V → Option Int → Option Int → Hp → VK → Prop} {tl th : TO} (h : te σ H fun x H1 => tl σ H1 fun l H2 => th σ H2 fun u H3 => r x l u H3 Q) : tSl r te tl th σ H Q := h
theorem noPart {R : Option Int → Hp → Prop} (k : R none H) : tNoPart σ H R := k
theorem part {R : Option Int → Hp → Prop} (h : te σ H fun x H1 => ∃ i, x = .int i ∧ R (some i) H1) : tPart te σ H R := h
theorem partE {i : Int} {P : Int → Prop} (k : P i) : ∃ j, (V.int i) = .int j ∧ P j := ⟨i, rfl, k⟩
theorem slS {z : Str} {lo hi : Option Int} (hz : z.length ≤ 10000) (k : Q (.str (cutS z lo hi)) H) : rSlS (.str z) lo hi H Q := ⟨z, rfl, Nat.le_trans hz (by decide), k⟩
theorem bm {T : String} {r : V → List V → Hp → VK → Prop} (h : ta σ H fun x H1 => tyV K T x H1 ∧ tA σ H1 fun xs H2 => r x xs H2 Q) : tBM K T r ta tA σ H Q := h
theorem bm0 {T : String} {r : V → List V → Hp → VK → Prop} (h : ta σ H fun x H1 => tyV K T x H1 ∧ r x [] H1 Q) : tBM0 K T r ta σ H Q := h
theorem asgG {g : TG} (h : te σ H fun x H1 => g x σ H1 D.nx) : tAsg te g D σ H := h
theorem gsub {to ti : TE} {t : TSet} {v : V} {R : L2.St → Hp → Prop} (h : to σ H fun o H1 => ti σ H1 fun i H2 => t o i v H2 fun H3 => R σ H3) : gSub to ti t v σ H R := h
theorem dget {td ty : TE} (h : td σ H fun x H1 => ty σ H1 fun y H2 => ∃ a v, x = .ref a ∧ DGet H2 a y (some v) ∧ Q v H2) : tDGet td ty σ H Q := h
theorem dgetE {a : Addr} {kvs : List (Key × V)} {k : Key} {v : V} {R : V → Prop} (ho : H a = some (.dK kvs)) (e : valV kvs k = some v) (q : R v) : ∃ a' v, (V.ref a) = .ref a' ∧ DGet H a' (kV k) (some v) ∧ R v := ⟨a, v, rfl, e ▸ DGet.k ho, q⟩
theorem dgetS {a : Addr} {kvs : List (Key × V)} {k : Str} {v : V} {R : V → Prop} (ho : H a = some (.dK kvs)) (e : valV kvs (Sum.inr k) = some v) (q : R v) : ∃ a' v, (V.ref a) = .ref a' ∧ DGet H a' (.str k) (some v) ∧ R v := ⟨a, v, rfl, e ▸ DGet.k (k := Sum.inr k) ho, q⟩
theorem dput {td ty : TE} (h : tv σ H fun v H1 => td σ H1 fun x H2 => ty σ H2 fun y H3 => ∃ a H4, x = .ref a ∧ DPut H3 a y v H4 ∧ D.nx σ H4) : sDPut td ty tv D σ H := h
theorem dputS {a : Addr} {kvs kvs' : List (Key × V)} {k : Str} {v : V} {R : Hp → Prop} (ho : H a = some (.dK kvs)) (l : kvs.length < 1000) (e : putK kvs (Sum.inr k) v = kvs') (q : R (upd H a (.dK kvs'))) :
    ∃ a' H4, (V.ref a) = .ref a' ∧ DPut H a' (.str k) v H4 ∧ R H4 := ⟨a, _, rfl, DPut.k (k := Sum.inr k) ho (Nat.lt_of_lt_of_le l (by decide)), by rw [e]; exact q⟩
theorem pairsN {R : List (V × V) → Hp → Prop} (k : R [] H) : tPairs [] σ H R := k
theorem pairsC {tk : TE} {r : List (TE × TE)} {R : List (V × V) → Hp → Prop} (h : tk σ H fun x H1 => tv σ H1 fun y H2 => tPairs r σ H2 fun ps H3 => R ((x, y) :: ps) H3) : tPairs ((tk, tv) :: r) σ H R := h
theorem yes {R : Bool → Hp → Prop} (k : R true H) : tYes σ H R := k
theorem addS {a b : Str} {R : Str → Str → Prop} (hz : a.length + b.length ≤ 100000) (k : R a b) : ∃ i j, (V.str a) = .str i ∧ (V.str b) = .str j ∧ i.length + j.length ≤ sizeLine ∧ R i j := ⟨a, b, rfl, rfl, Nat.le_trans hz (by decide), k⟩
theorem cb {r : List V → Hp → VK → Prop} (h : tA σ H fun vs H1 => r vs H1 Q) : tCB r tA σ H Q := h
end
theorem look_ne {f g : Str} {v : V} {r : List (Str × V)} (h : decide (f = g) = false) : List.lookup f ((g, v) :: r) = List.lookup f r := by
  have hb : (f == g) = false := by simpa using h
  simp only [List.lookup, hb]
theorem look_eq {f : Str} {v : V} {r : List (Str × V)} : List.lookup f ((f, v) :: r) = some v := by simp [List.lookup]
theorem put_ne {f g : Str} {v w : V} {r : List (Str × V)} (h : decide (g = f) = false) : putF f v ((g, w) :: r) = (g, w) :: putF f v r := by
  have hb : ¬ g = f := by simpa using h
  rw [putF, if_neg hb]
theorem put_eq {f : Str} {v w : V} {r : List (Str × V)} : putF f v ((f, w) :: r) = (f, v) :: r := by rw [putF, if_pos rfl]
theorem put_nil {f : Str} {v : V} : putF f v [] = [(f, v)] := rfl
section
open PyProof.Rows
variable {X : Cx} {x : Str} {i : Int} {z : Str} {t : Tok} {pos : Pos}
theorem pe_gint (hg : Gl X x) (hm : ∃ t, X.mg x = some (.int i t)) (hd : (x == ("__debug__" : Str)) = false := by decide) : PE X (.Name x pos) (tC (.int i)) := let ⟨_, h⟩ := hm; pe_glob hg h ⟨_, rfl⟩ hd
theorem kit_self {K : PySem.W.Frag} {C : Addr} : PySem.W.kitOne K (.ref C) (.ref C) = some true := by
  unfold PySem.W.kitOne
  rw [if_pos (by simp)]
theorem kit_yes {K : PySem.W.Frag} {C R : Addr} (h1 : PySem.W.isClsIn K R = true) (h2 : PySem.W.typeIn K (.ref R) = some (.type "type")) (h3 : PySem.W.subIn K (.ref C) (.ref R) = some true) : PySem.W.kitOne K (.ref C) (.ref R) = some true := by
  unfold PySem.W.kitOne
  by_cases e : (Value.ref C == Value.ref R) = true
  · rw [if_pos e]
  · rw [if_neg e]
    unfold PySem.W.kitCls
    have h1' : (PySem.W.clsIn K R).isSome = true := h1
    have e2 : ((PySem.W.clsIn K R).isSome && PySem.W.typeIn K (.ref R) == some (.type "type")) = true := by rw [h1', h2] <;> rfl
    show (if ((PySem.W.clsIn K R).isSome && PySem.W.typeIn K (.ref R) == some (.type "type")) = true then PySem.W.subIn K (.ref C) (.ref R) else none) = some true
    rw [if_pos e2]
    exact h3
theorem kit_no {K : PySem.W.Frag} {C R : Addr} (h1 : PySem.W.isClsIn K R = true) (h2 : PySem.W.typeIn K (.ref R) = some (.type "type")) (h3 : PySem.W.subIn K (.ref C) (.ref R) = some false) (hne : C ≠ R) : PySem.W.kitOne K (.ref C) (.ref R) = some false := by
  unfold PySem.W.kitOne
  rw [if_neg (by simpa using hne)]
  unfold PySem.W.kitCls
  have h1' : (PySem.W.clsIn K R).isSome = true := h1
  have e2 : ((PySem.W.clsIn K R).isSome && PySem.W.typeIn K (.ref R) == some (.type "type")) = true := by rw [h1', h2] <;> rfl
  show (if ((PySem.W.clsIn K R).isSome && PySem.W.typeIn K (.ref R) == some (.type "type")) = true then PySem.W.subIn K (.ref C) (.ref R) else none) = some false
  rw [if_pos e2]
  exact h3
theorem pe_ex {X : Cx} {e : Expr} {ι : Type} {p : ι → Prop} {t : ι → TE} (h : ∀ i, p i → PE X e (t i)) : PE X e (tEx p t) := ⟨fun pins s σ H Q I ⟨i, hp, hq⟩ => (h i hp).run pins s σ H Q I hq⟩
theorem pe_makeO {X : Cx} {C : Addr} {x : Str} {p pos : Pos} (hmk : PySem.W.makesIn X.K C = true) (hi : PySem.W.findIn X.K (.ref C) "__init__" = some (some (.builtin "object.__init__"))) (kp : PySem.W.keepIn X.K (.ref C) = true) (hg : Gl X x) (hm : X.mg x = some (.ref C))
    (hdb : (x == ("__debug__" : Str)) = false := by decide) : PE X (.Call (.Name x p) [] [] pos) (tMakeO C) := by
  refine ⟨fun pins s σ H Q I h => ?_⟩
  refine wpAny_Call_Name_kw (ld_glob I hg hm ?_ hdb)
  refine PySem.W.callWith_K0 I.kIn kp ?_
  show wpAny _ _ (PySem.call (Value.ref C) []) _ _ _
  refine wpAny_call ?_
  have hq := h (s.heap.objs.size + 1) s.heap.objs.size (I.hok.fresh (Nat.le_succ _)) (I.hok.fresh (Nat.le_refl _)) (Nat.ne_of_lt (Nat.lt_succ_self _))
  have I2 := Inv.made (C := C) I
  have Y := PySem.W.makes_of (M := model X.prog X.w) I.kIn hmk
  have L0 := PySem.W.looks_findIn (M := model X.prog X.w) I.kIn hi
  obtain ⟨hh, g, d, t, os⟩ := s
  refine PySem.W.make_core Y L0 (fun self => PySem.W.Looks.of_pure (PySem.W.oi_bind self)) (.inr ⟨rfl, rfl⟩) ?_
  have e2 : ((hh.push PySem.W.emptyDict).push (PySem.W.instObj C hh.objs.size)).get? (hh.objs.size + 1) = some (PySem.W.instObj C hh.objs.size) := by
    have := Heap.get?_push_size (hh.push PySem.W.emptyDict) (o := PySem.W.instObj C hh.objs.size) rfl
    rwa [Heap.size_push] at this
  have t1 : PySem.W.Looks (model X.prog X.w) ((hh.push PySem.W.emptyDict).push (PySem.W.instObj C hh.objs.size)) (typeOf (.ref (hh.objs.size + 1))) (.ref C) := (PySem.W.Looks.ld e2).andThen .now
  have t2 : PySem.W.Looks (model X.prog X.w) ((hh.push PySem.W.emptyDict).push (PySem.W.instObj C hh.objs.size)) (isInstance (.ref (hh.objs.size + 1)) (.type "object")) true := t1.andThen (Y.top.keeps fun b o e => Heap.get?_push_of_some _ (Heap.get?_push_of_some _ e))
  refine codeAny_call_builtin PySem.W.oi_plain PySem.W.entry_oi (@PySem.W.check_slot (model X.prog X.w) _ _ _ "object.__init__" "object" "__init__" (.ref (hh.objs.size + 1)) [] [] _ PySem.W.oi_kind PySem.W.oi_split t2 (PySem.W.oi_args (.ref (hh.objs.size + 1))) ?_)
  rw [PySem.W.oi_run]
  exact wpAny_pure (And.intro rfl ⟨V.ref _, _, I2, rfl, hq⟩)
theorem pe_gstr (hg : Gl X x) (hm : ∃ t, X.mg x = some (.str z t)) (hd : (x == ("__debug__" : Str)) = false := by decide) : PE X (.Name x pos) (tC (.str z)) := let ⟨_, h⟩ := hm; pe_glob hg h ⟨_, rfl⟩ hd
end
end Z
/-! ### further rules -/
namespace Z
open PySem L2 PyProof.Rows
/-- a text times an int -/
def rRepS : R2 := fun x y H Q => ∃ (z : Str) (n : Int), x = .str z ∧ y = .int n ∧ z.length ≤ 1000 ∧ 0 ≤ n ∧ n ≤ 1000 ∧ ∀ r : Str, r = Txt.mul z n → r.length ≤ z.length * n.toNat → Q (.str r) H
theorem mul_len (z : Str) (n : Int) : (Txt.mul z n).length ≤ z.length * n.toNat := by
  unfold Txt.mul
  by_cases h : n < 1
  · rw [if_pos h]
    exact Nat.zero_le _
  · rw [if_neg h]
    by_cases h2 : (n == 1 || z.length == 0) = true
    · rw [if_pos h2]
      have : 1 ≤ n.toNat := by omega
      exact Nat.le_mul_of_pos_right _ this
    · rw [if_neg h2]
      have gen : ∀ (k : Nat) (a : Array Nat), ((List.replicate k z.cps).foldl (· ++ ·) a).size = a.size + k * z.cps.size := by
        intro k
        induction k with
        | zero => intro a; simp
        | succ k ih =>
          intro a
          rw [List.replicate_succ, List.foldl_cons, ih, Array.size_append, Nat.succ_mul]
          omega
      show ((List.replicate n.toNat z.cps).foldl (· ++ ·) #[]).size ≤ z.cps.size * n.toNat
      rw [gen, Nat.mul_comm]
      simp
theorem op_repS {X : Cx} : OpR X (binaryOp .Mult) rRepS := by
  intro pins s σ H x y v u Q I rx ry h
  obtain ⟨z, n, rfl, rfl, hz, h0, h1, q⟩ := h
  obtain ⟨t, rfl⟩ := rx
  obtain ⟨t', rfl⟩ := ry
  refine SB.mul ⟨?_, fun _ _ => ?_, fun _ _ => ?_⟩ fun t2 k => ⟨.str (Txt.mul z n), H, I.tok _, ⟨_, rfl⟩, q _ rfl (mul_len z n)⟩
  · rw [Bool.or_eq_false_iff]
    exact ⟨decide_eq_false (by omega), decide_eq_false (by omega)⟩
  · have hn : 1 ≤ n := by omega
    have : (z.length : Int) ≤ (2 ^ 63 - 1) / n := by
      refine Int.le_ediv_of_mul_le (by omega) ?_
      have h2 : (z.length : Int) * n ≤ 1000 * 1000 := Int.mul_le_mul (by omega) h1 (by omega) (by omega)
      omega
    omega
  · show decide (z.length * n.toNat > sizeLine) = false
    refine decide_eq_false ?_
    have h2 : z.length * n.toNat ≤ 1000 * 1000 := Nat.mul_le_mul hz (by omega)
    rw [sizeLine_eq]
    omega
theorem po_val {X : Cx} {e : Expr} {te : TE} (h : PE X e te) : PO X (some e) (tPartN te) := by
  refine ⟨fun pins s σ H Q I hw => ?_⟩
  rw [evalPart_some]
  refine thn (h.run pins s σ H _ I hw) fun u s1 ⟨x, H1, I1, r1, q1⟩ => ?_
  rcases q1 with ⟨rfl, q⟩ | ⟨i, rfl, q⟩
  · cases r1
    exact ⟨none, H1, I1, .none, q⟩
  · obtain ⟨t, rfl⟩ := r1
    exact ⟨some i, H1, I1, .int i t, q⟩
def cutT (xs : List Str) (lo hi : Option Int) : List Str := (xs.drop (HT.sIx xs.length 0 lo)).take (HT.sIx xs.length xs.length hi - HT.sIx xs.length 0 lo)
theorem cutV_str (xs : List Str) (lo hi : Option Int) : cutV (xs.map V.str) lo hi = (cutT xs lo hi).map V.str := by
  unfold cutV cutT
  rw [List.length_map, List.map_take, List.map_drop]
theorem cutT_len (xs : List Str) (lo hi : Option Int) : (cutT xs lo hi).length ≤ xs.length := by
  unfold cutT
  rw [List.length_take, List.length_drop]
  omega
theorem dp_strs {K : PySem.W.Frag} {H : Hp} : ∀ xs : List Str, DpAll K H (xs.map V.str) (xs.map PyData.str)
  | [] => .nil
  | x :: r => .cons (.str x) (dp_strs r)
theorem lay_strs : ∀ xs : List Str, (∀ x ∈ xs, PyData.strOk x = true) → PyData.canLayAll0 (xs.map PyData.str) = true
  | [], _ => by simp [PyData.canLayAll0]
  | x :: r, h => by
    rw [List.map_cons, PyData.canLayAll0, lay_strs r fun y hy => h y (List.mem_cons_of_mem _ hy), Bool.and_true, PyData.canLay0]
    exact h x List.mem_cons_self
theorem depth_strs : ∀ xs : List Str, PyData.depthAll (xs.map PyData.str) = 0
  | [] => by simp [PyData.depthAll]
  | x :: r => by rw [List.map_cons, PyData.depthAll, depth_strs r]; simp [PyData.depth]
theorem shaped_strs {xs : List Str} (h : ∀ x ∈ xs, PyData.strOk x = true) : SeqAt.shaped (.list (xs.map PyData.str)) = true := by
  unfold SeqAt.shaped
  rw [Bool.and_eq_true]
  refine ⟨by rw [PyData.canLay0]; exact lay_strs xs h, decide_eq_true ?_⟩
  rw [PyData.depth, depth_strs]
  decide
theorem eqv_strs : ∀ xs : List Str, PyData.eqvAll (xs.map PyData.str) (xs.map PyData.str) = true
  | [] => by simp [PyData.eqvAll]
  | x :: r => by rw [List.map_cons, PyData.eqvAll, eqv_strs r]; simp [PyData.eqv]
theorem ok_app {x y : Str} (h1 : PyData.strOk x = true) (h2 : PyData.strOk y = true) : PyData.strOk (x ++ y) = true := by
  unfold PyData.strOk at *
  show (x.cps ++ y.cps).all _ = true
  rw [Array.all_append, h1, h2]
  rfl
theorem ok_cut {z : Str} {lo hi : Option Int} (h : PyData.strOk z = true) : PyData.strOk (cutS z lo hi) = true := by
  unfold PyData.strOk cutS at *
  rw [List.all_toArray, List.all_eq_true]
  intro x hx
  rw [Array.all_eq_true_iff_forall_mem] at h
  exact h x (by simpa using List.mem_of_mem_drop (List.mem_of_mem_take hx))
theorem ixS {z : Str} {i : Int} {Q : VK} {H : Hp} (hz : z.length ≤ 100000) (h0 : 0 ≤ i) (h1 : i < z.length) (k : ∀ c, z.cps.toList[i.toNat]? = some c → Q (.str ⟨#[c]⟩) H) : rIxS (.str z) (.int i) H Q := by
  have hl : i.toNat < z.cps.toList.length := by
    rw [Array.length_toList]
    have : z.length = z.cps.size := rfl
    omega
  have e := List.getElem?_eq_getElem hl
  refine ⟨z, i, _, rfl, rfl, Nat.le_trans hz (by decide), ?_, k _ e⟩
  have e2 := atI_nat e
  have e3 : ((i.toNat : Nat) : Int) = i := by omega
  rwa [e3] at e2
section
variable {K : PySem.W.Frag} {H : Hp} {Q : VK} {a b : Addr} {xs : List Str}
/-- two lists of the same texts -/
theorem eqStrs (ha : SqL K H a (xs.map V.str)) (hb : SqL K H b (xs.map V.str)) (h : ∀ x ∈ xs, PyData.strOk x = true) (k : Q (.bl true) H) : rEqD K (.ref a) (.ref b) H Q :=
  ⟨_, _, .lst ha (dp_strs xs), .lst hb (dp_strs xs), shaped_strs h, shaped_strs h, by rw [PyData.eqv, eqv_strs]; exact k⟩
theorem neStrs (ha : SqL K H a (xs.map V.str)) (hb : SqL K H b (xs.map V.str)) (h : ∀ x ∈ xs, PyData.strOk x = true) (k : Q (.bl false) H) : rNeD K (.ref a) (.ref b) H Q :=
  ⟨_, _, .lst ha (dp_strs xs), .lst hb (dp_strs xs), shaped_strs h, shaped_strs h, by rw [PyData.eqv, eqv_strs]; exact k⟩
end
end Z
local macro_rules | `(tactic| walk_at "z ne") => `(tactic| first | assumption | (refine Ne.symm ?_; assumption))
local macro_rules | `(tactic| walk_at "z hp") => `(tactic| first | assumption | (with_reducible exact L2.upd_same) | (refine (L2.upd_ne ?_).trans ?_; (walk_at "z ne"); walk_at "z hp"))
local macro_rules | `(tactic| walk_at "z ic") => `(tactic| first | decide | (show (0 : Int) < _; first | decide | omega) | (show (0 : Int) ≤ _; first | decide | omega) | exact ⟨by decide, by decide⟩ | exact ⟨by decide, by decide, by decide⟩ | exact .inl ⟨by omega, by omega⟩ | exact .inr ⟨by omega, by omega⟩ | exact ⟨by omega, by omega⟩)
local macro_rules | `(tactic| walk_at "z small") => `(tactic| (first | decide | (simp only [List.length_cons, List.length_nil]; decide) | omega))
local macro_rules | `(tactic| walk_at "z no") => `(tactic| rfl)
/-- a slot, an expression, a statement: as far as nothing is asked -/
local macro_rules | `(tactic| walk_at "z1") => `(tactic| first
  | (with_reducible refine Z.seq ?_) | (with_reducible refine Z.asg ?_) | (with_reducible refine Z.ret ?_) | (with_reducible refine Z.retN ?_) | (with_reducible refine Z.drop ?_) | (with_reducible refine Z.next ?_)
  | (with_reducible refine Z.ifS ?_) | (with_reducible refine Z.op ?_) | (with_reducible refine Z.un ?_) | (with_reducible refine Z.con ?_) | ((with_reducible refine' Z.var ?hv ?_); (case hv => exact rfl))
  | (with_reducible refine Z.i0 ?_) | ((with_reducible refine Z.eqS ?hs ?_); (case hs => exact rfl)) | ((with_reducible refine Z.neS ?hs ?_); (case hs => exact rfl))
  | (with_reducible refine Z.test (b := true) ?_) | (with_reducible refine Z.tstB ?_) | (with_reducible refine Z.bB ?_) | (with_reducible refine Z.andT ?_) | (with_reducible refine Z.orT ?_) | (with_reducible refine Z.notT ?_)
  | (with_reducible refine Z.andV ?_) | (with_reducible refine Z.orV ?_) | (with_reducible refine Z.notV ?_) | (with_reducible refine Z.ifE ?_) | (with_reducible refine Z.blE ?_)
  | (with_reducible refine Z.nil ?_) | (with_reducible refine Z.cons ?_) | (with_reducible refine Z.fld ?_) | (with_reducible refine Z.sfld ?_) | (with_reducible refine Z.aug ?_) | (with_reducible refine Z.rAddE ?_)
  | ((with_reducible refine' Z.fldE ?ho ?hc ?hn ?hl ?_); (case ho => walk_at "z hp"); (case hc => walk_at "z cls"); (case hn => walk_at "z attr"); (case hl => walk_at "z look"))
  | ((with_reducible refine' Z.augV ?ho ?hc ?hn ?hl ?_); (case ho => walk_at "z hp"); (case hc => walk_at "z cls"); (case hn => walk_at "z attr"); (case hl => walk_at "z look"))
  | ((with_reducible refine' Z.sfldE ?ho ?hc ?hn ?hl ?_); (case ho => walk_at "z hp"); (case hc => walk_at "z cls"); (case hn => walk_at "z attr"); (case hl => walk_at "z small"); walk_at "z put")
  | ((with_reducible refine' Z.augE ?ho ?hl ?_); (case ho => walk_at "z hp"); (case hl => walk_at "z small"); walk_at "z put")
  | (with_reducible refine Z.meth ?_) | ((with_reducible refine' Z.methE ?ho ?hl ?_); (case ho => walk_at "z hp"); (case hl => walk_at "z no"))
  | (with_reducible refine Z.make ?_) | (with_reducible refine Z.makeO ?_) | (with_reducible refine Z.m0 ?_) | (with_reducible refine Z.m1 ?_) | (with_reducible refine Z.sl ?_) | (with_reducible refine Z.noPart ?_) | (with_reducible refine Z.part ?_) | (with_reducible refine Z.partE ?_) | (with_reducible refine Z.bm ?_) | (with_reducible refine Z.bm0 ?_)
  | (with_reducible refine Z.pairsC ?_) | (with_reducible refine Z.pairsN ?_) | (with_reducible refine Z.yes ?_)
  | (with_reducible refine Z.gcons ?_) | (with_reducible refine Z.gnil ?_) | (with_reducible refine Z.gname ?_) | (with_reducible refine Z.partN ?_) | (with_reducible refine Z.forR1 ?_) | (with_reducible refine Z.forL ?_)
  | (with_reducible refine Z.asgG ?_) | (with_reducible refine Z.gsub ?_) | (with_reducible refine Z.dget ?_) | (with_reducible refine Z.dput ?_)
  | ((with_reducible refine' Z.dgetS ?ho ?he ?_); (case ho => walk_at "z hp"); (case he => walk_at "z val"))
  | ((with_reducible refine' Z.dputS ?ho ?hl ?he ?_); (case ho => walk_at "z hp"); (case hl => walk_at "z small"); (case he => walk_at "z putK"))
  | (with_reducible refine Z.lst ?_) | (with_reducible refine Z.tup ?_) | (with_reducible refine Z.call ?_) | (with_reducible refine Z.cb ?_) | ((with_reducible refine Z.ic ?hc ?_); (case hc => walk_at "z ic")))
local macro_rules | `(tactic| walk_at "z dec") => `(tactic| first | (refine Z.iteTd (by decide +kernel) ?_) | (refine Z.iteFd (by decide +kernel) ?_) | skip)
/-- .. and the tests whose answer stands there -/
theorem Z.iteId {b : Bool} {A B : Prop} (h : if b = true then A else B) : if b = true then A else B := h
local macro_rules | `(tactic| walk_at "z") => `(tactic| repeat (first | walk_at "z1" | ((with_reducible refine Z.iteId ?_); first | (refine L2.iteT ?_) | (refine L2.iteF ?_)) | (with_reducible refine Z.isN ?_) | (with_reducible refine Z.iteSelf ?_) | (with_reducible refine Z.iteNSelf ?_)))

/-! ### data that stands: what is known (F) within a heap (H); both grow -/
namespace Z
open PySem L2
section
variable {K : PySem.W.Frag} {F F' G H H' H0 F0 F1 H1 F2 H2 : Hp} {p : Addr} {o o' : HO} {L L1 : List (Addr × HO)}
theorem seqT {a : Addr} {xs : List V} (e : Same H H') (h : SqT K H a xs) : SqT K H' a xs := by
  rcases h with h | h
  · rcases h with h | ⟨o, h⟩
    · exact .inl (.inl (e _ _ h))
    · exact .inl (.inr ⟨o, e _ _ h⟩)
  · exact .inr h
theorem dp_same {v : V} {d : PyData} (e : Same H H') (h : Dp K H v d) : Dp K H' v d :=
  Dp.rec (motive_1 := fun v d _ => Dp K H' v d) (motive_2 := fun vs ds _ => DpAll K H' vs ds) .non .bl .int .str (fun h _ k => .lst (e.seq h) k) (fun h _ k => .tup (seqT e h) k) .nil (fun _ _ a b => .cons a b) h
theorem dpa_same {vs : List V} {ds : List PyData} (e : Same H H') (h : DpAll K H vs ds) : DpAll K H' vs ds :=
  DpAll.rec (motive_1 := fun v d _ => Dp K H' v d) (motive_2 := fun vs ds _ => DpAll K H' vs ds) .non .bl .int .str (fun h _ k => .lst (e.seq h) k) (fun h _ k => .tup (seqT e h) k) .nil (fun _ _ a b => .cons a b) h
theorem dp_int {v : V} {i : Int} (h : Dp K H v (.int i)) : v = .int i := by cases h; rfl
theorem dp_str {v : V} {z : Str} (h : Dp K H v (.str z)) : v = .str z := by cases h; rfl
theorem dp_bool {v : V} {b : Bool} (h : Dp K H v (.bool b)) : v = .bl b := by cases h; rfl
theorem dp_none {v : V} (h : Dp K H v .none) : v = .non := by cases h; rfl
theorem dp_tup {v : V} {ds : List PyData} (h : Dp K H v (.tuple ds)) : ∃ a vs, v = .ref a ∧ SqT K H a vs ∧ DpAll K H vs ds := by
  cases h with
  | tup h1 h2 => exact ⟨_, _, rfl, h1, h2⟩
theorem dp_lst {v : V} {ds : List PyData} (h : Dp K H v (.list ds)) : ∃ a vs, v = .ref a ∧ SqL K H a vs ∧ DpAll K H vs ds := by
  cases h with
  | lst h1 h2 => exact ⟨_, _, rfl, h1, h2⟩
theorem dpa_len : ∀ {vs : List V} {ds : List PyData}, DpAll K H vs ds → vs.length = ds.length
  | _, _, .nil => rfl
  | _, _, .cons _ r => by rw [List.length_cons, List.length_cons, dpa_len r]
theorem dpa_get : ∀ {vs : List V} {ds : List PyData} {i : Nat} {d : PyData}, DpAll K H vs ds → ds[i]? = some d → ∃ v, vs[i]? = some v ∧ Dp K H v d
  | _, _, i, _, .nil, e => by simp at e
  | _, _, 0, _, .cons h _, e => by cases e; exact ⟨_, rfl, h⟩
  | _, _, i + 1, _, .cons _ r, e => by
    obtain ⟨v, e1, e2⟩ := dpa_get (i := i) r (by simpa using e)
    exact ⟨v, by simpa using e1, e2⟩
theorem dpa_ix : ∀ {vs : List V} {ds : List PyData} {i : Nat} {v : V}, DpAll K H vs ds → vs[i]? = some v → ∃ d, ds[i]? = some d ∧ Dp K H v d
  | _, _, i, _, .nil, e => by simp at e
  | _, _, 0, _, .cons h _, e => by cases e; exact ⟨_, rfl, h⟩
  | _, _, i + 1, _, .cons _ r, e => by
    obtain ⟨v, e1, e2⟩ := dpa_ix (i := i) r (by simpa using e)
    exact ⟨v, by simpa using e1, e2⟩
theorem dpa_app : ∀ {vs ws : List V} {ds es : List PyData}, DpAll K H vs ds → DpAll K H ws es → DpAll K H (vs ++ ws) (ds ++ es)
  | _, _, _, _, .nil, k => k
  | _, _, _, _, .cons h r, k => .cons h (dpa_app r k)
theorem dpa_snoc {vs : List V} {ds : List PyData} {v : V} {d : PyData} (h : DpAll K H vs ds) (k : Dp K H v d) : DpAll K H (vs ++ [v]) (ds ++ [d]) := dpa_app h (.cons k .nil)
theorem dpa_drop : ∀ {vs : List V} {ds : List PyData} (n : Nat), DpAll K H vs ds → DpAll K H (vs.drop n) (ds.drop n)
  | _, _, 0, h => h
  | _, _, _ + 1, .nil => .nil
  | _, _, n + 1, .cons _ r => dpa_drop n r
theorem dpa_take : ∀ {vs : List V} {ds : List PyData} (n : Nat), DpAll K H vs ds → DpAll K H (vs.take n) (ds.take n)
  | _, _, 0, _ => .nil
  | _, _, _ + 1, .nil => .nil
  | _, _, n + 1, .cons h r => .cons h (dpa_take n r)
theorem dpa_eraseIdx : ∀ {vs : List V} {ds : List PyData} (n : Nat), DpAll K H vs ds → DpAll K H (vs.eraseIdx n) (ds.eraseIdx n)
  | _, _, 0, .nil => .nil
  | _, _, _ + 1, .nil => .nil
  | _, _, 0, .cons _ r => r
  | _, _, n + 1, .cons h r => .cons h (dpa_eraseIdx n r)
theorem dpa_strs : ∀ {vs : List V} {zs : List Str}, DpAll K H vs (zs.map PyData.str) → vs = zs.map V.str
  | _, [], .nil => rfl
  | _, z :: r, .cons h k => by rw [dp_str h, dpa_strs k]; rfl
theorem dpa_ints : ∀ {vs : List V} {zs : List Int}, DpAll K H vs (zs.map PyData.int) → vs = zs.map V.int
  | _, [], .nil => rfl
  | _, z :: r, .cons h k => by rw [dp_int h, dpa_ints k]; rfl
theorem dpa_of_strs : ∀ (zs : List Str), DpAll K H (zs.map V.str) (zs.map PyData.str)
  | [] => .nil
  | z :: r => .cons (.str z) (dpa_of_strs r)
theorem dpa_of_ints : ∀ (zs : List Int), DpAll K H (zs.map V.int) (zs.map PyData.int)
  | [] => .nil
  | z :: r => .cons (.int z) (dpa_of_ints r)
def cutD (xs : List PyData) (lo hi : Option Int) : List PyData := (xs.drop (HT.sIx xs.length 0 lo)).take (HT.sIx xs.length xs.length hi - HT.sIx xs.length 0 lo)
theorem dpa_cut {vs : List V} {ds : List PyData} {lo hi : Option Int} (h : DpAll K H vs ds) : DpAll K H (cutV vs lo hi) (cutD ds lo hi) := by
  unfold cutV cutD
  rw [dpa_len h]
  exact dpa_take _ (dpa_drop _ h)
/-- from (F0, H0) to (F, H): what is known grows within what stands; new knowledge is of new places -/
structure Gr (F0 H0 F H : Hp) : Prop where
  f : Same F0 F
  h : Same H0 H
  fh : Same F H
  nw : ∀ b o, F b = some o → F0 b = some o ∨ H0 b = none
theorem Gr.refl (e : Same F H) : Gr F H F H := ⟨Same.refl _, Same.refl _, e, fun _ _ h => .inl h⟩
theorem Gr.trans (a : Gr F0 H0 F1 H1) (b : Gr F1 H1 F2 H2) : Gr F0 H0 F2 H2 := ⟨a.f.trans b.f, a.h.trans b.h, b.fh, fun c o e => (b.nw c o e).elim (a.nw c o) fun n => .inr (a.h.free n)⟩
/-- the state of a def that changes nothing of its caller's: own cells L, all new -/
structure Ws (L : List (Addr × HO)) (F0 H0 F H : Hp) : Prop where
  g : Gr F0 H0 F H
  nd : (L.map (·.1)).Nodup
  own : ∀ p o, (p, o) ∈ L → H p = some o ∧ F p = none ∧ H0 p = none
theorem Ws.init (e : Same F H) : Ws [] F H F H := ⟨Gr.refl e, List.nodup_nil, fun _ _ m => nomatch m⟩
theorem Ws.fh (W : Ws L F0 H0 F H) : Same F H := W.g.fh
theorem Ws.f0 (W : Ws L F0 H0 F H) : Same F0 F := W.g.f
theorem Ws.sees (W : Ws L F0 H0 F H) : Sees L H := fun p o m => (W.own p o m).1
theorem Ws.at (W : Ws L F0 H0 F H) (i : Nat) (h : L[i]? = some (p, o)) : H p = some o := W.sees.at i h
theorem Ws.same (W : Ws L F0 H0 F H) : Same H0 H := W.g.h
theorem Ws.freeF (W : Ws L F0 H0 F H) (hp : H p = none) : F p = none := W.fh.free hp
theorem Ws.fresh (W : Ws L F0 H0 F H) (hp : H p = none) : p ∉ L.map (·.1) := fun m => by
  obtain ⟨⟨q, u⟩, m, e⟩ := List.mem_map.mp m
  have h := (W.own q u m).1
  have e' : q = p := e
  rw [e', hp] at h
  cases h
/-- an own cell made -/
theorem Ws.new (W : Ws L F0 H0 F H) (hp : H p = none) : Ws ((p, o) :: L) F0 H0 F (upd H p o) := by
  refine ⟨⟨W.g.f, W.g.h.trans (same_new hp), W.g.fh.trans (same_new hp), W.g.nw⟩, List.nodup_cons.mpr ⟨W.fresh hp, W.nd⟩, fun q u m => ?_⟩
  rcases List.mem_cons.mp m with m | m
  · cases m
    exact ⟨upd_same, W.freeF hp, W.g.h.free hp⟩
  · obtain ⟨a, b, c⟩ := W.own q u m
    exact ⟨same_new hp q u a, b, c⟩
/-- a piece of data made -/
theorem Ws.dat (W : Ws L F0 H0 F H) (hp : H p = none) : Ws L F0 H0 (upd F p o) (upd H p o) := by
  have fp := W.freeF hp
  refine ⟨⟨W.g.f.trans (same_new fp), W.g.h.trans (same_new hp), fun b u e => ?_, fun b u e => ?_⟩, W.nd, fun q u m => ?_⟩
  · by_cases h : b = p
    · subst h; rw [upd_same] at e ⊢; exact e
    · rw [upd_ne h] at e ⊢; exact W.g.fh b u e
  · by_cases h : b = p
    · subst h; exact .inr (W.g.h.free hp)
    · rw [upd_ne h] at e; exact W.g.nw b u e
  · obtain ⟨a, b, c⟩ := W.own q u m
    have hne : q ≠ p := ne_of_none a hp
    exact ⟨by rw [upd_ne hne]; exact a, by rw [upd_ne hne]; exact b, c⟩
theorem Ws.perm (W : Ws L F0 H0 F H) (e : L.Perm L1) : Ws L1 F0 H0 F H := ⟨W.g, (e.map _).nodup_iff.mp W.nd, fun p o m => W.own p o (e.mem_iff.mpr m)⟩
theorem Ws.head (W : Ws ((p, o) :: L) F0 H0 F H) (o' : HO) : Ws ((p, o') :: L) F0 H0 F (upd H p o') := by
  obtain ⟨a, b, c⟩ := W.own p o List.mem_cons_self
  have nd := W.nd
  rw [List.map_cons, List.nodup_cons] at nd
  refine ⟨⟨W.g.f, fun q u e => ?_, fun q u e => ?_, W.g.nw⟩, by rw [List.map_cons, List.nodup_cons]; exact nd, fun q u m => ?_⟩
  · have hne : q ≠ p := fun h => by rw [h, c] at e; cases e
    rw [upd_ne hne]; exact W.g.h q u e
  · have hne : q ≠ p := fun h => by rw [h, b] at e; cases e
    rw [upd_ne hne]; exact W.g.fh q u e
  · rcases List.mem_cons.mp m with m | m
    · cases m
      exact ⟨upd_same, b, c⟩
    · have hne : q ≠ p := fun e => nd.1 (List.mem_map.mpr ⟨(q, u), m, e⟩)
      obtain ⟨x, y, z⟩ := W.own q u (List.mem_cons_of_mem _ m)
      exact ⟨by rw [upd_ne hne]; exact x, y, z⟩
theorem Ws.set (W : Ws L F0 H0 F H) (i : Nat) (h : L[i]? = some (p, o)) (o' : HO) : Ws (L.set i (p, o')) F0 H0 F (upd H p o') :=
  ((W.perm (self_perm h)).head o').perm (set_perm h (p, o')).symm
theorem Ws.sub (W : Ws L F0 H0 F H) (e : L1.Sublist L) : Ws L1 F0 H0 F H := ⟨W.g, (e.map _).nodup W.nd, fun p o m => W.own p o (e.subset m)⟩
/-- an own cell becomes data -/
theorem Ws.frz1 (W : Ws ((p, o) :: L) F0 H0 F H) : Ws L F0 H0 (upd F p o) H := by
  obtain ⟨a, b, c⟩ := W.own p o List.mem_cons_self
  have nd := W.nd
  rw [List.map_cons, List.nodup_cons] at nd
  refine ⟨⟨W.g.f.trans (same_new b), W.g.h, fun q u e => ?_, fun q u e => ?_⟩, nd.2, fun q u m => ?_⟩
  · by_cases h : q = p
    · subst h; rw [upd_same] at e; cases e; exact a
    · rw [upd_ne h] at e; exact W.g.fh q u e
  · by_cases h : q = p
    · subst h; exact .inr c
    · rw [upd_ne h] at e; exact W.g.nw q u e
  · have hne : q ≠ p := fun e => nd.1 (List.mem_map.mpr ⟨(q, u), m, e⟩)
    obtain ⟨x, y, z⟩ := W.own q u (List.mem_cons_of_mem _ m)
    exact ⟨x, by rw [upd_ne hne]; exact y, z⟩
theorem Ws.frz (W : Ws L F0 H0 F H) (i : Nat) (h : L[i]? = some (p, o)) : ∃ F', Ws (L.eraseIdx i) F0 H0 F' H ∧ Same F F' ∧ F' p = some o := by
  have W1 := W.perm (self_perm h)
  exact ⟨_, W1.frz1, same_new (W1.own p o List.mem_cons_self).2.1, upd_same⟩
/-- behind a def that changed nothing -/
theorem Ws.ext (W : Ws L F0 H0 F H) (g : Gr F H F' H') : Ws L F0 H0 F' H' := by
  refine ⟨W.g.trans g, W.nd, fun p o m => ?_⟩
  obtain ⟨a, b, c⟩ := W.own p o m
  refine ⟨g.h p o a, ?_, c⟩
  cases e : F' p with
  | none => rfl
  | some u =>
    rcases g.nw p u e with h | h
    · rw [b] at h; cases h
    · rw [a] at h; cases h
theorem Ws.exts (W : Ws L F0 H0 F H) (g : Same H H') : Ws L F0 H0 F H' := ⟨⟨W.g.f, W.g.h.trans g, W.g.fh.trans g, W.g.nw⟩, W.nd, fun p o m => let ⟨a, b, c⟩ := W.own p o m; ⟨g p o a, b, c⟩⟩
end
section
variable {K : PySem.W.Frag} {F H F0 H0 : Hp} {L : List (Addr × HO)} {Q : VK} {vs xs : List V} {ds es : List PyData} {d : PyData} {v : V} {a p : Addr}
theorem lstW (W : Ws L F0 H0 F H) (k : ∀ p H', Ws ((p, .lst vs) :: L) F0 H0 F H' → Q (.ref p) H') (hz : vs.length ≤ 100000 := by first | decide | (simp only [List.length_cons, List.length_nil]; decide)) : rLst vs H Q :=
  ⟨Nat.le_trans hz (by decide), fun p hp => k p _ (W.new hp)⟩
/-- a list that nobody changes any more -/
theorem lstD (W : Ws L F0 H0 F H) (hd : DpAll K F vs ds) (k : ∀ v F' H', Ws L F0 H0 F' H' → Same F F' → Dp K F' v (.list ds) → Q v H') (hz : vs.length ≤ 100000 := by first | decide | (simp only [List.length_cons, List.length_nil]; decide)) : rLst vs H Q :=
  ⟨Nat.le_trans hz (by decide), fun p hp => k _ _ _ (W.dat hp) (same_new (W.freeF hp)) (.lst (SqL.of upd_same) (dpa_same (same_new (W.freeF hp)) hd))⟩
theorem tupD (W : Ws L F0 H0 F H) (hd : DpAll K F vs ds) (k : ∀ v F' H', Ws L F0 H0 F' H' → Same F F' → Dp K F' v (.tuple ds) → Q v H') (hz : vs.length ≤ 100000 := by first | decide | (simp only [List.length_cons, List.length_nil]; decide)) : rTup vs H Q :=
  ⟨Nat.le_trans hz (by decide), fun p hp => k _ _ _ (W.dat hp) (same_new (W.freeF hp)) (.tup (SqT.of upd_same) (dpa_same (same_new (W.freeF hp)) hd))⟩
/-- xs.append(e) of an own list -/
theorem appW (W : Ws L F0 H0 F H) (i : Nat) (h : L[i]? = some (p, .lst xs)) (k : ∀ H', Ws (L.set i (p, .lst (xs ++ [v]))) F0 H0 F H' → Q .non H') (hz : xs.length < 100000) : rAppend (.ref p) [v] H Q :=
  ⟨p, xs, v, rfl, rfl, W.at i h, Nat.lt_of_lt_of_le hz (by decide), k _ (W.set i h _)⟩
end
end Z
/-! ### readings over data -/
namespace Z
open PySem PySem.Spec L2 PyProof.Rows
theorem Ws.hs {L : List (Addr × HO)} {F0 H0 F H : Hp} (W : Ws L F0 H0 F H) : Hs L F H := ⟨W.nd, fun p o m => ⟨(W.own p o m).1, (W.own p o m).2.1⟩, W.fh⟩
theorem Ws.hs0 {L : List (Addr × HO)} {F0 H0 F H : Hp} (W : Ws L F0 H0 F H) : Hs L H0 H := ⟨W.nd, fun p o m => ⟨(W.own p o m).1, (W.own p o m).2.2⟩, W.same⟩
theorem Ws.pick {L L' : List (Addr × HO)} {F0 H0 F H : Hp} (W : Ws L F0 H0 F H) (is : List Nat) (hn : is.Nodup) (h : is.map (fun i => L[i]?) = L'.map some) : Ws L' F0 H0 F H :=
  ⟨W.g, (W.hs.pick is hn h).nd, fun p o m => ⟨((W.hs.pick is hn h).own p o m).1, ((W.hs.pick is hn h).own p o m).2, ((W.hs0.pick is hn h).own p o m).2⟩⟩
theorem Ws.join {L N : List (Addr × HO)} {F0 H0 F H F' H' : Hp} (W : Ws L F0 H0 F H) (M : Ws N F H F' H') : Ws (N ++ L) F0 H0 F' H' := by
  have W1 := W.ext M.g
  refine ⟨W1.g, ?_, fun p o m => ?_⟩
  · rw [List.map_append, List.nodup_append]
    refine ⟨M.nd, W1.nd, fun a ha b hb e => ?_⟩
    subst e
    obtain ⟨⟨q, u⟩, m, rfl⟩ := List.mem_map.mp ha
    obtain ⟨⟨q', u'⟩, m', e⟩ := List.mem_map.mp hb
    have e' : q' = q := e
    subst e'
    have h1 := (M.own _ u m).2.2
    rw [(W.own _ u' m').1] at h1
    cases h1
  · rcases List.mem_append.mp m with m | m
    · obtain ⟨h1, h2, h3⟩ := M.own p o m
      exact ⟨h1, h2, W.g.h.free h3⟩
    · exact W1.own p o m
theorem Ws.many {L : List (Addr × HO)} {F0 H0 F H H' : Hp} (W : Ws L F0 H0 F H) (s : Same H H') {ts : List Addr} (hts : ∀ t ∈ ts, H t = none) : ∃ F', Ws L F0 H0 F' H' ∧ Same F F' ∧ ∀ t ∈ ts, F' t = H' t := by
  have fno : ∀ b o, F b = some o → b ∉ ts := fun b o e m => by
    have := W.fh b o e
    rw [hts b m] at this
    cases this
  refine ⟨fun b => if b ∈ ts then H' b else F b, ⟨⟨fun b o e => ?_, W.g.h.trans s, fun b o e => ?_, fun b o e => ?_⟩, W.nd, fun p o m => ?_⟩, fun b o e => ?_, fun t ht => if_pos ht⟩
  · have := W.g.f b o e
    exact (if_neg (fno b o this)).trans this
  · by_cases h : b ∈ ts
    · have e' : H' b = some o := (if_pos h).symm.trans e
      exact e'
    · have e' : F b = some o := (if_neg h).symm.trans e
      exact s b o (W.g.fh b o e')
  · by_cases h : b ∈ ts
    · exact .inr (W.g.h.free (hts b h))
    · exact W.g.nw b o ((if_neg h).symm.trans e)
  · obtain ⟨a, b, c⟩ := W.own p o m
    have hn : p ∉ ts := fun h => by rw [hts p h] at a; cases a
    exact ⟨s p o a, (if_neg hn).trans b, c⟩
  · exact (if_neg (fno b o e)).trans e
theorem Ws.add {L : List (Addr × HO)} {F0 H0 F H H' : Hp} {p : Addr} {o : HO} (W : Ws L F0 H0 F H) (e : Same H H') (hp : H p = none) (h : H' p = some o) : Ws ((p, o) :: L) F0 H0 F H' := by
  have W1 := W.exts e
  refine ⟨W1.g, List.nodup_cons.mpr ⟨W.fresh hp, W1.nd⟩, fun q u m => ?_⟩
  rcases List.mem_cons.mp m with m | m
  · cases m
    exact ⟨h, W.freeF hp, W.g.h.free hp⟩
  · exact W1.own q u m
section
variable {K : PySem.W.Frag} {F F' H H' F0 H0 : Hp} {L : List (Addr × HO)} {Q : VK} {vs xs : List V} {ds es : List PyData} {d e : PyData} {v w x : V} {a p : Addr} {σ : L2.St} {i : Nat}
/-- the word of a comprehension that makes data -/
def LcP (K : PySem.W.Frag) (D : Addr) (L : List (Addr × HO)) (F0 H0 F : Hp) (ds : List PyData) (i : Nat) (H : Hp) : Prop := ∃ F' vs, Ws ((D, .lst vs) :: L) F0 H0 F' H ∧ Same F F' ∧ DpAll K F' vs (ds.take i)
theorem lc0 {D : Addr} (W : Ws L F0 H0 F H) (hD : H D = none) : LcP K D L F0 H0 F ds 0 (upd H D (.lst [])) := ⟨F, [], W.new hD, Same.refl _, by rw [List.take_zero]; exact .nil⟩
theorem lcS {D : Addr} {F1 : Hp} (W : Ws ((D, .lst vs) :: L) F0 H0 F1 H) (s : Same F F1) (ha : DpAll K F1 vs (ds.take i)) (hi : ds[i]? = some d) (hv : Dp K F1 v d) (hz : ds.length ≤ 100000) :
    ∃ acc, H D = some (.lst acc) ∧ acc.length < sizeLine ∧ LcP K D L F0 H0 F ds (i + 1) (upd H D (.lst (acc ++ [v]))) := by
  have hlt := (List.getElem?_eq_some_iff.mp hi).1
  refine ⟨vs, W.at 0 rfl, ?_, F1, vs ++ [v], W.set 0 rfl _, s, ?_⟩
  · rw [dpa_len ha, List.length_take]
    exact Nat.lt_of_lt_of_le (show min i ds.length < 100001 by omega) (by decide)
  · rw [List.take_add_one, hi]
    exact dpa_snoc ha hv
theorem ixT (h : Dp K F v (.tuple ds)) (s : Same F H) (i : Nat) (e : ds[i]? = some d) (k : ∀ w, Dp K F w d → Q w H) : rIxT K v (.int (i : Int)) H Q := by
  obtain ⟨a, vs, rfl, h1, h2⟩ := dp_tup h
  obtain ⟨w, e1, e2⟩ := dpa_get h2 e
  exact ⟨a, vs, i, w, rfl, rfl, seqT s h1, atI_nat e1, k w e2⟩
theorem ixD (h : Dp K F v (.list ds)) (s : Same F H) (i : Nat) (e : ds[i]? = some d) (k : ∀ w, Dp K F w d → Q w H) : rIxL K v (.int (i : Int)) H Q := by
  obtain ⟨a, vs, rfl, h1, h2⟩ := dp_lst h
  obtain ⟨w, e1, e2⟩ := dpa_get h2 e
  exact ⟨a, vs, i, w, rfl, rfl, s.seq h1, atI_nat e1, k w e2⟩
theorem gtupD {n : Nat} {t : TGs} {R : L2.St → Hp → Prop} (h : Dp K F v (.tuple ds)) (s : Same F H) (k : ∀ vs, DpAll K F vs ds → t vs σ H R) (hn : ds.length = n := by rfl) : gTup K n t v σ H R := by
  obtain ⟨a, vs, rfl, h1, h2⟩ := dp_tup h
  exact ⟨a, vs, rfl, seqT s h1, (dpa_len h2).trans hn, k vs h2⟩
theorem dpa2 {d1 d2 : PyData} (h : DpAll K F vs [d1, d2]) : ∃ v1 v2, vs = [v1, v2] ∧ Dp K F v1 d1 ∧ Dp K F v2 d2 := by
  cases h with
  | cons h1 h2 =>
    cases h2 with
    | cons h2 h3 =>
      cases h3
      exact ⟨_, _, rfl, h1, h2⟩
theorem dpa1 {d1 : PyData} (h : DpAll K F vs [d1]) : ∃ v1, vs = [v1] ∧ Dp K F v1 d1 := by
  cases h with
  | cons h1 h2 =>
    cases h2
    exact ⟨_, rfl, h1⟩
theorem eqD (h1 : Dp K F v d) (h2 : Dp K F w e) (s : Same F H) (o1 : SeqAt.shaped d = true) (o2 : SeqAt.shaped e = true) (k : Q (.bl (PyData.eqv d e)) H) : rEqD K v w H Q := ⟨d, e, dp_same s h1, dp_same s h2, o1, o2, k⟩
theorem neD (h1 : Dp K F v d) (h2 : Dp K F w e) (s : Same F H) (o1 : SeqAt.shaped d = true) (o2 : SeqAt.shaped e = true) (k : Q (.bl (!PyData.eqv d e)) H) : rNeD K v w H Q := ⟨d, e, dp_same s h1, dp_same s h2, o1, o2, k⟩
/-- t + u -/
theorem catD (W : Ws L F0 H0 F H) (h1 : Dp K F v (.tuple ds)) (h2 : Dp K F w (.tuple es)) (hz : ds.length + es.length ≤ 100000) (k : ∀ r F' H', Ws L F0 H0 F' H' → Same F F' → Dp K F' r (.tuple (ds ++ es)) → Q r H') : rCatA K v w H Q := by
  obtain ⟨a, vs, rfl, a1, a2⟩ := dp_tup h1
  obtain ⟨b, ws, rfl, b1, b2⟩ := dp_tup h2
  refine ⟨a, b, vs, ws, rfl, rfl, seqT W.fh a1, seqT W.fh b1, by rw [dpa_len a2, dpa_len b2]; exact Nat.le_trans hz (by decide), fun e => ?_, fun e1 e2 => ?_, fun e1 e2 p hp => ?_⟩
  · subst e
    have := dpa_len a2
    have e : ds = [] := List.length_eq_zero_iff.mp this.symm
    subst e
    exact k _ _ _ W (Same.refl _) h2
  · subst e2
    have := dpa_len b2
    have e : es = [] := List.length_eq_zero_iff.mp this.symm
    subst e
    rw [List.append_nil] at k
    exact k _ _ _ W (Same.refl _) h1
  · have s := same_new (o := .tup (vs ++ ws)) (W.freeF hp)
    exact k _ _ _ (W.dat hp) s (.tup (SqT.of upd_same) (dpa_app (dpa_same s a2) (dpa_same s b2)))
/-- t[lo:hi] -/
theorem slT {lo hi : Option Int} (W : Ws L F0 H0 F H) (h1 : Dp K F v (.tuple ds)) (k : ∀ r F' H', Ws L F0 H0 F' H' → Same F F' → Dp K F' r (.tuple (cutD ds lo hi)) → Q r H') : rSlA K v lo hi H Q := by
  obtain ⟨a, vs, rfl, a1, a2⟩ := dp_tup h1
  refine ⟨a, vs, rfl, seqT W.fh a1, fun e => ?_, fun e p hp => ?_⟩
  · have hw : cutD ds lo hi = ds := by
      unfold cutD
      rw [dpa_len a2] at e
      rw [e.1, e.2]
      simp
    rw [hw] at k
    exact k _ _ _ W (Same.refl _) h1
  · have s := same_new (o := .tup (cutV vs lo hi)) (W.freeF hp)
    exact k _ _ _ (W.dat hp) s (.tup (SqT.of upd_same) (dpa_same s (dpa_cut a2)))
theorem slD {lo hi : Option Int} (W : Ws L F0 H0 F H) (h1 : Dp K F v (.list ds)) (k : ∀ r F' H', Ws L F0 H0 F' H' → Same F F' → Dp K F' r (.list (cutD ds lo hi)) → Q r H') : rSlL K v lo hi H Q := by
  obtain ⟨a, vs, rfl, a1, a2⟩ := dp_lst h1
  refine ⟨a, vs, rfl, W.fh.seq a1, fun p hp => ?_⟩
  have s := same_new (o := .lst (cutV vs lo hi)) (W.freeF hp)
  exact k _ _ _ (W.dat hp) s (.lst (SqL.of upd_same) (dpa_same s (dpa_cut a2)))
/-! isinstance over data -/
def tyN : PyData → String
  | .none => "NoneType"
  | .bool _ => "bool"
  | .int _ => "int"
  | .str _ => "str"
  | .list _ => "list"
  | .tuple _ => "tuple"
  | .dict _ => "dict"
theorem ty_dp (h : Dp K H v d) : TyX K H v (.type (tyN d)) := by
  cases h with
  | non => exact .base .non
  | bl b => exact .base (.bl b)
  | int i => exact .base (.int i)
  | str z => exact .base (.str z)
  | lst h _ =>
    rcases h with (h | ⟨o, h⟩) | ⟨o, its, n, h, hc, _⟩
    · exact .base (.lst h)
    · exact .base (.frz h)
    · exact .kList h hc
  | tup h _ =>
    rcases h with (h | ⟨o, h⟩) | ⟨o, its, n, h, hc, _⟩
    · exact .base (.tup h)
    · exact .fTuple h
    · exact .kTuple h hc
end
end Z

/-! ### isinstance, in, for over data; tuple(d.items()) -/
namespace Z
open PySem PySem.Spec L2 PyProof.Rows
section
variable {K : PySem.W.Frag} {F F' H H' F0 H0 : Hp} {L : List (Addr × HO)} {Q : VK} {vs xs : List V} {ds es : List PyData} {d e : PyData} {v w x : V} {a p : Addr} {σ : L2.St} {i : Nat}
def isTy (T : String) (d : PyData) : Bool := tyN d == T || (T == "int" && tyN d == "bool")
theorem kitN : ∀ n ∈ ["NoneType", "bool", "int", "str", "list", "tuple", "dict"], ∀ T ∈ ["str", "int", "bool", "list", "tuple"], kitB n T = some (n == T || (T == "int" && n == "bool")) := by decide +kernel
theorem tyN_in (d : PyData) : tyN d ∈ ["NoneType", "bool", "int", "str", "list", "tuple", "dict"] := by cases d <;> simp [tyN]
theorem kitD {T : String} (hT : T ∈ ["str", "int", "bool", "list", "tuple"]) : PySem.W.kitOne K (.type (tyN d)) (.type T) = some (isTy T d) := kit_ty (kitN _ (tyN_in d) T hT)
theorem isiD {T : String} (h : Dp K F v d) (s : Same F H) (hT : T ∈ ["str", "int", "bool", "list", "tuple"]) (k : Q (.bl (isTy T d)) H) : rIsi K [v, .ty T] H Q := ⟨v, .ty T, _, .type T, _, rfl, .ty T, ty_dp (dp_same s h), kitD hT, k⟩
theorem kitSeq : PySem.W.kitAny K (.type (tyN d)) [.type "list", .type "tuple"] = some (isTy "list" d || isTy "tuple" d) :=
  kitAny_cons (kitD (by simp)) (fun e => kitAny_cons (kitD (by simp)) (fun e2 => by rw [e, e2]; exact kitAny_nil) (fun e2 => by rw [e2]; simp)) (fun e => by rw [e]; rfl)
theorem isiSeq (h : Dp K F v d) (s : Same F H) (hp : H p = some (.tup [.ty "list", .ty "tuple"])) (k : Q (.bl (isTy "list" d || isTy "tuple" d)) H) : rIsiT K [v, .ref p] H Q :=
  ⟨v, p, _, _, _, _, rfl, hp, .cons (.ty "list") (.cons (.ty "tuple") .nil), ty_dp (dp_same s h), kitSeq, k⟩
def rInDT (K : PySem.W.Frag) : R2 := fun x y H Q => ∃ d ds, Dp K H x d ∧ Dp K H y (.tuple ds) ∧ SeqAt.shaped d = true ∧ SeqAt.shaped (.tuple ds) = true ∧ Q (.bl (ds.any fun z => PyData.eqv z d)) H
theorem op_inDT {X : Cx} (hu : X.A.units + 65 < cLine) : OpR X (compareOp .In) (rInDT X.K) := by
  intro pins s σ H x y v u Q I rx ry h
  obtain ⟨d, ds, hd, he, sd, se, q⟩ := h
  obtain ⟨as, r1⟩ := Dp.reads I d x v hd rx
  obtain ⟨bs, r2⟩ := Dp.reads I (.tuple ds) y u he ry
  exact SeqAt.in_tuple_reads r2 r1 (SeqAt.canLay_of_shaped se) (SeqAt.canLay_of_shaped sd) (room_in_shaped sd hu) ⟨.bl _, H, I, rfl, q⟩
theorem hu65 {k : Nat} {A : Around} (r : Room k A) : A.units + 65 < cLine := by have := r.un; omega
theorem din {ty td : TE} (h : ty σ H fun y H1 => td σ H1 fun x H2 => ∃ a o, x = .ref a ∧ DGet H2 a y o ∧ Q (.bl o.isSome) H2) : tDIn ty td σ H Q := h
theorem dnotin {ty td : TE} (h : ty σ H fun y H1 => td σ H1 fun x H2 => ∃ a o, x = .ref a ∧ DGet H2 a y o ∧ Q (.bl (!o.isSome)) H2) : tDNotIn ty td σ H Q := h
theorem lcE {wi : TI} {g : TG} {tt : TT} {te : TE} {ws : List Nat} (h : wi σ H fun J H1 => ∀ D, H1 D = none → ∃ W : Nat → Nat → Hp → Prop, (∃ m, W 0 m (upd H1 D (.lst []))) ∧ ∀ i m H, W i m H →
  (J.stop i H ∧ Q (.ref D) H) ∨ (J.go i H ∧ ∃ Nx : Hp → Prop, (∀ H', Nx H' → ∃ m', m' < m ∧ W (i + 1) m' H') ∧ ∀ x H', J.yld i H x H' → g x (wipe σ ws) H' fun σ2 H2 => wipe σ2 ws = wipe σ ws ∧ tt σ2 H2 fun b H3 =>
    if b = true then te σ2 H3 fun y H4 => ∃ acc, H4 D = some (.lst acc) ∧ acc.length < sizeLine ∧ Nx (upd H4 D (.lst (acc ++ [y]))) else Nx H3)) : tLc wi g tt te ws σ H Q := h
theorem iTupE {te : TE} {R : It → Hp → Prop} (h : te σ H fun x H1 => ∃ a, x = .ref a ∧ (∃ xs, SqT K H1 a xs) ∧ R (Itt K a) H1) : iTup K te σ H R := h
theorem iListE {te : TE} {R : It → Hp → Prop} (h : te σ H fun x H1 => ∃ a, x = .ref a ∧ (∃ xs, SqL K H1 a xs) ∧ R (Itl K a) H1) : iList K te σ H R := h
theorem iEnumE {ta : TA} {R : It → Hp → Prop} (h : ta σ H fun vs H1 => ∃ a xs, vs = [.ref a] ∧ SqL K H1 a xs ∧ R (Ite K a) H1) : iEnum K ta σ H R := h
theorem iZipAE {ta : TA} {R : It → Hp → Prop} (h : ta σ H fun vs H1 => ∃ a b xs ys, vs = [.ref a, .ref b] ∧ ((SqL K H1 a xs ∧ SqL K H1 b ys ∧ R (Itz K a b) H1) ∨ (SqT K H1 a xs ∧ SqT K H1 b ys ∧ R (RZ.ItzT K a b) H1))) : RZ.iZipA K ta σ H R := h
theorem forE {wi : TI} {g : TG} {ts : TS} {D : Ends} (h : wi σ H fun J H1 => ∃ W : Nat → Nat → L2.St → Hp → Prop, (∃ m, W 0 m σ H1) ∧ ∀ i m σ H, W i m σ H →
      (J.stop i H ∧ D.nx σ H) ∨ (J.go i H ∧ ∃ N : L2.St → Hp → Prop, (∀ σ' H', N σ' H' → ∃ m', m' < m ∧ W (i + 1) m' σ' H') ∧ ∀ x H', J.yld i H x H' → g x σ H' fun σ2 H2 => ts { D with nx := N, ct := N, bk := D.nx } σ2 H2)) : tFor wi g ts D σ H := h
/-- for over a list or a tuple -/
def iSeq (K : PySem.W.Frag) (tl : TE) : TI := fun σ H R => tl σ H fun x H1 => ∃ a, x = .ref a ∧ (((∃ xs, SqL K H1 a xs) ∧ R (Itl K a) H1) ∨ ((∃ xs, SqT K H1 a xs) ∧ R (Itt K a) H1))
theorem pi_seq {X : Cx} {tg l : Expr} {tl : TE} (hl : PE X l tl) : PI X tg l (iSeq X.K tl) := by
  refine ⟨fun pins s σ H R I h => ?_⟩
  refine thn (hl.run pins s σ H _ I h) fun v s1 ⟨x, H1, I1, r1, q1⟩ => ?_
  obtain ⟨a, e, q⟩ := q1
  subst e
  cases r1
  rcases q with ⟨⟨xs, hq⟩, q⟩ | ⟨⟨xs, hq⟩, q⟩
  · obtain ⟨its, rv, p, hz⟩ := I1.list hq
    refine wpAny_pyIter_list p.isList ?_
    refine ⟨s1.heap.objs.size, [s1.heap.objs.size], _, _, H1, rfl, I1.kept (t' := s1.toks) fun b o e => Heap.get?_push_of_some _ e, turn_list a _, ⟨_, Heap.get?_push_size _ rfl, rfl, rfl⟩, fun b hb => ?_, q⟩
    have e : b = s1.heap.objs.size := by simpa using hb
    subst e
    exact I1.fpOk (Nat.le_refl _) (I1.hok.fresh (Nat.le_refl _))
  · obtain ⟨its, rv, p, hz⟩ := I1.tuple hq
    refine wpAny_pyIter_tuple (show s1.heap.IsTuple a its.toArray from p) ?_
    refine ⟨s1.heap.objs.size, [s1.heap.objs.size], _, _, H1, rfl, I1.kept (t' := s1.toks) fun b o e => Heap.get?_push_of_some _ e, turn_tuple a _, ⟨_, Heap.get?_push_size _ rfl, rfl, rfl⟩, fun b hb => ?_, q⟩
    have e : b = s1.heap.objs.size := by simpa using hb
    subst e
    exact I1.fpOk (Nat.le_refl _) (I1.hok.fresh (Nat.le_refl _))
theorem forSq {te : TE} {g : TG} {ts : TS} {D : Ends} {σ : L2.St} {H : Hp} (h : te σ H fun x H1 => ∃ a, x = .ref a ∧ (((∃ xs, SqL K H1 a xs) ∧ ∃ W : Nat → Nat → L2.St → Hp → Prop, (∃ m, W 0 m σ H1) ∧ ∀ i m σ H, W i m σ H →
      ((Itl K a).stop i H ∧ D.nx σ H) ∨ ((Itl K a).go i H ∧ ∃ N : L2.St → Hp → Prop, (∀ σ' H', N σ' H' → ∃ m', m' < m ∧ W (i + 1) m' σ' H') ∧ ∀ x H', (Itl K a).yld i H x H' → g x σ H' fun σ2 H2 => ts { D with nx := N, ct := N, bk := D.nx } σ2 H2)) ∨
      ((∃ xs, SqT K H1 a xs) ∧ ∃ W : Nat → Nat → L2.St → Hp → Prop, (∃ m, W 0 m σ H1) ∧ ∀ i m σ H, W i m σ H →
      ((Itt K a).stop i H ∧ D.nx σ H) ∨ ((Itt K a).go i H ∧ ∃ N : L2.St → Hp → Prop, (∀ σ' H', N σ' H' → ∃ m', m' < m ∧ W (i + 1) m' σ' H') ∧ ∀ x H', (Itt K a).yld i H x H' → g x σ H' fun σ2 H2 => ts { D with nx := N, ct := N, bk := D.nx } σ2 H2)))) : tFor (iSeq K te) g ts D σ H := h
/-- a for over a list or a tuple of which each turn keeps what stands -/
theorem forSqD {g : TG} {ts : TS} {D : Ends} {σ : L2.St} {Hb H1 : Hp} (hq : SqL K H1 a xs ∨ SqT K H1 a xs) (Pv : Nat → L2.St → Hp → Prop) (h0 : Pv 0 σ H1) (hb : SqL K Hb a xs ∨ SqT K Hb a xs) (hk : ∀ i σ H, Pv i σ H → Same Hb H)
    (hs : ∀ i x σ H, xs[i]? = some x → Pv i σ H → g x σ H fun σ2 H2 => ts { D with nx := Pv (i + 1), ct := Pv (i + 1), bk := D.nx } σ2 H2) (hd : ∀ σ H, Pv xs.length σ H → D.nx σ H) :
    ∃ b, V.ref a = .ref b ∧ (((∃ xs, SqL K H1 b xs) ∧ ∃ W : Nat → Nat → L2.St → Hp → Prop, (∃ m, W 0 m σ H1) ∧ ∀ i m σ H, W i m σ H →
      ((Itl K b).stop i H ∧ D.nx σ H) ∨ ((Itl K b).go i H ∧ ∃ N : L2.St → Hp → Prop, (∀ σ' H', N σ' H' → ∃ m', m' < m ∧ W (i + 1) m' σ' H') ∧ ∀ x H', (Itl K b).yld i H x H' → g x σ H' fun σ2 H2 => ts { D with nx := N, ct := N, bk := D.nx } σ2 H2)) ∨
      ((∃ xs, SqT K H1 b xs) ∧ ∃ W : Nat → Nat → L2.St → Hp → Prop, (∃ m, W 0 m σ H1) ∧ ∀ i m σ H, W i m σ H →
      ((Itt K b).stop i H ∧ D.nx σ H) ∨ ((Itt K b).go i H ∧ ∃ N : L2.St → Hp → Prop, (∀ σ' H', N σ' H' → ∃ m', m' < m ∧ W (i + 1) m' σ' H') ∧ ∀ x H', (Itt K b).yld i H x H' → g x σ H' fun σ2 H2 => ts { D with nx := N, ct := N, bk := D.nx } σ2 H2))) := by
  refine ⟨a, rfl, ?_⟩
  rcases hb with hb | hb
  · exact .inl ⟨⟨xs, (hk _ _ _ h0).seq hb⟩, for_list Pv h0 (fun i σ H hi p => (hk i σ H p).seq hb) hs hd⟩
  · exact .inr ⟨⟨xs, seqT (hk _ _ _ h0) hb⟩, for_tup Pv h0 (fun i σ H hi p => seqT (hk i σ H p) hb) hs hd⟩
end
end Z
/-! tuple(d.items()) -/
namespace ZT
open PySem PySem.Spec L2 PyProof.Rows
section
variable {prog : Program} {w : World} {Kk : Type} [DecidableEq Kk] {knd : KeyKind prog w Kk} {A : Around} {E : Value → Shared → Prop} {s : Shared} {r d : Addr} {kvs : List (Kk × Value)} {ep : Nat}
theorem call_tuple_items {Q : Value → Shared → Prop} (hh : A.handled = none) (hv : s.heap.IsItemsView r d) (hm : s.heap.DictAt knd d kvs ep) (hn : kvs.length ≤ sizeLine)
    (hQ : ∀ (h' : Heap) (tk : Nat) (as : List Addr), (∀ b o, s.heap.get? b = some o → h'.get? b = some o) → as.length = kvs.length → PySem.W.KdxG knd kvs s.heap.objs.size h' as →
      Q (.ref h'.objs.size) { s with heap := h'.push { cls := .type "tuple", data := .seq (as.map Value.ref).toArray }, toks := tk }) :
    wpAny (model prog w) A (call (.type "tuple") [.ref r]) Q E s := by
  have key : codeAny (model prog w) A.in1 (.call (.builtin "tuple.__new__") ⟨[.type "tuple", .ref r], []⟩) (wants (fun obj s₁ => s₁.TypeIs obj "tuple" ∧ Q obj s₁) E) s := by
    refine codeAny_of_tree ?_
    show wpAny _ A.in1.in1 (do checkBuiltinCall "tuple.__new__" ⟨[.type "tuple", .ref r], []⟩; again (.builtin "tuple.__new__" ⟨[.type "tuple", .ref r], []⟩)) _ _ s
    refine wpAny_bind (wpAny_of_eq (F.newCall_tuple_1 _) (wpAny_pure ⟨plainId_quiet F.plain_tuple_new _, codeAny_builtin F.entry_tuple_new ?_⟩))
    rw [Around.under_plainId F.plain_tuple_new _]
    have hsub := sub_tuple_self
    have hinit := init_tuple_lookup
    have hmh := madeHere_tuple
    obtain ⟨o, ho, hc, hdt⟩ := id hv
    have hTI : s.TypeIs (.ref r) "dict_items" := ⟨o, ho, hc⟩
    have hh1 : A.in1.in1.handled = none := hh
    wp_walk using wpAny_typeOf hTI, PySem.W.kdx_collect (A := A.in1.in1) (knd := knd) (kvs := kvs) (ep := ep) hh1 hv hm hn
    intro h' tk as hk hl hG
    show wpAny _ _ (Builtin.Tuple.tupleExact (as.map Value.ref).toArray >>= fun v => ret v) _ _ _
    unfold Builtin.Tuple.tupleExact
    refine wpAny_bind (wpAny_newObj_type ?_ (by show (as.map Value.ref).toArray.size ≤ sizeLine; simp; omega))
    refine wpAny_pure ?_
    exact ⟨⟨_, Heap.get?_push_size _ rfl, rfl⟩, hQ h' tk as hk hl hG⟩
  refine callType_codes (Q₁ := fun obj s₁ => s₁.TypeIs obj "tuple" ∧ Q obj s₁) F.called_tuple (F.typeCall_tuple_1 _) F.entry_object_init key fun obj s₁ h₁ => ?_
  exact ⟨h₁.1, F.args_object_init_2 obj _, object_init_meets F.called_tuple.init.lookup F.called_tuple.made (by decide) prog w A.in1 _ s₁ ⟨h₁.1, rfl, h₁.2⟩⟩
end
theorem items_laid2 {X : Cx} {pins : List (Addr × Obj)} {σ : L2.St} {H : Hp} {s : Shared} {h' : Heap} {tk : Nat} {kvs : List (Key × V)} {vs : List (Key × Value)} {as : List Addr} (I : Inv X pins σ H s) (hz : kvs.length ≤ sizeLine) (kv : KV kvs vs)
    (hk : ∀ b o, s.heap.get? b = some o → h'.get? b = some o) (hl : as.length = vs.length) (hG : PySem.W.KdxG (mixKind X.prog X.w) vs s.heap.objs.size h' as) :
    ∃ H' : Hp, (∀ b o, H b = some o → H' b = some o) ∧ (∀ t ∈ as, H t = none) ∧ (∀ b, b ∉ as → H' b = H b) ∧ Paired (fun (t : Addr) (q : Key × V) => H' t = some (.tup [kV q.1, q.2])) as kvs ∧ Inv X pins σ H' { s with heap := h', toks := tk } := by
  have lk : kvs.length = vs.length := Paired.length kv
  have nd : as.Nodup := List.Pairwise.imp (fun {a b} (h : a < b) => Nat.ne_of_lt h) hG.rise
  have new : ∀ t ∈ as, H t = none := fun t ht => I.hok.fresh (Nat.le_of_lt (hG.above t ht))
  have atP := LiI.putT_at as kvs H (by omega) nd
  have off : ∀ b, b ∉ as → LiI.putT H as kvs b = H b := fun b h1 => LiI.putT_off as kvs _ h1
  have low : ∀ b o, s.heap.get? b = some o → b ∉ as := fun b o e z => absurd (Heap.lt_size e) (Nat.not_lt.mpr (Nat.le_of_lt (hG.above b z)))
  have kp : ∀ b u, H b = some u → (LiI.putT H as kvs) b = some u := fun b u e => by
    rw [off b (fun z => by rw [new b z] at e; cases e)]
    exact e
  refine ⟨LiI.putT H as kvs, kp, new, off, atP, ?_⟩
  refine I.call' (ch := []) rfl ⟨fun b o q _ _ _ => hk b o q, fun b o q _ _ _ => ⟨o.slots, hk b o q⟩, fun b o q n _ => ?_, fun b o q _ => ⟨o, hk b o q⟩, fun b xs q => kp b _ q, fun b o u q => kp b _ q, fun b ps q => ⟨#[], by rw [kp b _ q]; simp⟩⟩ (fun b u q => ?_) I.bare fun b z => by simp at z
  · rw [off b (low b o q)]
    exact n
  · by_cases hb : b ∈ as
    · obtain ⟨j, pk, e1, e2, e3⟩ := LiI.paired_ix atP hb
      rw [e3] at q
      cases q
      obtain ⟨key, k, x, f1, f2, f3⟩ := hG.pairs j b e1
      obtain ⟨qv, g1, g2, g3⟩ := LiI.paired_get kv e2
      rw [f1] at g1
      cases g1
      have rk : RelV (kV pk.1) key := by
        rw [g2]
        exact relV_key (show keyIs k key = true from f2)
      exact ⟨by show 2 ≤ sizeLine; decide, [key, x], .cons rk (.cons g3 .nil), ⟨_, f3, rfl, _, rfl⟩⟩
    · rw [off b hb] at q
      exact (I.hok b u q).stay (fun d v _ y => hk d v y) (fun d y => kp d _ y) fun d xs y => kp d _ y
/-- tuple(e.items()): a new tuple of new pairs -/
def rItemsT2 : V → Hp → VK → Prop := fun x H Q => ∃ (d : Addr) (kvs : List (Key × V)), x = .ref d ∧ H d = some (.dK kvs) ∧
  ∀ (H' : Hp) (p : Addr) (ts : List Addr), Same H H' → H p = none → (∀ t ∈ ts, H t = none) → (∀ b, b ∉ ts → H' b = H b) → H' p = none → Paired (fun (t : Addr) (q : Key × V) => H' t = some (.tup [kV q.1, q.2])) ts kvs → Q (.ref p) (upd H' p (.tup (ts.map V.ref)))
def tTupItems (te : TE) : TE := fun σ H Q => te σ H fun x H1 => rItemsT2 x H1 Q
theorem pe_tupItems {X : Cx} {e : Expr} {te : TE} {p apos cpos pos : Pos} (hc : X.calm = true) (he : PE X e te) (hg : Gl X "tuple") (hm : X.mg "tuple" = none) (hbase : attributeBase e "items" X.env (eval e X.env) = eval e X.env := by rfl) (hline : (apos.endLine == cpos.line) = true := by rfl)
    (hs : starEach [.Call (.Attribute e "items" apos) [] [] cpos] X.env = (false, eval (.Call (.Attribute e "items" apos) [] [] cpos) X.env) :: starEach [] X.env := by rfl) :
    PE X (.Call (.Name "tuple" p) [.Call (.Attribute e "items" apos) [] [] cpos] [] pos) (tTupItems te) := by
  refine ⟨fun pins s σ H Q I hq => ?_⟩
  refine wpAny_Call_Name_kw (ld_blt I hg hm boot_tuple ?_)
  refine PyProof.Rows.callWith_type1 ?_ hs rfl
  rw [hs]
  show wpAny _ _ (spliced ((false, eval (.Call (.Attribute e "items" apos) [] [] cpos) X.env) :: backTo pos (starEach [] X.env))) _ _ s
  refine Calls.spliced_cons ?_
  refine wpAny_Call_method (T := "dict") (id := "dict.items") hbase rfl hline F.plainAttrs_dict F.slot_dict_items F.type_dict_items (thn (he.run pins s σ H _ I hq) fun u s1 ⟨x, H1, I1, rx, d, kvs, ex, hd, q⟩ => ?_)
  subst ex
  obtain rfl : u = Value.ref d := rx
  obtain ⟨hz, hs0, vs, kv, hdo⟩ := I1.hok d _ hd
  obtain ⟨ep, hat⟩ := hdo.dictAt
  have lk : kvs.length = vs.length := Paired.length kv
  have I2 : Inv X pins σ H1 { s1 with heap := s1.heap.push { cls := .type "dict_items", data := .fields #[.ref d] } } := I1.kept (t' := s1.toks) fun b ob q => Heap.get?_push_of_some _ q
  refine ⟨hdo.typeIs, hdo.mapOf.noDict, ?_⟩
  show wpAny _ _ (callWith cpos (.builtin "dict.items") [.ref d] [] []) _ X.xe s1
  refine method_meetsIn F.slot_dict_items F.entry_dict_items rfl (PySem.evalArgs_none ⟨rfl, hdo.typeIs, F.args_dict_items_1 _, _, meets_dict_items (mixKind X.prog X.w) d hs0, ⟨vs, hdo⟩, ?_⟩)
  refine Calls.spliced_nil ?_
  refine call_tuple_items (knd := mixKind X.prog X.w) (kvs := vs) (ep := ep) (I1.ok.hd hc) ⟨_, Heap.get?_push_size _ rfl, rfl, rfl⟩ (hat.push _) (by omega) fun h' tk as hk hl hG => ?_
  obtain ⟨H', k1, k3, k4, k5, J⟩ := items_laid2 (tk := tk) I2 hz kv hk hl hG
  have hp : H1 h'.objs.size = none := by
    refine I1.hok.fresh ?_
    exact Nat.le_of_lt (Heap.lt_size (hk _ _ (Heap.get?_push_size s1.heap (o := { cls := .type "dict_items", data := .fields #[.ref d] }) rfl)))
  have hp' : H' h'.objs.size = none := J.hok.fresh (Nat.le_refl _)
  refine ⟨.ref h'.objs.size, upd H' h'.objs.size (.tup (as.map V.ref)), J.laid (t' := tk) (fun c o e => Heap.get?_push_of_some _ e) (Nat.le_refl _) (show ObjOk X.prog X.w _ _ _ (.tup (as.map V.ref)) from ⟨?_, as.map Value.ref, LiI.vals_refs as, IsTup.new _ _⟩), rfl, q H' _ as k1 hp k3 k4 hp' k5⟩
  rw [List.length_map]
  omega
end ZT

/-! ### defs with a default -/
namespace FD
open PySem PySem.Spec L2 PyProof.Rows
def Dfn (K : PySem.W.Frag) (x q : Str) (st : Stmt) (ps : List Str) (dvs : List V) (f : Addr) : Prop := ∃ fd, FunD K x q (defArgs st) (defBody st) (defScope st) dvs [] f fd ∧ Binds K fd ps [] ∧ ∃ ds, Vals dvs ds ∧ Binds K fd ps ds
theorem Dfn.kp {K : PySem.W.Frag} {x q : Str} {st : Stmt} {ps : List Str} {dvs : List V} {f : Addr} (d : Dfn K x q st ps dvs f) : PySem.W.keepIn K (.ref f) = true := let ⟨_, F, _⟩ := d; F.kp
section
variable {P : Program} {w : World} {K : PySem.W.Frag} {mg : Str → Option Value} {base : Heap} {x qual : Str} {params : Arguments} {body : List Stmt} {scope : Scope} {dvs : List V} {kws : List (Str × V)} {f : Addr} {fd : FuncData}
theorem ok0 {N ps : List Str} {k : Nat} {sp : Sp} (F : FunD K x qual params body scope dvs kws f fd) (S : FnScope N ps scope) (len : ∀ vs H Q E, sp vs H Q E → vs.length = ps.length)
    (hbody : ∀ (cdv : Value) (A : Around) (outer : List Env) (s : Shared) (H : Hp) (vs : List V) (Q : VK) (E : XK), Room k (A.deeper (envOfC qual scope s.heap.objs.size f cdv)) → sp vs H Q E →
      ∃ t, PSs (cxOf CX0 P w K mg base N qual scope f cdv A outer s H E).nox body t ∧ t { nx := fun _ H' => Q .non H', rt := Q } (start N vs) H) : FnOk P w K mg base CX0 (k + 1) f fd ps sp :=
  F.ok S len fun cdv A outer s H vs Q E hr hsp => let ⟨t, h, q⟩ := hbody cdv A outer s H vs Q E hr hsp; ⟨t, h.nox, q⟩
theorem okX {CX : CXT} {N ps : List Str} {k : Nat} {sp : Sp} (F : FunD K x qual params body scope dvs kws f fd) (S : FnScope N ps scope) (len : ∀ vs H Q E, sp vs H Q E → vs.length = ps.length)
    (hbody : ∀ (cdv : Value) (A : Around) (outer : List Env) (s : Shared) (H : Hp) (vs : List V) (Q : VK) (E : XK), Room k (A.deeper (envOfC qual scope s.heap.objs.size f cdv)) → sp vs H Q E →
      ∃ t, PSs (cxOf CX P w K mg base N qual scope f cdv A outer s H E) body t ∧ t { nx := fun _ H' => Q .non H', rt := Q } (start N vs) H) : FnOk P w K mg base CX (k + 1) f fd ps sp := F.ok S len hbody
theorem mk {st : Stmt} {q : Str} {T : Addr} {oc oc2 : Value} {od od2 an : Option Addr} {osl osl2 : Array (Option Value)} {kV doc pm cdv ct : Value} {m : Nat} {ps : List Str} (l : K.lookup f = some ⟨oc, od, .func (PySem.W.fnOf x q (defArgs st) (defBody st) (defScope st) (.ref T) kV doc pm an cdv ct), osl⟩)
    (c : PySem.W.codeIn K cdv q = true) (k : PySem.W.keepIn K (.ref f) = true) (lD : K.lookup T = some ⟨oc2, od2, .seq #[.none] m, osl2⟩)
    (h1 : ∀ (T : Addr) (kV doc pm : Value) (an : Option Addr) (cdv ct : Value) (us its : List Value), us.length = ps.length → its.length = 1 →
      ∃ k, bindArgs (PySem.W.fnOf x q (defArgs st) (defBody st) (defScope st) (.ref T) kV doc pm an cdv ct) ⟨us, []⟩ = seqItems? (.ref T) >>= k ∧ k (some its.toArray) = pure (ps.zip (us ++ its.drop 1)))
    (h2 : ∀ (T : Addr) (kV doc pm : Value) (an : Option Addr) (cdv ct : Value) (us its : List Value), us.length = ps.length - 1 → its.length = 1 →
      ∃ k, bindArgs (PySem.W.fnOf x q (defArgs st) (defBody st) (defScope st) (.ref T) kV doc pm an cdv ct) ⟨us, []⟩ = seqItems? (.ref T) >>= k ∧ k (some its.toArray) = pure (ps.zip (us ++ its.drop 0)))
    (hp : 0 < ps.length := by decide) : Dfn K x q st ps [.non] f := by
  have F : FunD K x q (defArgs st) (defBody st) (defScope st) [.non] [] f _ := ⟨⟨oc, od, .ref T, kV, doc, pm, an, cdv, ct, osl, rfl, l, c, .inr ⟨by simp, T, _, [.none], m, rfl, lD, rfl, .cons rfl .nil⟩, .inl rfl⟩, k⟩
  obtain ⟨ds, v, b⟩ := F.binds1 (ps := ps) ps.length 1 (by simp) (by simp) h1
  cases v
  exact ⟨_, F, b, F.binds1 (ps := ps) (ps.length - 1) 0 (by simp) (by simp; omega) h2⟩
end
end FD

namespace Toy
open PySem L2
section
variable {P : Program} {w : World} {K : PySem.W.Frag} {mg : Str → Option Value} {base : Heap}
def top (i : Nat) : Stmt := PySem.Challenge.pw_planstore_k02_schemas_told.main.body.getD i (.Pass ⟨0, 0, 0, 0⟩)
abbrev s_is_whole : Stmt := top 9
theorem sc_is_whole : FnScope ["thing"] ["thing"] (defScope s_is_whole) := ⟨rfl, rfl, rfl, by decide +kernel, rfl, by decide +kernel, by decide +kernel⟩
abbrev s_is_name : Stmt := top 10
theorem sc_is_name : FnScope ["thing", "sign"] ["thing"] (defScope s_is_name) := ⟨rfl, rfl, rfl, by decide +kernel, rfl, by decide +kernel, by decide +kernel⟩
abbrev s_is_kind : Stmt := top 11
theorem sc_is_kind : FnScope ["thing"] ["thing"] (defScope s_is_kind) := ⟨rfl, rfl, rfl, by decide +kernel, rfl, by decide +kernel, by decide +kernel⟩
abbrev s_is_value : Stmt := top 12
theorem sc_is_value : FnScope ["kind", "thing"] ["kind", "thing"] (defScope s_is_value) := ⟨rfl, rfl, rfl, by decide +kernel, rfl, by decide +kernel, by decide +kernel⟩
abbrev s_is_row_of : Stmt := top 17
theorem sc_is_row_of : FnScope ["thing", "least", "most"] ["thing", "least", "most"] (defScope s_is_row_of) := ⟨rfl, rfl, rfl, by decide +kernel, rfl, by decide +kernel, by decide +kernel⟩
abbrev s_need_pair : Stmt := top 18
theorem sc_need_pair : FnScope ["thing"] ["thing"] (defScope s_need_pair) := ⟨rfl, rfl, rfl, by decide +kernel, rfl, by decide +kernel, by decide +kernel⟩
abbrev s_columns_in : Stmt := top 19
theorem sc_columns_in : FnScope ["thing", "names", "column", "name", "kind"] ["thing"] (defScope s_columns_in) := ⟨rfl, rfl, rfl, by decide +kernel, rfl, by decide +kernel, by decide +kernel⟩
abbrev s_tables_in : Stmt := top 20
theorem sc_tables_in : FnScope ["thing", "found", "table"] ["thing"] (defScope s_tables_in) := ⟨rfl, rfl, rfl, by decide +kernel, rfl, by decide +kernel, by decide +kernel⟩
abbrev s_orders_in : Stmt := top 21
theorem sc_orders_in : FnScope ["thing", "tables", "found", "order", "table", "column", "name", "kind"] ["thing", "tables"] (defScope s_orders_in) := ⟨rfl, rfl, rfl, by decide +kernel, rfl, by decide +kernel, by decide +kernel⟩
abbrev s_Schema___init__ : Stmt := inClass (top 22) 0
theorem sc_Schema___init__ : FnScope ["self", "tables", "orders"] ["self", "tables", "orders"] (defScope s_Schema___init__) := ⟨rfl, rfl, rfl, by decide +kernel, rfl, by decide +kernel, by decide +kernel⟩
abbrev s_Schema_need_table : Stmt := inClass (top 22) 1
theorem sc_Schema_need_table : FnScope ["self", "table"] ["self", "table"] (defScope s_Schema_need_table) := ⟨rfl, rfl, rfl, by decide +kernel, rfl, by decide +kernel, by decide +kernel⟩
abbrev s_Schema_table_names : Stmt := inClass (top 22) 2
theorem sc_Schema_table_names : FnScope ["self"] ["self"] (defScope s_Schema_table_names) := ⟨rfl, rfl, rfl, by decide +kernel, rfl, by decide +kernel, by decide +kernel⟩
abbrev s_Schema_columns_of : Stmt := inClass (top 22) 3
theorem sc_Schema_columns_of : FnScope ["self", "table"] ["self", "table"] (defScope s_Schema_columns_of) := ⟨rfl, rfl, rfl, by decide +kernel, rfl, by decide +kernel, by decide +kernel⟩
abbrev s_Schema_kind_of : Stmt := inClass (top 22) 4
theorem sc_Schema_kind_of : FnScope ["self", "table", "column", "name", "kind"] ["self", "table", "column"] (defScope s_Schema_kind_of) := ⟨rfl, rfl, rfl, by decide +kernel, rfl, by decide +kernel, by decide +kernel⟩
abbrev s_Schema_has_order : Stmt := inClass (top 22) 5
theorem sc_Schema_has_order : FnScope ["self", "table", "column"] ["self", "table", "column"] (defScope s_Schema_has_order) := ⟨rfl, rfl, rfl, by decide +kernel, rfl, by decide +kernel, by decide +kernel⟩
abbrev s_Schema_fits : Stmt := inClass (top 22) 6
theorem sc_Schema_fits : FnScope ["self", "table", "row", "column", "value"] ["self", "table", "row"] (defScope s_Schema_fits) := ⟨rfl, rfl, rfl, by decide +kernel, rfl, by decide +kernel, by decide +kernel⟩
abbrev s_Schema_told : Stmt := inClass (top 22) 7
theorem sc_Schema_told : FnScope ["self"] ["self"] (defScope s_Schema_told) := ⟨rfl, rfl, rfl, by decide +kernel, rfl, by decide +kernel, by decide +kernel⟩
abbrev s_law_cell : Stmt := top 24
theorem sc_law_cell : FnScope ["_law_script", "_law_k"] ["_law_script", "_law_k"] (defScope s_law_cell) := ⟨rfl, rfl, rfl, by decide +kernel, rfl, by decide +kernel, by decide +kernel⟩
abbrev s_law_draws : Stmt := top 25
theorem sc_law_draws : FnScope ["_law_cell_here", "_law_many", "_law_found", "_law_left", "_law_mixed", "_law_k"] ["_law_cell_here", "_law_many"] (defScope s_law_draws) := ⟨rfl, rfl, rfl, by decide +kernel, rfl, by decide +kernel, by decide +kernel⟩
abbrev s_law_names : Stmt := top 26
theorem sc_law_names : FnScope ["_law_cell_here", "_law_many", "_law_letters", "_law_draws_here", "_law_size", "_law_at", "_law_names_here", "_law_k", "_law_signs", "_law_j", "_law_sign"] ["_law_cell_here", "_law_many"] (defScope s_law_names) := ⟨rfl, rfl, rfl, by decide +kernel, rfl, by decide +kernel, by decide +kernel⟩
abbrev s_law_schema : Stmt := top 27
theorem sc_law_schema : FnScope ["_law_cell_here", "_law_draws_here", "_law_tables", "_law_some", "_law_k", "_law_name", "_law_columns", "_law_names_here", "_law_j", "_law_column", "_law_orders"] ["_law_cell_here"] (defScope s_law_schema) := ⟨rfl, rfl, rfl, by decide +kernel, rfl, by decide +kernel, by decide +kernel⟩
abbrev s_law_value : Stmt := top 28
theorem sc_law_value : FnScope ["_law_kind", "_law_draw", "_law_number"] ["_law_kind", "_law_draw"] (defScope s_law_value) := ⟨rfl, rfl, rfl, by decide +kernel, rfl, by decide +kernel, by decide +kernel⟩
abbrev s_law_made : Stmt := top 29
theorem sc_law_made : FnScope ["_law_tables", "_law_orders", "_law_way", "_law_name", "_law_columns", "_law_handed", "_law_more", "_law_schema_here"] ["_law_tables", "_law_orders", "_law_way"] (defScope s_law_made) := ⟨rfl, rfl, rfl, by decide +kernel, rfl, by decide +kernel, by decide +kernel⟩
abbrev s_law_told : Stmt := top 30
theorem sc_law_told : FnScope ["_law_schema_here", "_law_tables", "_law_orders", "_law_names_here", "_law_name", "_law_columns", "_law_found", "_law_k", "_law_column", "_law_kind", "_law_told_here", "_law_thing"] ["_law_schema_here", "_law_tables", "_law_orders"] (defScope s_law_told) := ⟨rfl, rfl, rfl, by decide +kernel, rfl, by decide +kernel, by decide +kernel⟩
abbrev s_law_row : Stmt := top 31
theorem sc_law_row : FnScope ["_law_columns", "_law_draws_here", "_law_k", "_law_name", "_law_kind"] ["_law_columns", "_law_draws_here"] (defScope s_law_row) := ⟨rfl, rfl, rfl, by decide +kernel, rfl, by decide +kernel, by decide +kernel⟩
abbrev s_law_spoilt : Stmt := top 32
theorem sc_law_spoilt : FnScope ["_law_row_here", "_law_draws_here", "_law_at", "_law_other"] ["_law_row_here", "_law_draws_here"] (defScope s_law_spoilt) := ⟨rfl, rfl, rfl, by decide +kernel, rfl, by decide +kernel, by decide +kernel⟩
abbrev s_law_fits : Stmt := top 33
theorem sc_law_fits : FnScope ["_law_columns", "_law_row_here", "_law_name", "_law_kind", "_law_value_here", "_law_sign"] ["_law_columns", "_law_row_here"] (defScope s_law_fits) := ⟨rfl, rfl, rfl, by decide +kernel, rfl, by decide +kernel, by decide +kernel⟩
abbrev s_law_rows : Stmt := top 34
theorem sc_law_rows : FnScope ["_law_schema_here", "_law_tables", "_law_cell_here", "_law_draws_here", "_law_name", "_law_columns", "_law_row_here", "_law_other", "_law_thing", "_law_told_here"] ["_law_schema_here", "_law_tables", "_law_cell_here"] (defScope s_law_rows) := ⟨rfl, rfl, rfl, by decide +kernel, rfl, by decide +kernel, by decide +kernel⟩
abbrev s_law : Stmt := top 35
theorem sc_law : FnScope ["_law_script", "_law_tables", "_law_orders", "_law_others", "_law_schema_here", "_law_second", "_law_again", "_law_cell_here"] ["_law_script"] (defScope s_law) := ⟨rfl, rfl, rfl, by decide +kernel, rfl, by decide +kernel, by decide +kernel⟩
structure Adr where
  Schema : Addr
  f_is_whole : Addr
  f_is_name : Addr
  f_is_kind : Addr
  f_is_value : Addr
  f_is_row_of : Addr
  f_need_pair : Addr
  f_columns_in : Addr
  f_tables_in : Addr
  f_orders_in : Addr
  f_Schema___init__ : Addr
  f_Schema_need_table : Addr
  f_Schema_table_names : Addr
  f_Schema_columns_of : Addr
  f_Schema_kind_of : Addr
  f_Schema_has_order : Addr
  f_Schema_fits : Addr
  f_Schema_told : Addr
  f_law_cell : Addr
  f_law_draws : Addr
  f_law_names : Addr
  f_law_schema : Addr
  f_law_value : Addr
  f_law_made : Addr
  f_law_told : Addr
  f_law_row : Addr
  f_law_spoilt : Addr
  f_law_fits : Addr
  f_law_rows : Addr
  f_law : Addr
/-- a def of the text as it stands, and how its arguments bind -/
def Dfn (K : PySem.W.Frag) (x q : Str) (st : Stmt) (ps : List Str) (f : Addr) : Prop := ∃ fd, Fun K x q st f fd ∧ Binds K fd ps []
theorem Dfn.kp {K : PySem.W.Frag} {x q : Str} {st : Stmt} {ps : List Str} {f : Addr} (d : Dfn K x q st ps f) : PySem.W.keepIn K (.ref f) = true := let ⟨_, F, _⟩ := d; F.kp
structure Txt (K : PySem.W.Frag) (mg : Str → Option Value) (A : Adr) : Prop where
  d_is_whole : Dfn K "is_whole" "is_whole" s_is_whole ["thing"] A.f_is_whole
  g_is_whole : mg "is_whole" = some (.ref A.f_is_whole)
  d_is_name : Dfn K "is_name" "is_name" s_is_name ["thing"] A.f_is_name
  g_is_name : mg "is_name" = some (.ref A.f_is_name)
  d_is_kind : Dfn K "is_kind" "is_kind" s_is_kind ["thing"] A.f_is_kind
  g_is_kind : mg "is_kind" = some (.ref A.f_is_kind)
  d_is_value : Dfn K "is_value" "is_value" s_is_value ["kind", "thing"] A.f_is_value
  g_is_value : mg "is_value" = some (.ref A.f_is_value)
  d_is_row_of : Dfn K "is_row_of" "is_row_of" s_is_row_of ["thing", "least", "most"] A.f_is_row_of
  g_is_row_of : mg "is_row_of" = some (.ref A.f_is_row_of)
  d_need_pair : Dfn K "need_pair" "need_pair" s_need_pair ["thing"] A.f_need_pair
  g_need_pair : mg "need_pair" = some (.ref A.f_need_pair)
  d_columns_in : Dfn K "columns_in" "columns_in" s_columns_in ["thing"] A.f_columns_in
  g_columns_in : mg "columns_in" = some (.ref A.f_columns_in)
  d_tables_in : Dfn K "tables_in" "tables_in" s_tables_in ["thing"] A.f_tables_in
  g_tables_in : mg "tables_in" = some (.ref A.f_tables_in)
  d_orders_in : Dfn K "orders_in" "orders_in" s_orders_in ["thing", "tables"] A.f_orders_in
  g_orders_in : mg "orders_in" = some (.ref A.f_orders_in)
  d_Schema___init__ : FD.Dfn K "__init__" "Schema.__init__" s_Schema___init__ ["self", "tables", "orders"] [.non] A.f_Schema___init__
  mk_Schema : Mk K A.Schema A.f_Schema___init__
  d_Schema_need_table : Dfn K "need_table" "Schema.need_table" s_Schema_need_table ["self", "table"] A.f_Schema_need_table
  m_Schema_need_table : Meth K A.Schema "need_table" A.f_Schema_need_table
  d_Schema_table_names : Dfn K "table_names" "Schema.table_names" s_Schema_table_names ["self"] A.f_Schema_table_names
  m_Schema_table_names : Meth K A.Schema "table_names" A.f_Schema_table_names
  d_Schema_columns_of : Dfn K "columns_of" "Schema.columns_of" s_Schema_columns_of ["self", "table"] A.f_Schema_columns_of
  m_Schema_columns_of : Meth K A.Schema "columns_of" A.f_Schema_columns_of
  d_Schema_kind_of : Dfn K "kind_of" "Schema.kind_of" s_Schema_kind_of ["self", "table", "column"] A.f_Schema_kind_of
  m_Schema_kind_of : Meth K A.Schema "kind_of" A.f_Schema_kind_of
  d_Schema_has_order : Dfn K "has_order" "Schema.has_order" s_Schema_has_order ["self", "table", "column"] A.f_Schema_has_order
  m_Schema_has_order : Meth K A.Schema "has_order" A.f_Schema_has_order
  d_Schema_fits : Dfn K "fits" "Schema.fits" s_Schema_fits ["self", "table", "row"] A.f_Schema_fits
  m_Schema_fits : Meth K A.Schema "fits" A.f_Schema_fits
  d_Schema_told : Dfn K "told" "Schema.told" s_Schema_told ["self"] A.f_Schema_told
  m_Schema_told : Meth K A.Schema "told" A.f_Schema_told
  d_law_cell : Dfn K "_law_cell" "_law_cell" s_law_cell ["_law_script", "_law_k"] A.f_law_cell
  g_law_cell : mg "_law_cell" = some (.ref A.f_law_cell)
  d_law_draws : Dfn K "_law_draws" "_law_draws" s_law_draws ["_law_cell_here", "_law_many"] A.f_law_draws
  g_law_draws : mg "_law_draws" = some (.ref A.f_law_draws)
  d_law_names : Dfn K "_law_names" "_law_names" s_law_names ["_law_cell_here", "_law_many"] A.f_law_names
  g_law_names : mg "_law_names" = some (.ref A.f_law_names)
  d_law_schema : Dfn K "_law_schema" "_law_schema" s_law_schema ["_law_cell_here"] A.f_law_schema
  g_law_schema : mg "_law_schema" = some (.ref A.f_law_schema)
  d_law_value : Dfn K "_law_value" "_law_value" s_law_value ["_law_kind", "_law_draw"] A.f_law_value
  g_law_value : mg "_law_value" = some (.ref A.f_law_value)
  d_law_made : Dfn K "_law_made" "_law_made" s_law_made ["_law_tables", "_law_orders", "_law_way"] A.f_law_made
  g_law_made : mg "_law_made" = some (.ref A.f_law_made)
  d_law_told : Dfn K "_law_told" "_law_told" s_law_told ["_law_schema_here", "_law_tables", "_law_orders"] A.f_law_told
  g_law_told : mg "_law_told" = some (.ref A.f_law_told)
  d_law_row : Dfn K "_law_row" "_law_row" s_law_row ["_law_columns", "_law_draws_here"] A.f_law_row
  g_law_row : mg "_law_row" = some (.ref A.f_law_row)
  d_law_spoilt : Dfn K "_law_spoilt" "_law_spoilt" s_law_spoilt ["_law_row_here", "_law_draws_here"] A.f_law_spoilt
  g_law_spoilt : mg "_law_spoilt" = some (.ref A.f_law_spoilt)
  d_law_fits : Dfn K "_law_fits" "_law_fits" s_law_fits ["_law_columns", "_law_row_here"] A.f_law_fits
  g_law_fits : mg "_law_fits" = some (.ref A.f_law_fits)
  d_law_rows : Dfn K "_law_rows" "_law_rows" s_law_rows ["_law_schema_here", "_law_tables", "_law_cell_here"] A.f_law_rows
  g_law_rows : mg "_law_rows" = some (.ref A.f_law_rows)
  d_law : Dfn K "law" "law" s_law ["_law_script"] A.f_law
  g_law : mg "law" = some (.ref A.f_law)
  c_Schema : Cls K A.Schema
  g_Schema : mg "Schema" = some (.ref A.Schema)
  n_Schema_columns : NoAttr K A.Schema "columns"
  n_Schema_kept_orders : NoAttr K A.Schema "kept_orders"
  b_abs : mg "abs" = none
  b_bool : mg "bool" = none
  b_enumerate : mg "enumerate" = none
  b_int : mg "int" = none
  b_isinstance : mg "isinstance" = none
  b_len : mg "len" = none
  b_list : mg "list" = none
  b_range : mg "range" = none
  b_str : mg "str" = none
  b_tuple : mg "tuple" = none
  b_zip : mg "zip" = none
  v_LETTERS : ∃ t, mg "LETTERS" = some (.str "abcdefghijklmnopqrstuvwxyz" t)
  v_MOST_COLUMNS : ∃ t, mg "MOST_COLUMNS" = some (.int (4) t)
  v_MOST_NUMBER : ∃ t, mg "MOST_NUMBER" = some (.int (1000000000) t)
  v_MOST_ORDERS : ∃ t, mg "MOST_ORDERS" = some (.int (4) t)
  v_MOST_SIGNS : ∃ t, mg "MOST_SIGNS" = some (.int (8) t)
  v_MOST_TABLES : ∃ t, mg "MOST_TABLES" = some (.int (4) t)
local macro_rules | `(tactic| walk_at "z cls") => `(tactic| first | assumption | exact (‹Txt _ _ _›).c_Schema)
local macro_rules | `(tactic| walk_at "z attr") => `(tactic| first | (with_reducible exact (‹Txt _ _ _›).n_Schema_columns) | (with_reducible exact (‹Txt _ _ _›).n_Schema_kept_orders) | fail)
def schF (x0 : Addr) (x1 : V) : List (Str × V) := [("columns", .ref x0), ("kept_orders", x1)]
section
variable {x0 : Addr} {x1 : V} {y0 : Addr} {y1 : V}
theorem schF_g0 : (schF x0 x1).lookup ("columns" : Str) = some (.ref x0) := by unfold schF; exact Z.look_eq
theorem schF_p0 : putF ("columns" : Str) (.ref y0) (schF x0 x1) = schF y0 x1 := by unfold schF; first | exact Z.put_eq | rw [Z.put_eq]
theorem schF_g1 : (schF x0 x1).lookup ("kept_orders" : Str) = some (x1) := by unfold schF; rw [Z.look_ne (by decide +kernel)]; exact Z.look_eq
theorem schF_p1 : putF ("kept_orders" : Str) (y1) (schF x0 x1) = schF x0 y1 := by unfold schF; rw [Z.put_ne (by decide +kernel)]; first | exact Z.put_eq | rw [Z.put_eq]
theorem schF_no {m : Str} (h : (["columns", "kept_orders"] : List Str).all (fun f => !decide (m = f)) = true) : (schF x0 x1).lookup m = none := by
  simp only [List.all_cons, List.all_nil, Bool.and_true, Bool.and_eq_true, Bool.not_eq_true'] at h
  obtain ⟨h0, h1⟩ := h
  unfold schF
  rw [Z.look_ne h0, Z.look_ne h1]
  rfl
theorem schF_len : (schF x0 x1).length < 1000 := by unfold schF; simp only [List.length_cons, List.length_nil]; decide
end
local macro_rules | `(tactic| walk_at "z look") => `(tactic| first | (with_reducible exact schF_g0) | (with_reducible exact schF_g1) | rfl)
local macro_rules | `(tactic| walk_at "z put") => `(tactic| first | rw [schF_p0] | rw [schF_p1] | (simp (disch := decide +kernel) only [Z.put_ne, Z.put_eq, Z.put_nil]))
local macro_rules | `(tactic| walk_at "z no") => `(tactic| first | (with_reducible refine schF_no (by decide +kernel)) | rfl)
local macro_rules | `(tactic| walk_at "z small") => `(tactic| first | (with_reducible exact schF_len) | decide | (simp only [List.length_cons, List.length_nil]; decide) | omega)
variable {A : Adr}
theorem ix_listK {X : Cx} {K : PySem.W.Frag} (h : X.K = K) : IxR X (rIxL K) := by subst h; exact ix_list
theorem pg_tupK {X : Cx} {K : PySem.W.Frag} {es : List Expr} {k : Nat} {t : TGs} {n : Nat} {pos : Pos} (hK : X.K = K) (hc : X.calm = true) (h : PGs X es t)
    (hn : (assignEach es X.env).length = n := by rfl) (hst : (assignEach es X.env).findIdx? (·.1) = none := by rfl) : PG X (.Tuple es k pos) (gTup K n t) := by subst hK; exact pg_tup hc h hn hst
theorem call_list_ofK {X : Cx} {K : PySem.W.Frag} (h : X.K = K) : CallR X (.type "list") (fun xs H Q => ∃ p ys, xs = [.ref p] ∧ (SqL K H p ys ∨ SqT K H p ys) ∧ ∀ l, H l = none → Q (.ref l) (upd H l (.lst ys))) := by subst h; exact call_list_of
theorem call_tuple_ofK {X : Cx} {K : PySem.W.Frag} (h : X.K = K) : CallR X (.type "tuple") (fun xs H Q => ∃ p ys, xs = [.ref p] ∧ ((SqL K H p ys ∧ ∀ l, H l = none → Q (.ref l) (upd H l (.tup ys))) ∨ (SqT K H p ys ∧ Q (.ref p) H))) := by subst h; exact call_tuple_of
theorem ix_tupK {X : Cx} {K : PySem.W.Frag} (h : X.K = K) : IxR X (rIxT K) := by subst h; exact ix_tup
theorem call_isiK {X : Cx} {K : PySem.W.Frag} (h : X.K = K) : CallR X (.builtin "isinstance") (rIsi K) := by subst h; exact call_isi
/-! ### texts, names, kinds, values -/
def LET : Str := "abcdefghijklmnopqrstuvwxyz"
def InS (S z : Str) : Prop := ∀ c ∈ z.cps.toList, c ∈ S.cps.toList
instance {S z : Str} : Decidable (InS S z) := inferInstanceAs (Decidable (∀ c ∈ z.cps.toList, c ∈ S.cps.toList))
def Name (z : Str) : Prop := 1 ≤ z.length ∧ z.length ≤ 8 ∧ InS LET z
instance {z : Str} : Decidable (Name z) := inferInstanceAs (Decidable (_ ∧ _ ∧ _))
def Kind (z : Str) : Prop := z = "number" ∨ z = "word"
instance {z : Str} : Decidable (Kind z) := inferInstanceAs (Decidable (_ ∨ _))
def whole : PyData → Bool
  | .int _ => true
  | _ => false
def named : PyData → Bool
  | .str z => decide (Name z)
  | _ => false
def kinded : PyData → Bool
  | .str z => decide (Kind z)
  | _ => false
def numb : PyData → Bool
  | .int i => decide (-(10 ^ 9) ≤ i ∧ i ≤ 10 ^ 9)
  | _ => false
def SmallS : PyData → Prop
  | .str z => z.length ≤ 10000
  | _ => True
def valOk (k : Str) (d : PyData) : Bool := if k = "word" then named d else numb d
theorem iteB {b : Bool} {A B : Prop} (h1 : b = true → A) (h2 : b = false → B) : if b = true then A else B := by
  cases b
  · rw [if_neg Bool.false_ne_true]; exact h2 rfl
  · rw [if_pos rfl]; exact h1 rfl
theorem chain {r r' : R2} {ta tb tc : TE} {σ : L2.St} {H : Hp} {Q : VK} (h : ta σ H fun x H1 => tb σ H1 fun y H2 => r x y H2 fun z H3 => ∃ k, z = .bl k ∧ (if k = true then tc σ H3 fun w' H4 => r' y w' H4 Q else Q (.bl false) H3)) : tChain r r' ta tb tc σ H Q := h
theorem forS {te : TE} {g : TG} {ts : TS} {D : Ends} {σ : L2.St} {H : Hp} (h : te σ H fun v H1 => ∃ x, v = .str x ∧ ∃ W : Nat → Nat → L2.St → Hp → Prop, (∃ m, W 0 m σ H1) ∧ ∀ i m σ H, W i m σ H →
      ((Its x).stop i H ∧ D.nx σ H) ∨ ((Its x).go i H ∧ ∃ N : L2.St → Hp → Prop, (∀ σ' H', N σ' H' → ∃ m', m' < m ∧ W (i + 1) m' σ' H') ∧ ∀ v H', (Its x).yld i H v H' → g v σ H' fun σ2 H2 => ts { D with nx := N, ct := N, bk := D.nx } σ2 H2)) : tFor (iStr te) g ts D σ H := h
theorem tupItems {te : TE} {σ : L2.St} {H : Hp} {Q : VK} (h : te σ H fun x H1 => ZT.rItemsT2 x H1 Q) : ZT.tTupItems te σ H Q := h
theorem isN2 {v : V} {H : Hp} {Q : VK} (k : Q (.bl (decide (v = .non))) H) : (V.non = .non) ∧ Q (.bl (decide (v = .non))) H := ⟨rfl, k⟩
local macro_rules | `(tactic| walk_at "z1") => `(tactic| first | (with_reducible refine forS ?_) | (with_reducible refine chain ?_) | (with_reducible refine Z.forSq ?_) | (with_reducible refine Z.lcE ?_) | (with_reducible refine Z.iTupE ?_) | (with_reducible refine Z.iListE ?_) | (with_reducible refine Z.iEnumE ?_) | (with_reducible refine Z.iZipAE ?_) | (with_reducible refine Z.din ?_) | (with_reducible refine Z.dnotin ?_))
theorem allIn_of {S z : Str} (h : ∀ j c, j < z.cps.size → z.cps[j]? = some c → c ∈ S.cps.toList) : InS S z := fun c hc => by
  obtain ⟨j, hj, e⟩ := List.mem_iff_getElem.mp hc
  exact h j c (by simpa using hj) (by rw [← Array.getElem?_toList, List.getElem?_eq_getElem hj, e])
theorem let_lt : ∀ c ∈ LET.cps.toList, c < 123 := by decide +kernel
theorem Name.ok {z : Str} (n : Name z) : PyData.strOk z = true := by
  unfold PyData.strOk
  rw [← Array.all_toList, List.all_eq_true]
  intro c hc
  have := let_lt c (n.2.2 c hc)
  exact decide_eq_true (by omega)
theorem whole_ty (d : PyData) : whole d = (Z.isTy "int" d && !Z.isTy "bool" d) := by cases d <;> rfl
theorem named_no {d : PyData} (h : Z.isTy "str" d = false) : named d = false := by cases d <;> first | rfl | exact absurd h (by simp [Z.isTy, Z.tyN])
theorem kinded_no {d : PyData} (h : Z.isTy "str" d = false) : kinded d = false := by cases d <;> first | rfl | exact absurd h (by simp [Z.isTy, Z.tyN])
theorem isStr {d : PyData} (h : Z.isTy "str" d = true) : ∃ z, d = .str z := by cases d <;> first | exact ⟨_, rfl⟩ | exact absurd h (by simp [Z.isTy, Z.tyN])
theorem in2 (z a b : Str) : decide (z = a ∨ z = b) = inV (.str z) [.str a, .str b] := by
  rw [Bool.eq_iff_iff]
  simp only [inV, List.any_cons, List.any_nil, Bool.or_false, eqV, Bool.or_eq_true, decide_eq_true_eq, beq_iff_eq]
  exact ⟨fun h => h.imp Eq.symm Eq.symm, fun h => h.imp Eq.symm Eq.symm⟩
def sp_is_whole (K : PySem.W.Frag) (A : Adr) : Sp := fun vs H Q _ => ∃ v d, vs = [v] ∧ Dp K H v d ∧ Q (.bl (whole d)) H
def sp_is_name (K : PySem.W.Frag) (A : Adr) : Sp := fun vs H Q _ => ∃ v d, vs = [v] ∧ Dp K H v d ∧ SmallS d ∧ Q (.bl (named d)) H
def sp_is_kind (K : PySem.W.Frag) (A : Adr) : Sp := fun vs H Q _ => ∃ v d, vs = [v] ∧ Dp K H v d ∧ ∀ H', Same H H' → Q (.bl (kinded d)) H'
def sp_is_value (K : PySem.W.Frag) (A : Adr) : Sp := fun vs H Q _ => ∃ k v d, vs = [.str k, v] ∧ Dp K H v d ∧ SmallS d ∧ Q (.bl (valOk k d)) H
theorem ok_is_whole (T : Txt K mg A) : ∃ fd, FnOk P w K mg base CX0 1 A.f_is_whole fd ["thing"] (sp_is_whole K A) ∧ Binds K fd ["thing"] [] := by
  have ⟨fd, F, b⟩ := T.d_is_whole
  refine ⟨fd, F.ok sc_is_whole (fun vs H Q E h => ?_) (fun cdv Ar outer s H vs Q E hr h => ?_), b⟩
  · obtain ⟨v, d, rfl, _⟩ := h
    rfl
  · obtain ⟨v, d, rfl, h, k⟩ := h
    have nd := sc_is_whole.nd
    have hu := hu_of hr
    refine ⟨_, (pss_one (ps_ret (pe_and (pe_callB call_isi (by rfl) T.b_isinstance (by decide +kernel) (pa_cons (pv 0) (pa_cons (pe_bltn (v := .ty "int") (u := .type "int") (by rfl) T.b_int (by decide +kernel) rfl) pa_nil))) (pe_one (pe_not (pe_callB call_isi (by rfl) T.b_isinstance (by decide +kernel) (pa_cons (pv 0) (pa_cons (pe_bltn (v := .ty "bool") (u := .type "bool") (by rfl) T.b_bool (by decide +kernel) rfl) pa_nil)))))))), ?_⟩
    simp only [cxOf, Cx.nox, L2.start, List.map_cons, List.map_nil, List.length_cons, List.length_nil, Nat.reduceAdd, Nat.reduceSub, List.replicate, List.cons_append, List.nil_append]
    walk_at "z"
    refine Z.isiD h (Same.refl _) (by simp) ?_
    rw [whole_ty] at k
    walk_at "z"
    refine iteB (fun e => ?_) (fun e => ?_)
    · walk_at "z"
      refine Z.isiD h (Same.refl _) (by simp) ?_
      walk_at "z"
      rw [e] at k
      exact k
    · rw [e] at k
      exact k
theorem ok_is_name (T : Txt K mg A) : ∃ fd, FnOk P w K mg base CX0 1 A.f_is_name fd ["thing"] (sp_is_name K A) ∧ Binds K fd ["thing"] [] := by
  have ⟨fd, F, b⟩ := T.d_is_name
  refine ⟨fd, F.ok sc_is_name (fun vs H Q E h => ?_) (fun cdv Ar outer s H vs Q E hr h => ?_), b⟩
  · obtain ⟨v, d, rfl, _⟩ := h
    rfl
  · obtain ⟨v, d, rfl, h, hz, k⟩ := h
    have nd := sc_is_name.nd
    have hu := hu_of hr
    refine ⟨_, (pss_cons (ps_if (PW.pt (pw_or (pt_not (pt_val (pe_callB call_isi (by rfl) T.b_isinstance (by decide +kernel) (pa_cons (pv 0) (pa_cons (pe_bltn (v := .ty "str") (u := .type "str") (by rfl) T.b_str (by decide +kernel) rfl) pa_nil))))) (pw_or1 (pt_not (pt_chain op_le op_le pe_int (pe_callB call_len_str (by rfl) T.b_len PySem.boot_len (pa_cons (pv 0) pa_nil)) (Z.pe_gint rfl T.v_MOST_SIGNS)))))) (pss_one (ps_ret pe_bl)) pss_nil)
      (pss_cons (ps_for PassesOwn.never rfl (pi_str (pv 0)) (pg_name (i := 1) nd rfl (Or.inl rfl)) (pss_one (ps_if (pt_cmpR op_notIn_sign (pv 1) (Z.pe_gstr rfl T.v_LETTERS) (by rfl)) (pss_one (ps_ret pe_bl)) pss_nil)))
      (pss_one (ps_ret pe_bl)))), ?_⟩
    simp only [cxOf, Cx.nox, L2.start, List.map_cons, List.map_nil, List.length_cons, List.length_nil, Nat.reduceAdd, Nat.reduceSub, List.replicate, List.cons_append, List.nil_append]
    walk_at "z"
    refine Z.isiD h (Same.refl _) (by simp) ?_
    walk_at "z"
    refine iteB (fun e => ?_) (fun e => ?_)
    · have e' : Z.isTy "str" d = false := by simpa using e
      walk_at "z"
      rw [named_no e'] at k
      exact k
    · have e' : Z.isTy "str" d = true := by simpa using e
      obtain ⟨z, rfl⟩ := isStr e'
      have hz : z.length ≤ 10000 := hz
      cases Z.dp_str h
      have k : Q (.bl (decide (Name z))) H := k
      walk_at "z"
      refine ⟨z, rfl, Nat.le_trans hz (by decide), ?_⟩
      walk_at "z"
      refine Z.iteD (fun h1 => ?_) (fun h1 => ?_)
      · walk_at "z"
        refine Z.iteN (fun h2 => ?_) (fun h2 => ?_)
        · walk_at "z"
          rw [show decide (Name z) = false from decide_eq_false fun n => h2 (by have := n.2.1; omega)] at k
          exact k
        · walk_at "z"
          refine ⟨z, rfl, for_it walk_str (fun i σ H' => H' = H ∧ (∃ v, σ = [some (.str z), v]) ∧ ∀ j c, j < i → z.cps[j]? = some c → c ∈ LET.cps.toList) ⟨rfl, ⟨_, rfl⟩, fun j c h => absurd h (Nat.not_lt_zero _)⟩ (fun _ _ _ _ _ => True.intro) ?_ ?_⟩
          · rintro i x σ H' H'' hi ⟨rfl, ⟨v, rfl⟩, hall⟩ ⟨rfl, c, hc, rfl⟩
            walk_at "z"
            refine ⟨c, _, rfl, rfl, ?_⟩
            walk_at "z"
            refine Z.iteN (fun h3 => ?_) (fun h3 => ?_)
            · walk_at "z"
              rw [show decide (Name z) = false from decide_eq_false fun n => h3 (n.2.2 c (by rw [Array.mem_toList_iff]; exact Array.mem_of_getElem? hc))] at k
              exact k
            · walk_at "z"
              refine ⟨rfl, ⟨_, rfl⟩, fun j c' hj hc' => ?_⟩
              by_cases e : j = i
              · subst e
                rw [hc] at hc'
                cases hc'
                exact h3
              · exact hall j c' (by omega) hc'
          · rintro σ H' ⟨rfl, ⟨v, rfl⟩, hall⟩
            walk_at "z"
            rw [show decide (Name z) = true from decide_eq_true ⟨by omega, by omega, allIn_of hall⟩] at k
            exact k
      · walk_at "z"
        rw [show decide (Name z) = false from decide_eq_false fun n => h1 (by have := n.1; omega)] at k
        exact k
theorem ok_is_kind (T : Txt K mg A) : ∃ fd, FnOk P w K mg base CX0 1 A.f_is_kind fd ["thing"] (sp_is_kind K A) ∧ Binds K fd ["thing"] [] := by
  have ⟨fd, F, b⟩ := T.d_is_kind
  refine ⟨fd, F.ok sc_is_kind (fun vs H Q E h => ?_) (fun cdv Ar outer s H vs Q E hr h => ?_), b⟩
  · obtain ⟨v, d, rfl, _⟩ := h
    rfl
  · obtain ⟨v, d, rfl, h, k⟩ := h
    have nd := sc_is_kind.nd
    have hu := hu_of hr
    refine ⟨_, (pss_one (ps_ret (pe_and (pe_callB call_isi (by rfl) T.b_isinstance (by decide +kernel) (pa_cons (pv 0) (pa_cons (pe_bltn (v := .ty "str") (u := .type "str") (by rfl) T.b_str (by decide +kernel) rfl) pa_nil))) (pe_one (pe_cmpR op_in_seq (pv 0) (pe_tup (pa_cons pe_str (pa_cons pe_str pa_nil))) (by rfl)))))), ?_⟩
    simp only [cxOf, Cx.nox, L2.start, List.map_cons, List.map_nil, List.length_cons, List.length_nil, Nat.reduceAdd, Nat.reduceSub, List.replicate, List.cons_append, List.nil_append]
    walk_at "z"
    refine Z.isiD h (Same.refl _) (by simp) ?_
    walk_at "z"
    refine iteB (fun e => ?_) (fun e => ?_)
    · obtain ⟨z, rfl⟩ := isStr e
      cases Z.dp_str h
      walk_at "z"
      refine ⟨by simp only [List.length_cons, List.length_nil]; decide, fun p hp => ?_⟩
      refine ⟨p, _, rfl, .inr (SqT.of upd_same), rfl, rfl, ?_⟩
      have := k _ (Z.same_new (o := .tup [.str "number", .str "word"]) hp)
      rw [show kinded (.str z) = inV (.str z) [.str "number", .str "word"] from in2 z _ _] at this
      exact this
    · rw [kinded_no e] at k
      exact k _ (Same.refl _)
theorem ok_is_value (T : Txt K mg A) : ∃ fd, FnOk P w K mg base CX0 2 A.f_is_value fd ["kind", "thing"] (sp_is_value K A) ∧ Binds K fd ["kind", "thing"] [] := by
  have ⟨fd, F, b⟩ := T.d_is_value
  refine ⟨fd, F.ok sc_is_value (fun vs H Q E h => ?_) (fun cdv Ar outer s H vs Q E hr h => ?_), b⟩
  · obtain ⟨kd, v, d, rfl, _⟩ := h
    rfl
  · obtain ⟨kd, v, d, rfl, h, hz, k⟩ := h
    have nd := sc_is_value.nd
    have hu := hu_of hr
    have ⟨fd_is_name, G_is_name, b_is_name⟩ := ok_is_name (P := P) (w := w) (base := base) T
    have ⟨fd_is_whole, G_is_whole, b_is_whole⟩ := ok_is_whole (P := P) (w := w) (base := base) T
    refine ⟨_, (pss_cons (ps_if (pt_cmpR op_eq (pv 0) pe_str (nomark _)) (pss_one (ps_ret (pe_call G_is_name (hr.mono (by decide)) (by rfl) T.g_is_name T.d_is_name.kp b_is_name .nil pass0 (pa_cons (pv 1) pa_nil)))) pss_nil)
      (pss_one (ps_ret (pe_and (pe_call G_is_whole (hr.mono (by decide)) (by rfl) T.g_is_whole T.d_is_whole.kp b_is_whole .nil pass0 (pa_cons (pv 1) pa_nil)) (pe_one (pe_chain op_le op_le (pe_op op_sub pe_int (Z.pe_gint rfl T.v_MOST_NUMBER)) (pv 1) (Z.pe_gint rfl T.v_MOST_NUMBER))))))), ?_⟩
    simp only [cxOf, Cx.nox, L2.start, List.map_cons, List.map_nil, List.length_cons, List.length_nil, Nat.reduceAdd, Nat.reduceSub, List.replicate, List.cons_append, List.nil_append]
    walk_at "z"
    refine Z.iteD (fun h1 => ?_) (fun h1 => ?_)
    · have e : kd = "word" := V.str.inj h1
      subst e
      walk_at "z"
      exact ⟨v, d, rfl, h, hz, k⟩
    · have e : kd ≠ "word" := fun e => h1 (by rw [e])
      rw [show valOk kd d = numb d from if_neg e] at k
      walk_at "z"
      refine ⟨v, d, rfl, h, ?_⟩
      walk_at "z"
      cases d with
      | int i =>
        cases Z.dp_int h
        refine Z.iteTd rfl ?_
        have k : Q (.bl (decide (-(10 ^ 9) ≤ i ∧ i ≤ 10 ^ 9))) H := k
        walk_at "z"
        refine Z.iteD (fun h1 => ?_) (fun h1 => ?_)
        · walk_at "z"
          rw [show decide (-(10 ^ 9) ≤ i ∧ i ≤ 10 ^ 9) = decide (i ≤ 1000000000) from decide_eq_decide.mpr ⟨fun h => by omega, fun h => by omega⟩] at k
          exact k
        · walk_at "z"
          rw [show decide (-(10 ^ 9) ≤ i ∧ i ≤ 10 ^ 9) = false from decide_eq_false fun h => h1 (by omega)] at k
          exact k
      | none => exact k
      | bool b => exact k
      | str z => exact k
      | list xs => exact k
      | tuple xs => exact k
      | dict xs => exact k

/-! ### the law's draws and names -/
def sp_law_cell (K : PySem.W.Frag) (A : Adr) : Sp := fun vs H Q _ => ∃ (a : Addr) (ns : List Int) (i : Nat), vs = [.ref a, .int i] ∧ SqL K H a (ns.map V.int) ∧ ns.length ≤ 63 ∧ i ≤ 1000 ∧ ∀ c, Q (.int c) H
theorem ok_law_cell (T : Txt K mg A) : ∃ fd, FnOk P w K mg base CX0 1 A.f_law_cell fd ["_law_script", "_law_k"] (sp_law_cell K A) ∧ Binds K fd ["_law_script", "_law_k"] [] := by
  have ⟨fd, F, b⟩ := T.d_law_cell
  refine ⟨fd, F.ok sc_law_cell (fun vs H Q E h => ?_) (fun cdv Ar outer s H vs Q E hr h => ?_), b⟩
  · obtain ⟨a, ns, i, rfl, _⟩ := h
    rfl
  · obtain ⟨a, ns, i, rfl, hS, hl, hi, k⟩ := h
    have nd := sc_law_cell.nd
    have hu := hu_of hr
    refine ⟨_, (pss_cons (ps_if (pt_cmpR op_lt (pv 1) (pe_callB call_len_seq (by rfl) T.b_len PySem.boot_len (pa_cons (pv 0) pa_nil)) (nomark _)) (pss_one (ps_ret (pe_ix ix_list (pv 0) (pv 1) (fun _ _ => rfl)))) pss_nil)
      (pss_one (ps_ret (pe_op op_add (pe_op op_mul pe_int (pv 1)) pe_int)))), ?_⟩
    simp only [cxOf, Cx.nox, L2.start, List.map_cons, List.map_nil, List.length_cons, List.length_nil, Nat.reduceAdd, Nat.reduceSub, List.replicate, List.cons_append, List.nil_append]
    walk_at "z"
    refine Z.lenSeq hS ?_
    walk_at "z"
    rw [List.length_map]
    refine Z.iteD (fun h1 => ?_) (fun h1 => ?_)
    · walk_at "z"
      have e : ns[i]? = some (ns[i]'(by omega)) := List.getElem?_eq_getElem _
      refine Z.ixL (i := i) hS (by rw [List.getElem?_map, e]; rfl) ?_
      exact k _
    · walk_at "z"
      exact k _
def sp_law_draws (K : PySem.W.Frag) (A : Adr) : Sp := fun vs H Q _ => ∃ (F : Hp) (c : Int) (n : Nat), vs = [.int c, .int n] ∧ Same F H ∧ n ≤ 100 ∧ ∀ F' H' v (xs : List Int), xs.length = n → (∀ x ∈ xs, 0 ≤ x ∧ x < 10 ^ 10) → Z.Gr F H F' H' → Dp K F' v (.list (xs.map .int)) → Q v H'
theorem ok_law_draws (T : Txt K mg A) : ∃ fd, FnOk P w K mg base CX0 1 A.f_law_draws fd ["_law_cell_here", "_law_many"] (sp_law_draws K A) ∧ Binds K fd ["_law_cell_here", "_law_many"] [] := by
  have ⟨fd, F, b⟩ := T.d_law_draws
  refine ⟨fd, F.ok sc_law_draws (fun vs H Q E h => ?_) (fun cdv Ar outer s H vs Q E hr h => ?_), b⟩
  · obtain ⟨F0, c, n, rfl, _⟩ := h
    rfl
  · obtain ⟨F0, c, n, rfl, sm, hn, k⟩ := h
    have nd := sc_law_draws.nd
    have hu := hu_of hr
    refine ⟨_, (pss_cons (ps_set (i := 2) nd rfl (Or.inl rfl) (pe_lst pa_nil))
      (pss_cons (ps_set (i := 3) nd rfl (Or.inl rfl) (pe_callB call_abs (by rfl) T.b_abs (by decide +kernel) (pa_cons (pv 0) pa_nil)))
      (pss_cons (ps_set (i := 4) nd rfl (Or.inl rfl) (pe_op op_mod (pv 3) pe_int))
      (pss_cons (ps_for PassesOwn.never rfl (pi_range1 rfl T.b_range (pa_cons (pv 1) pa_nil)) (pg_name (i := 5) nd rfl (Or.inl rfl)) (pss_cons (ps_set (i := 4) nd rfl (Or.inl rfl) (pe_op op_mod (pe_op op_add (pe_op op_add (pe_op op_mul (pv 4) pe_int) (pe_op op_mul pe_int (pv 5))) pe_int) pe_int))
      (pss_one (ps_if (pt_cmpR op_ge (pv 3) (pe_op op_pow pe_int pe_int) (nomark _)) (pss_cons (ps_expr (pe_bm PySem.F.plainAttrs_list PySem.F.slot_list_append PySem.F.type_list_append mt_append (pv 2) (pa_cons (pe_op op_mod (pv 3) (pe_op op_pow pe_int pe_int)) pa_nil)))
      (pss_one (ps_set (i := 3) nd rfl (Or.inl rfl) (pe_op op_fdivW (pv 3) (pe_op op_pow pe_int pe_int))))) (pss_one (ps_expr (pe_bm PySem.F.plainAttrs_list PySem.F.slot_list_append PySem.F.type_list_append mt_append (pv 2) (pa_cons (pe_op op_mod (pe_op op_mul (pv 4) (pe_op op_add (pv 4) pe_int)) pe_int) pa_nil))))))))
      (pss_one (ps_ret (pv 2))))))), ?_⟩
    simp only [cxOf, Cx.nox, L2.start, List.map_cons, List.map_nil, List.length_cons, List.length_nil, Nat.reduceAdd, Nat.reduceSub, List.replicate, List.cons_append, List.nil_append]
    walk_at "z"
    refine ⟨by simp only [List.length_cons, List.length_nil]; decide, fun q hq => ?_⟩
    have W0 := (Z.Ws.init sm).new (o := .lst []) hq
    walk_at "z"
    refine ⟨c, rfl, ?_⟩
    walk_at "z"
    refine ⟨(n : Int), rfl, by omega, by omega, ?_⟩
    rw [Int.toNat_natCast]
    refine (for_range (lo := 0) (n := n) (fun i σ H' => ∃ (xs : List Int) (l m : Int) (v : Option V), σ = [some (.int c), some (.int n), some (.ref q), some (.int l), some (.int m), v] ∧ 0 ≤ l ∧ 0 ≤ m ∧ m < 2147483647 ∧ xs.length = i ∧ (∀ x ∈ xs, 0 ≤ x ∧ x < 10 ^ 10) ∧ Z.Ws [(q, .lst (xs.map .int))] F0 H F0 H')
      ⟨[], _, _, none, rfl, by split <;> omega, Int.emod_nonneg _ (by decide), Int.emod_lt_of_pos _ (by decide), rfl, fun x h => (nomatch h), W0⟩ ?_ ?_)
    · rintro i σ H1 hi ⟨xs, l, m, v, rfl, l0, m0, m1, hx, pos, W⟩
      walk_at "z"
      have p1 : (0 : Int) < 10 ^ Int.toNat 10 := by decide
      refine Z.iteD (fun h1 => ?_) (fun h1 => ?_)
      · walk_at "z"
        refine ⟨.inl ⟨rfl, _, SqL.of (W.at 0 rfl)⟩, ?_⟩
        walk_at "z"
        refine Z.appW W 0 rfl (fun H' W' => ?_) (by rw [List.length_map]; omega)
        walk_at "z"
        refine ⟨xs ++ [l % 10 ^ Int.toNat 10], _, _, _, rfl, Int.ediv_nonneg l0 (Int.le_of_lt p1), Int.emod_nonneg _ (by decide), Int.emod_lt_of_pos _ (by decide), by simp; omega, fun x hx => ?_, by rw [List.map_append]; exact W'⟩
        rcases List.mem_append.mp hx with h | h
        · exact pos x h
        · rw [List.mem_singleton.mp h]; exact ⟨Int.emod_nonneg _ (by decide), Int.emod_lt_of_pos _ (by decide)⟩
      · walk_at "z"
        refine ⟨.inl ⟨rfl, _, SqL.of (W.at 0 rfl)⟩, ?_⟩
        walk_at "z"
        refine Z.appW W 0 rfl (fun H' W' => ?_) (by rw [List.length_map]; omega)
        walk_at "z"
        refine ⟨xs ++ [_], _, _, _, rfl, l0, Int.emod_nonneg _ (by decide), Int.emod_lt_of_pos _ (by decide), by simp; omega, fun x hx => ?_, by rw [List.map_append]; exact W'⟩
        rcases List.mem_append.mp hx with h | h
        · exact pos x h
        · rw [List.mem_singleton.mp h]; exact ⟨Int.emod_nonneg _ (by decide), Int.lt_trans (Int.emod_lt_of_pos _ (by decide)) (by decide)⟩
    · rintro σ H1 ⟨xs, l, m, v, rfl, l0, m0, m1, hx, pos, W⟩
      walk_at "z"
      obtain ⟨F', W', s', g'⟩ := W.frz 0 rfl
      exact k F' H1 _ xs hx pos W'.g (.lst (SqL.of g') (Z.dpa_of_ints xs))
/-! names: alike but at one place -/
def nmSign (xs : List Int) (t k j : Nat) : Int := (xs.getD (2 + j) 0 + k * (if j = t then 1 else 0)) % 26
def nmCodes (xs : List Int) (sz t k : Nat) : List Nat := (List.range sz).map fun j => 97 + (nmSign xs t k j).toNat
def nmOf (xs : List Int) (sz t k : Nat) : Str := ⟨(nmCodes xs sz t k).toArray⟩
theorem nmSign_lt (xs : List Int) (t k j : Nat) : 0 ≤ nmSign xs t k j ∧ nmSign xs t k j < 26 := ⟨Int.emod_nonneg _ (by decide), Int.emod_lt_of_pos _ (by decide)⟩
theorem let_in : ∀ n : Nat, n < 26 → LET.cps.toList[n]? = some (97 + n) := by decide +kernel
theorem nm_name {xs : List Int} {sz t k : Nat} (h1 : 1 ≤ sz) (h8 : sz ≤ 8) : Name (nmOf xs sz t k) := by
  have e : (nmOf xs sz t k).cps.toList = nmCodes xs sz t k := rfl
  have l : (nmOf xs sz t k).length = sz := by
    show (nmCodes xs sz t k).toArray.size = sz
    simp [nmCodes]
  refine ⟨by omega, by omega, fun c hc => ?_⟩
  rw [e] at hc
  obtain ⟨j, hj, rfl⟩ := List.mem_map.mp hc
  have := nmSign_lt xs t k j
  exact List.mem_of_getElem? (let_in (nmSign xs t k j).toNat (by omega))
theorem nm_ne {xs : List Int} {sz t k k' : Nat} (ht : t < sz) (hk : k < k') (hk' : k' < 26) : nmOf xs sz t k ≠ nmOf xs sz t k' := by
  intro e
  have e1 : nmCodes xs sz t k = nmCodes xs sz t k' := congrArg (fun s : Str => s.cps.toList) e
  have e2 := congrArg (fun l : List Nat => l[t]?) e1
  simp only [nmCodes, List.getElem?_map, List.getElem?_range ht, Option.map_some, Option.some.injEq] at e2
  have a := nmSign_lt xs t k t
  have b := nmSign_lt xs t k' t
  have e3 : nmSign xs t k t = nmSign xs t k' t := by omega
  simp only [nmSign, if_pos] at e3
  omega
theorem nm_nodup {xs : List Int} {sz t n : Nat} (ht : t < sz) (hn : n ≤ 26) : ((List.range n).map (nmOf xs sz t)).Nodup := by
  rw [List.nodup_iff_pairwise_ne, List.pairwise_map]
  refine List.Pairwise.imp_of_mem (R := fun a b => a < b) (fun {a b} ha hb h => nm_ne ht h ?_) List.pairwise_lt_range
  have := List.mem_range.mp hb
  omega
theorem join_one : ∀ cs : List Nat, Txt.join "" (cs.map fun c => (⟨#[c]⟩ : Str)) = ⟨cs.toArray⟩
  | [] => rfl
  | c :: r => by
    have e : Txt.join "" ((⟨#[c]⟩ : Str) :: r.map fun c => (⟨#[c]⟩ : Str)) = (⟨#[c]⟩ : Str) ++ Txt.join "" (r.map fun c => (⟨#[c]⟩ : Str)) := by
      rw [TL.join_eq, TL.join_eq]
      exact PyProof.Rows.join_nil_cons _ _
    rw [List.map_cons, e, join_one r]
    refine TL.ext_tl ?_
    show (#[c] ++ r.toArray).toList = _
    simp [TL.tl]
theorem sum_one (cs : List Nat) : ((cs.map fun c => (⟨#[c]⟩ : Str)).map (·.length)).sum = cs.length := by
  induction cs with
  | nil => rfl
  | cons c r ih =>
    rw [List.map_cons, List.map_cons, List.sum_cons, ih, List.length_cons]
    show 1 + r.length = _
    omega
def sp_law_names (K : PySem.W.Frag) (A : Adr) : Sp := fun vs H Q _ => ∃ (F : Hp) (c : Int) (n : Nat), vs = [.int c, .int n] ∧ Same F H ∧ n ≤ 26 ∧ ∀ F' H' v (zs : List Str), zs.length = n → (∀ z ∈ zs, Name z) → zs.Nodup → Z.Gr F H F' H' → Dp K F' v (.list (zs.map .str)) → Q v H'
theorem ok_law_names (T : Txt K mg A) : ∃ fd, FnOk P w K mg base CX0 2 A.f_law_names fd ["_law_cell_here", "_law_many"] (sp_law_names K A) ∧ Binds K fd ["_law_cell_here", "_law_many"] [] := by
  have ⟨fd, F, b⟩ := T.d_law_names
  refine ⟨fd, F.ok sc_law_names (fun vs H Q E h => ?_) (fun cdv Ar outer s H vs Q E hr h => ?_), b⟩
  · obtain ⟨F0, c, n, rfl, _⟩ := h
    rfl
  · obtain ⟨F0, c, n, rfl, sm, hn, k⟩ := h
    have nd := sc_law_names.nd
    have hu := hu_of hr
    have ⟨fd_law_draws, G_law_draws, b_law_draws⟩ := ok_law_draws (P := P) (w := w) (base := base) T
    refine ⟨_, (pss_cons (ps_set (i := 2) nd rfl (Or.inr rfl) pe_str)
      (pss_cons (ps_set (i := 3) nd rfl (Or.inr rfl) (pe_call G_law_draws (hr.mono (by decide)) (by rfl) T.g_law_draws T.d_law_draws.kp b_law_draws .nil pass0 (pa_cons (pv 0) (pa_cons pe_int pa_nil))))
      (pss_cons (ps_set (i := 4) nd rfl (Or.inl rfl) (pe_op op_add pe_int (pe_op op_mod (pe_ix ix_list (pv 3) pe_int (fun _ _ => rfl)) pe_int)))
      (pss_cons (ps_set (i := 5) nd rfl (Or.inr rfl) (pe_op op_mod (pe_ix ix_list (pv 3) pe_int (fun _ _ => rfl)) (pv 4)))
      (pss_cons (ps_set (i := 6) nd rfl (Or.inl rfl) (pe_lst pa_nil))
      (pss_cons (ps_for PassesOwn.never rfl (pi_range1 rfl T.b_range (pa_cons (pv 1) pa_nil)) (pg_name (i := 7) nd rfl (Or.inr rfl)) (pss_cons (ps_setLc (i := 8) rfl nd rfl rfl (sw_true rfl rfl rfl (by decide +kernel)) (own := [("_law_j", 9)]) (pi_range1 rfl T.b_range (pa_cons (pv 4) pa_nil)) (blkOk_by (own := [("_law_j", 9)]) (N := ["_law_cell_here", "_law_many", "_law_letters", "_law_draws_here", "_law_size", "_law_at", "_law_names_here", "_law_k", "_law_signs", "_law_j", "_law_sign"]) (sc := defScope s_law_names) (by decide +kernel)) (fun _ _ _ _ _ => pg_name (i := 9) nd rfl (Or.inl rfl)) (fun _ _ _ _ _ => pts_nil) (fun _ _ _ _ _ => (pe_op op_mod (pe_op op_add (pe_ix (ix_listK (K := K) rfl) (pv 3) (pe_op op_add pe_int (pv 9)) (fun _ _ => rfl)) (pe_op op_mul (pv 7) (pe_callTy call_int1 (by rfl) T.b_int (by decide +kernel) (pa_cons (pe_cmpR op_eq (pv 9) (pv 5) (nomark _)) pa_nil)))) pe_int)))
      (pss_one (ps_expr (pe_bm PySem.F.plainAttrs_list PySem.F.slot_list_append PySem.F.type_list_append mt_append (pv 6) (pa_cons (pe_join pe_str (pe_lc (own := [("_law_sign", 10)]) rfl nd (pi_list (pv 8)) (blkOk_by (own := [("_law_sign", 10)]) (N := ["_law_cell_here", "_law_many", "_law_letters", "_law_draws_here", "_law_size", "_law_at", "_law_names_here", "_law_k", "_law_signs", "_law_j", "_law_sign"]) (sc := defScope s_law_names) (by decide +kernel)) (fun _ _ _ _ _ => pg_name (i := 10) nd rfl (Or.inl rfl)) (fun _ _ _ _ _ => pts_nil) (fun _ _ _ _ _ => (pe_ix ix_str (pv 2) (pv 10) (fun _ _ => rfl))))) pa_nil))))))
      (pss_one (ps_ret (pv 6))))))))), ?_⟩
    simp only [cxOf, Cx.nox, L2.start, List.map_cons, List.map_nil, List.length_cons, List.length_nil, Nat.reduceAdd, Nat.reduceSub, List.replicate, List.cons_append, List.nil_append]
    walk_at "z"
    refine ⟨F0, c, 10, rfl, sm, by decide, fun F1 H1 v1 xs hx pos g1 d1 => ?_⟩
    have W1 := (Z.Ws.init sm).ext g1
    have g0 : xs[0]? = some (xs[0]'(by omega)) := List.getElem?_eq_getElem _
    have g1' : xs[1]? = some (xs[1]'(by omega)) := List.getElem?_eq_getElem _
    have p0 := (pos _ (List.mem_of_getElem? g0)).1
    have p1 := (pos _ (List.mem_of_getElem? g1')).1
    walk_at "z"
    refine Z.ixD d1 W1.fh 0 (d := .int (xs[0]'(by omega))) (by rw [List.getElem?_map, g0]; rfl) fun w hw => ?_
    cases Z.dp_int hw
    walk_at "z"
    refine Z.ixD d1 W1.fh 1 (d := .int (xs[1]'(by omega))) (by rw [List.getElem?_map, g1']; rfl) fun w hw2 => ?_
    cases Z.dp_int hw2
    walk_at "z"
    refine ⟨by simp only [List.length_cons, List.length_nil]; decide, fun q hq => ?_⟩
    obtain ⟨sz, hsz, hs1, hs8⟩ : ∃ sz : Nat, (1 : Int) + xs[0]'(by omega) % 8 = (sz : Int) ∧ 1 ≤ sz ∧ sz ≤ 8 := ⟨((1 : Int) + xs[0]'(by omega) % 8).toNat, by omega, by omega, by omega⟩
    rw [hsz]
    obtain ⟨t, ht, hts⟩ : ∃ t : Nat, xs[1]'(by omega) % (sz : Int) = (t : Int) ∧ t < sz := ⟨(xs[1]'(by omega) % (sz : Int)).toNat, by have := Int.emod_nonneg (xs[1]'(by omega)) (show (sz : Int) ≠ 0 by omega); omega, by have := Int.emod_lt_of_pos (xs[1]'(by omega)) (show (0 : Int) < sz by omega); have := Int.emod_nonneg (xs[1]'(by omega)) (show (sz : Int) ≠ 0 by omega); omega⟩
    have W2 := W1.new (o := .lst []) hq
    walk_at "z"
    refine ⟨(n : Int), rfl, by omega, by omega, ?_⟩
    rw [Int.toNat_natCast, ht]
    refine (for_range (lo := 0) (n := n) (fun i σ H' => ∃ (v7 v8 v9 v10 : Option V), σ = [some (.int c), some (.int n), some (.str LET), some v1, some (.int sz), some (.int t), some (.ref q), v7, v8, v9, v10] ∧ Z.Ws [(q, .lst (((List.range i).map (nmOf xs sz t)).map .str))] F0 H F1 H')
      ⟨none, none, none, none, rfl, W2⟩ ?_ ?_)
    · rintro i σ H2 hi ⟨v7, v8, v9, v10, rfl, W⟩
      walk_at "z"
      refine ⟨.int (sz : Int), rfl, (sz : Int), rfl, by omega, by omega, ?_⟩
      rw [Int.toNat_natCast]
      intro g hg
      refine lc_range (lo := 0) (n := sz) (fun j H' => Z.Ws [(g, .lst (((List.range j).map (nmSign xs t i)).map .int)), (q, .lst (((List.range i).map (nmOf xs sz t)).map .str))] F0 H F1 H') (W.new hg) ?_ ?_
      · rintro j H3 hj W3
        refine ⟨rfl, ?_⟩
        walk_at "z"
        have g2 : xs[2 + j]? = some (xs[2 + j]'(by omega)) := List.getElem?_eq_getElem _
        rw [show (2 : Int) + (0 + (j : Int)) = ((2 + j : Nat) : Int) by omega]
        refine Z.ixD d1 W3.fh (2 + j) (d := .int (xs[2 + j]'(by omega))) (by rw [List.getElem?_map, g2]; rfl) fun w hw3 => ?_
        cases Z.dp_int hw3
        walk_at "z"
        refine .inr ⟨_, rfl, ?_⟩
        refine Z.ic ?hc ?_
        case hc => exact .inl ⟨by omega, by omega⟩
        walk_at "z"
        refine ⟨_, W3.at 0 rfl, by simp; exact Nat.lt_of_le_of_lt (show j ≤ 1000 by omega) (by decide), ?_⟩
        have ev : nmSign xs t i j = (xs[2 + j]'(by omega) + (0 + (i : Int)) * (if decide (V.int (0 + (j : Int)) = V.int (t : Int)) = true then 1 else 0)) % 26 := by
          unfold nmSign
          rw [List.getD_eq_getElem?_getD, g2, Option.getD_some, Int.zero_add]
          by_cases e : j = t
          · rw [if_pos e, if_pos (decide_eq_true (by rw [e, Int.zero_add]))]
          · rw [if_neg e, if_neg (fun h => e (by have := V.int.inj (of_decide_eq_true h); omega))]
        rw [List.range_succ, List.map_append, List.map_append, show List.map V.int (List.map (nmSign xs t i) [j]) = [V.int _] from congrArg (fun x => [V.int x]) ev]
        exact W3.set 0 rfl _
      · rintro H3 W3
        walk_at "z"
        refine ⟨.inl ⟨rfl, _, SqL.of (W3.at 1 rfl)⟩, ?_⟩
        walk_at "z"
        refine ⟨⟨_, rfl⟩, .ref g, rfl, g, rfl, ⟨_, SqL.of (W3.at 0 rfl)⟩, fun D hD => ?_⟩
        refine lc_list (fun j H' => Z.Ws [(D, .lst ((((List.range j).map fun j => 97 + (nmSign xs t i j).toNat).map fun c => (⟨#[c]⟩ : Str)).map .str)), (g, .lst (((List.range sz).map (nmSign xs t i)).map .int)), (q, .lst (((List.range i).map (nmOf xs sz t)).map .str))] F0 H F1 H') (W3.new hD) (fun i H' hi W4 => SqL.of (W4.at 1 rfl)) ?_ ?_
        · rintro j x H4 hx W4
          have hjl : j < sz := by simpa using (List.getElem?_eq_some_iff.mp hx).1
          have hx' : x = .int (nmSign xs t i j) := by
            rw [List.getElem?_map, List.getElem?_map, List.getElem?_range hjl] at hx
            exact (Option.some.inj hx).symm
          subst hx'
          obtain ⟨y0, y1⟩ := nmSign_lt xs t i j
          refine ⟨rfl, ?_⟩
          walk_at "z"
          have eL : LET.length = 26 := by decide +kernel
          refine Z.ixS (by rw [eL]; decide) y0 (by rw [eL]; exact y1) fun c hc => ?_
          rw [let_in _ (by omega)] at hc
          cases hc
          walk_at "z"
          refine ⟨_, W4.at 0 rfl, by simp; exact Nat.lt_of_le_of_lt (show j ≤ 1000 by omega) (by decide), ?_⟩
          rw [List.range_succ, List.map_append, List.map_append, List.map_append]
          exact W4.set 0 rfl _
        · rintro H4 W4
          rw [List.length_map, List.length_map, List.length_range] at W4
          walk_at "z"
          refine ⟨_, D, _, rfl, rfl, .inl (SqL.of (W4.at 0 rfl)), by rw [sum_one]; show _ + _ * 0 ≤ _; simp; omega, ?_⟩
          rw [join_one]
          walk_at "z"
          refine ⟨q, _, _, rfl, rfl, W4.at 2 rfl, by simp; exact Nat.lt_of_le_of_lt (show i ≤ 1000 by omega) (by decide), ?_⟩
          walk_at "z"
          have : Z.Ws [(q, .lst (((List.range i).map (nmOf xs sz t)).map .str ++ [.str (nmOf xs sz t i)]))] F0 H F1 _ := (W4.set 2 rfl (.lst (((List.range i).map (nmOf xs sz t)).map .str ++ [.str (nmOf xs sz t i)]))).pick [2] (by decide) rfl
          exact ⟨_, _, _, _, rfl, by rw [List.range_succ, List.map_append, List.map_append]; exact this⟩
    · rintro σ H2 ⟨v7, v8, v9, v10, rfl, W⟩
      walk_at "z"
      obtain ⟨F', W', s', g'⟩ := W.frz 0 rfl
      exact k F' H2 _ _ (by simp) (fun z hz => by obtain ⟨j, hj, rfl⟩ := List.mem_map.mp hz; exact nm_name hs1 hs8) (nm_nodup hts hn) W'.g (.lst (SqL.of g') (Z.dpa_of_strs _))

/-! ### schemas as data -/
abbrev Col := Str × Str
abbrev Tab := Str × List Col
def pairD (c : Str × Str) : PyData := .tuple [.str c.1, .str c.2]
structure ColsOk (cs : List Col) : Prop where
  lo : 1 ≤ cs.length
  hi : cs.length ≤ 4
  nm : ∀ c ∈ cs, Name c.1 ∧ Kind c.2
  nd : (cs.map (·.1)).Nodup
structure TabsOk (ts : List Tab) : Prop where
  lo : 1 ≤ ts.length
  hi : ts.length ≤ 4
  nm : ∀ t ∈ ts, Name t.1 ∧ ColsOk t.2
  nd : (ts.map (·.1)).Nodup
structure OrdsOk (ts : List Tab) (os : List (Str × Str)) : Prop where
  hi : os.length ≤ 4
  nm : ∀ o ∈ os, ∃ t ∈ ts, t.1 = o.1 ∧ ∃ c ∈ t.2.drop 1, c.1 = o.2
  nd : os.Nodup
def SeqOf (K : PySem.W.Frag) (H : Hp) (v : V) (xs : List V) : Prop := ∃ a, v = .ref a ∧ (SqL K H a xs ∨ SqT K H a xs)
/-- columns handed in: a list, or a tuple that is data -/
def HandC (K : PySem.W.Frag) (F H : Hp) (v : V) (cs : List (Str × Str)) : Prop := (∃ a xs, v = .ref a ∧ SqL K H a xs ∧ DpAll K F xs (cs.map pairD)) ∨ Dp K F v (.tuple (cs.map pairD))
theorem HandC.seq {K : PySem.W.Frag} {F H : Hp} {v : V} {cs : List (Str × Str)} (h : HandC K F H v cs) (s : Same F H) : ∃ a xs, v = .ref a ∧ (SqL K H a xs ∨ SqT K H a xs) ∧ DpAll K F xs (cs.map pairD) := by
  rcases h with ⟨a, xs, rfl, h1, h2⟩ | h
  · exact ⟨a, xs, rfl, .inl h1, h2⟩
  · obtain ⟨a, xs, rfl, h1, h2⟩ := Z.dp_tup h
    exact ⟨a, xs, rfl, .inr (Z.seqT s h1), h2⟩
theorem HandC.same {K : PySem.W.Frag} {F F' H H' : Hp} {v : V} {cs : List (Str × Str)} (h : HandC K F H v cs) (s : Same F F') (e : Same H H') : HandC K F' H' v cs := by
  rcases h with ⟨a, xs, rfl, h1, h2⟩ | h
  · exact .inl ⟨a, xs, rfl, e.seq h1, Z.dpa_same s h2⟩
  · exact .inr (Z.dp_same s h)
def HandT (K : PySem.W.Frag) (F H : Hp) (v : V) (ts : List Tab) : Prop := ∃ (a : Addr) (xs : List V), v = .ref a ∧ (SqL K H a xs ∨ SqT K H a xs) ∧ xs.length = ts.length ∧
  ∀ (i : Nat) (x : V) (t : Tab), xs[i]? = some x → ts[i]? = some t → ∃ (b : Addr) (w : V), x = .ref b ∧ SqT K H b [.str t.1, w] ∧ HandC K F H w t.2
theorem seqOf_len {K : PySem.W.Frag} {H : Hp} {Q : VK} {a : Addr} {xs : List V} (h : SqL K H a xs ∨ SqT K H a xs) {R : List V → Prop} (k : R xs) : ∃ q ys, [V.ref a] = [.ref q] ∧ (SqL K H q ys ∨ SqT K H q ys) ∧ R ys := ⟨a, xs, rfl, h, k⟩
section
variable {K : PySem.W.Frag} {F F' H H' H1 : Hp} {a p : Addr} {xs : List V} {Q : VK} {z : Str} {kvs : List (Key × V)}
theorem ty_sqL (h : SqL K H a xs) : TyX K H (.ref a) (.type "list") := by
  rcases h with (h | ⟨o, h⟩) | ⟨o, its, n, h, hc, _⟩
  · exact .base (.lst h)
  · exact .base (.frz h)
  · exact .kList h hc
theorem ty_sqT (h : SqT K H a xs) : TyX K H (.ref a) (.type "tuple") := by
  rcases h with (h | ⟨o, h⟩) | ⟨o, its, n, h, hc, _⟩
  · exact .base (.tup h)
  · exact .fTuple h
  · exact .kTuple h hc
theorem isiSq (h : SqL K H a xs ∨ SqT K H a xs) (hp : H p = some (.tup [.ty "list", .ty "tuple"])) (k : Q (.bl true) H) : rIsiT K [.ref a, .ref p] H Q := by
  rcases h with h | h
  · exact ⟨_, p, _, _, _, _, rfl, hp, .cons (.ty "list") (.cons (.ty "tuple") .nil), ty_sqL h, Z.kitSeq (d := .list []), k⟩
  · exact ⟨_, p, _, _, _, _, rfl, hp, .cons (.ty "list") (.cons (.ty "tuple") .nil), ty_sqT h, Z.kitSeq (d := .tuple []), k⟩
theorem isiT (h : SqT K H a xs) (k : Q (.bl true) H) : rIsi K [.ref a, .ty "tuple"] H Q := ⟨_, .ty "tuple", _, .type "tuple", _, rfl, .ty "tuple", ty_sqT h, Z.kitD (d := .tuple []) (by simp), k⟩
theorem isiL (h : SqL K H a xs) (k : Q (.bl true) H) : rIsi K [.ref a, .ty "list"] H Q := ⟨_, .ty "list", _, .type "list", _, rfl, .ty "list", ty_sqL h, Z.kitD (d := .list []) (by simp), k⟩
theorem inV_str (zs : List Str) : inV (.str z) (zs.map V.str) = decide (z ∈ zs) := by
  rw [Bool.eq_iff_iff]
  simp only [inV, List.any_map, List.any_eq_true, Function.comp, eqV, beq_iff_eq, decide_eq_true_eq]
  exact ⟨fun ⟨x, h, e⟩ => e ▸ h, fun h => ⟨z, h, rfl⟩⟩
theorem flat_str (zs : List Str) : (zs.map V.str).all flatV = true := by simp [flatV]
theorem dinS {R : Option V → Prop} (ho : H a = some (.dK kvs)) (k : R (valV kvs (.inr z))) : ∃ a' o, (V.ref a) = .ref a' ∧ DGet H a' (.str z) o ∧ R o := ⟨a, _, rfl, DGet.k (k := Sum.inr z) ho, k⟩
theorem dgetS {v : V} {R : V → Prop} (ho : H a = some (.dK kvs)) (e : valV kvs (Sum.inr z) = some v) (q : R v) : ∃ a' v, (V.ref a) = .ref a' ∧ DGet H a' (.str z) (some v) ∧ R v := ⟨a, v, rfl, e ▸ DGet.k (k := Sum.inr z) ho, q⟩
theorem dputS {v : V} {R : Hp → Prop} (ho : H a = some (.dK kvs)) (l : kvs.length < 1000) (q : R (upd H a (.dK (putK kvs (Sum.inr z) v)))) :
    ∃ a' H4, (V.ref a) = .ref a' ∧ DPut H a' (.str z) v H4 ∧ R H4 := ⟨a, _, rfl, DPut.k (k := Sum.inr z) ho (Nat.lt_of_lt_of_le l (by decide)), q⟩
end
/-- the dict of columns -/
inductive KvOk (K : PySem.W.Frag) (F : Hp) : List (Key × V) → List Tab → Prop
  | nil : KvOk K F [] []
  | cons {v : V} {t : Tab} {kvs : List (Key × V)} {ts : List Tab} : Dp K F v (.tuple (t.2.map pairD)) → KvOk K F kvs ts → KvOk K F ((.inr t.1, v) :: kvs) (t :: ts)
section
variable {K : PySem.W.Frag} {F F' H : Hp}
theorem KvOk.same (s : Same F F') : ∀ {kvs : List (Key × V)} {ts : List Tab}, KvOk K F kvs ts → KvOk K F' kvs ts
  | _, _, .nil => .nil
  | _, _, .cons h r => .cons (Z.dp_same s h) (r.same s)
theorem KvOk.len : ∀ {kvs : List (Key × V)} {ts : List Tab}, KvOk K F kvs ts → kvs.length = ts.length
  | _, _, .nil => rfl
  | _, _, .cons _ r => by rw [List.length_cons, List.length_cons, r.len]
theorem KvOk.snoc {v : V} {t : Tab} (h : Dp K F v (.tuple (t.2.map pairD))) : ∀ {kvs : List (Key × V)} {ts : List Tab}, KvOk K F kvs ts → KvOk K F (kvs ++ [(.inr t.1, v)]) (ts ++ [t])
  | _, _, .nil => .cons h .nil
  | _, _, .cons h' r => .cons h' (r.snoc h)
theorem KvOk.none {z : Str} : ∀ {kvs : List (Key × V)} {ts : List Tab}, KvOk K F kvs ts → z ∉ ts.map (·.1) → valV kvs (.inr z) = Option.none
  | _, _, .nil, _ => rfl
  | _, _, .cons (t := t) h r, hn => by
    rw [List.map_cons, List.mem_cons, not_or] at hn
    rw [valV_neg (show ¬ (Sum.inr t.1 : Key) = .inr z from fun e => hn.1 (Sum.inr.inj e).symm)]
    exact r.none hn.2
theorem KvOk.some : ∀ {kvs : List (Key × V)} {ts : List Tab} {t : Tab}, KvOk K F kvs ts → (ts.map (·.1)).Nodup → t ∈ ts → ∃ v, valV kvs (.inr t.1) = Option.some v ∧ Dp K F v (.tuple (t.2.map pairD))
  | _, _, t, .cons (t := t') (v := v) h r, nd, m => by
    rw [List.map_cons, List.nodup_cons] at nd
    rcases List.mem_cons.mp m with m | m
    · subst m
      exact ⟨v, valV_pos rfl, h⟩
    · rw [valV_neg (show ¬ (Sum.inr t'.1 : Key) = .inr t.1 from fun e => nd.1 (by rw [Sum.inr.inj e]; exact List.mem_map.mpr ⟨t, m, rfl⟩))]
      exact r.some nd.2 m
theorem KvOk.keys : ∀ {kvs : List (Key × V)} {ts : List Tab}, KvOk K F kvs ts → (kvs.map fun kv => kV kv.1) = ts.map fun t => V.str t.1
  | _, _, .nil => rfl
  | _, _, .cons h r => by rw [List.map_cons, List.map_cons, r.keys]; rfl
theorem put_end {kvs : List (Key × V)} {k : Key} {v : V} (h : valV kvs k = Option.none) : putK kvs k v = kvs ++ [(k, v)] := by
  unfold putK
  rw [valV_any, h]
  rfl
end
theorem ixTv {K : PySem.W.Frag} {H : Hp} {Q : VK} {a : Addr} {xs : List V} {v : V} {i : Nat} (h : SqT K H a xs) (e : xs[i]? = some v) (k : Q v H) : rIxT K (.ref a) (.int (i : Int)) H Q := ⟨a, xs, i, v, rfl, rfl, h, atI_nat e, k⟩
theorem take_nd {α : Type} {f : α → Str} {cs : List α} {c : α} {i : Nat} (nd : (cs.map f).Nodup) (h : cs[i]? = some c) : f c ∉ (cs.take i).map f := by
  rw [← List.take_append_drop i cs, List.map_append, List.nodup_append] at nd
  have m2 : f c ∈ (cs.drop i).map f := List.mem_map.mpr ⟨c, List.mem_of_getElem? (i := 0) (by rw [List.getElem?_drop]; exact h), rfl⟩
  exact fun m => nd.2.2 _ m _ m2 rfl
theorem eqv_pair (a b : Str × Str) : PyData.eqv (pairD a) (pairD b) = decide (a = b) := by
  rw [Bool.eq_iff_iff]
  simp only [pairD, PyData.eqv, PyData.eqvAll, Bool.and_true, Bool.and_eq_true, beq_iff_eq, decide_eq_true_eq]
  exact ⟨fun h => Prod.ext h.1 h.2, fun h => h ▸ ⟨rfl, rfl⟩⟩
theorem any_pair (os : List (Str × Str)) (o : Str × Str) : ((os.map pairD).any fun z => PyData.eqv z (pairD o)) = decide (o ∈ os) := by
  rw [Bool.eq_iff_iff]
  simp only [List.any_map, List.any_eq_true, Function.comp, eqv_pair, decide_eq_true_eq]
  exact ⟨fun ⟨x, h, e⟩ => e ▸ h, fun h => ⟨o, h, rfl⟩⟩
def PairOk (o : Str × Str) : Prop := PyData.strOk o.1 = true ∧ PyData.strOk o.2 = true
theorem lay_pair {o : Str × Str} (h : PairOk o) : PyData.canLay0 (pairD o) = true := by simp only [pairD, PyData.canLay0, PyData.canLayAll0, h.1, h.2, Bool.and_true]
theorem shaped_pair {o : Str × Str} (h : PairOk o) : SeqAt.shaped (pairD o) = true := by
  unfold SeqAt.shaped
  rw [lay_pair h]
  simp [pairD, PyData.depth, PyData.depthAll]
theorem lay_pairs {os : List (Str × Str)} (h : ∀ o ∈ os, PairOk o) : PyData.canLayAll0 (os.map pairD) = true := by
  induction os with
  | nil => simp [PyData.canLayAll0]
  | cons o r ih => rw [List.map_cons, PyData.canLayAll0, lay_pair (h o List.mem_cons_self), ih fun x hx => h x (List.mem_cons_of_mem _ hx)]; rfl
theorem depth_pairs (os : List (Str × Str)) : PyData.depthAll (os.map pairD) ≤ 1 := by
  induction os with
  | nil => simp [PyData.depthAll]
  | cons o r ih =>
    rw [List.map_cons, PyData.depthAll]
    have : PyData.depth (pairD o) = 1 := by simp [pairD, PyData.depth, PyData.depthAll]
    omega
theorem shaped_pairsL {os : List (Str × Str)} (h : ∀ o ∈ os, PairOk o) : SeqAt.shaped (.list (os.map pairD)) = true := by
  unfold SeqAt.shaped
  rw [PyData.canLay0, lay_pairs h, PyData.depth]
  have := depth_pairs os
  simp; omega
theorem shaped_pairsT {os : List (Str × Str)} (h : ∀ o ∈ os, PairOk o) : SeqAt.shaped (.tuple (os.map pairD)) = true := by
  unfold SeqAt.shaped
  rw [PyData.canLay0, lay_pairs h, PyData.depth]
  have := depth_pairs os
  simp; omega
theorem OrdsOk.pair {ts : List Tab} {os : List (Str × Str)} (ok : OrdsOk ts os) (tk : TabsOk ts) : ∀ o ∈ os, Name o.1 ∧ Name o.2 := fun o ho => by
  obtain ⟨t, ht, e1, c, hc, e2⟩ := ok.nm o ho
  obtain ⟨n1, ck⟩ := tk.nm t ht
  exact ⟨e1 ▸ n1, e2 ▸ (ck.nm c (List.mem_of_mem_drop hc)).1⟩
theorem pairOk_of {o : Str × Str} (h : Name o.1 ∧ Name o.2) : PairOk o := ⟨h.1.ok, h.2.ok⟩
theorem cutD_tail (ds : List PyData) (n : Nat) : Z.cutD ds (some (n : Int)) none = ds.drop n := by
  unfold Z.cutD
  rw [HT.sIx_none, HT.sIx_nat]
  by_cases h : n ≤ ds.length
  · rw [Nat.min_eq_left h]
    exact List.take_of_length_le (by rw [List.length_drop]; omega)
  · rw [Nat.min_eq_right (by omega), List.drop_of_length_le (by omega), List.drop_of_length_le (by omega)]
    simp

section
def sp_is_row_of (K : PySem.W.Frag) (A : Adr) : Sp := fun vs H Q _ => ∃ (a : Addr) (xs : List V) (lo hi : Int), vs = [.ref a, .int lo, .int hi] ∧ (SqL K H a xs ∨ SqT K H a xs) ∧ lo ≤ xs.length ∧ (xs.length : Int) ≤ hi ∧ ∀ H', Same H H' → Q (.bl true) H'
theorem ok_is_row_of (T : Txt K mg A) : ∃ fd, FnOk P w K mg base CX0 1 A.f_is_row_of fd ["thing", "least", "most"] (sp_is_row_of K A) ∧ Binds K fd ["thing", "least", "most"] [] := by
  have ⟨fd, F, b⟩ := T.d_is_row_of
  refine ⟨fd, F.ok sc_is_row_of (fun vs H Q E h => ?_) (fun cdv Ar outer s H vs Q E hr h => ?_), b⟩
  · obtain ⟨a, xs, lo, hi, rfl, _⟩ := h
    rfl
  · obtain ⟨a, xs, lo, hi, rfl, hq, h1, h2, k⟩ := h
    have nd := sc_is_row_of.nd
    have hu := hu_of hr
    refine ⟨_, (pss_one (ps_ret (pe_and (pe_callB call_isiT (by rfl) T.b_isinstance (by decide +kernel) (pa_cons (pv 0) (pa_cons (pe_tup (pa_cons (pe_bltn (v := .ty "list") (u := .type "list") (by rfl) T.b_list (by decide +kernel) rfl) (pa_cons (pe_bltn (v := .ty "tuple") (u := .type "tuple") (by rfl) T.b_tuple (by decide +kernel) rfl) pa_nil))) pa_nil))) (pe_one (pe_chain op_le op_le (pv 1) (pe_callB call_len_seq (by rfl) T.b_len PySem.boot_len (pa_cons (pv 0) pa_nil)) (pv 2)))))), ?_⟩
    simp only [cxOf, Cx.nox, L2.start, List.map_cons, List.map_nil, List.length_cons, List.length_nil, Nat.reduceAdd, Nat.reduceSub, List.replicate, List.cons_append, List.nil_append]
    walk_at "z"
    refine ⟨by simp only [List.length_cons, List.length_nil]; decide, fun p hp => ?_⟩
    have s := Z.same_new (o := .tup [.ty "list", .ty "tuple"]) hp
    have hq' := hq.imp (s.seq ·) (Z.seqT s ·)
    walk_at "z"
    refine isiSq hq' upd_same ?_
    walk_at "z"
    refine seqOf_len (Q := Q) hq' ?_
    walk_at "z"
    rw [decide_eq_true h1]
    walk_at "z"
    rw [decide_eq_true h2]
    exact k _ s
def sp_need_pair (K : PySem.W.Frag) (A : Adr) : Sp := fun vs H Q _ => ∃ (a : Addr) (x y : V), vs = [.ref a] ∧ SqT K H a [x, y] ∧ Q .non H
theorem ok_need_pair (T : Txt K mg A) : ∃ fd, FnOk P w K mg base CX0 1 A.f_need_pair fd ["thing"] (sp_need_pair K A) ∧ Binds K fd ["thing"] [] := by
  have ⟨fd, F, b⟩ := T.d_need_pair
  refine ⟨fd, F.ok sc_need_pair (fun vs H Q E h => ?_) (fun cdv Ar outer s H vs Q E hr h => ?_), b⟩
  · obtain ⟨a, x, y, rfl, _⟩ := h
    rfl
  · obtain ⟨a, x, y, rfl, hq, k⟩ := h
    have nd := sc_need_pair.nd
    have hu := hu_of hr
    refine ⟨_, (pss_one (ps_if (PW.pt (pw_or (pt_not (pt_val (pe_callB call_isi (by rfl) T.b_isinstance (by decide +kernel) (pa_cons (pv 0) (pa_cons (pe_bltn (v := .ty "tuple") (u := .type "tuple") (by rfl) T.b_tuple (by decide +kernel) rfl) pa_nil))))) (pw_or1 (pt_cmpR op_ne (pe_callB call_len_seq (by rfl) T.b_len PySem.boot_len (pa_cons (pv 0) pa_nil)) pe_int (nomark _))))) (pss_one ps_never) pss_nil)), ?_⟩
    simp only [cxOf, Cx.nox, L2.start, List.map_cons, List.map_nil, List.length_cons, List.length_nil, Nat.reduceAdd, Nat.reduceSub, List.replicate, List.cons_append, List.nil_append]
    walk_at "z"
    refine isiT hq ?_
    walk_at "z"
    refine seqOf_len (Q := Q) (.inr hq) ?_
    walk_at "z"
    exact k
def sp_columns_in (K : PySem.W.Frag) (A : Adr) : Sp := fun vs H Q _ => ∃ (F : Hp) (v : V) (cs : List Col), vs = [v] ∧ Same F H ∧ HandC K F H v cs ∧ ColsOk cs ∧ ∀ F' H' r, Z.Gr F H F' H' → Dp K F' r (.tuple (cs.map pairD)) → Q r H'
theorem ok_columns_in (T : Txt K mg A) : ∃ fd, FnOk P w K mg base CX0 2 A.f_columns_in fd ["thing"] (sp_columns_in K A) ∧ Binds K fd ["thing"] [] := by
  have ⟨fd, F, b⟩ := T.d_columns_in
  refine ⟨fd, F.ok sc_columns_in (fun vs H Q E h => ?_) (fun cdv Ar outer s H vs Q E hr h => ?_), b⟩
  · obtain ⟨F0, v, cs, rfl, _⟩ := h
    rfl
  · obtain ⟨F0, v, cs, rfl, sm, hc, ok, k⟩ := h
    have nd := sc_columns_in.nd
    have hu := hu_of hr
    have ⟨fd_is_row_of, G_is_row_of, b_is_row_of⟩ := ok_is_row_of (P := P) (w := w) (base := base) T
    have ⟨fd_need_pair, G_need_pair, b_need_pair⟩ := ok_need_pair (P := P) (w := w) (base := base) T
    have ⟨fd_is_kind, G_is_kind, b_is_kind⟩ := ok_is_kind (P := P) (w := w) (base := base) T
    have ⟨fd_is_name, G_is_name, b_is_name⟩ := ok_is_name (P := P) (w := w) (base := base) T
    refine ⟨_, (pss_cons (ps_if (pt_not (pt_val (pe_call G_is_row_of (hr.mono (by decide)) (by rfl) T.g_is_row_of T.d_is_row_of.kp b_is_row_of .nil pass0 (pa_cons (pv 0) (pa_cons pe_int (pa_cons (Z.pe_gint rfl T.v_MOST_COLUMNS) pa_nil)))))) (pss_one ps_never) pss_nil)
      (pss_cons (ps_set (i := 1) nd rfl (Or.inl rfl) (pe_lst pa_nil))
      (pss_cons (ps_for PassesOwn.never rfl (Z.pi_seq (pv 0)) (pg_name (i := 2) nd rfl (Or.inl rfl)) (pss_cons (ps_expr (pe_call G_need_pair (hr.mono (by decide)) (by rfl) T.g_need_pair T.d_need_pair.kp b_need_pair .nil pass0 (pa_cons (pv 2) pa_nil)))
      (pss_cons (ps_asg (pv 2) (pg_tup rfl (pgs_cons (pg_name (i := 3) nd rfl (Or.inl rfl)) (pgs_cons (pg_name (i := 4) nd rfl (Or.inl rfl)) pgs_nil))))
      (pss_cons (ps_if (PW.pt (pw_or (pt_not (pt_val (pe_call G_is_name (hr.mono (by decide)) (by rfl) T.g_is_name T.d_is_name.kp b_is_name .nil pass0 (pa_cons (pv 3) pa_nil)))) (pw_or (pt_cmpR op_in_seq (pv 3) (pv 1) (by rfl)) (pw_or1 (pt_not (pt_val (pe_call G_is_kind (hr.mono (by decide)) (by rfl) T.g_is_kind T.d_is_kind.kp b_is_kind .nil pass0 (pa_cons (pv 4) pa_nil)))))))) (pss_one ps_never) pss_nil)
      (pss_one (ps_expr (pe_bm PySem.F.plainAttrs_list PySem.F.slot_list_append PySem.F.type_list_append mt_append (pv 1) (pa_cons (pv 3) pa_nil))))))))
      (pss_one (ps_ret (pe_callTy call_tuple_of (by rfl) T.b_tuple (by decide +kernel) (pa_cons (pv 0) pa_nil))))))), ?_⟩
    simp only [cxOf, Cx.nox, L2.start, List.map_cons, List.map_nil, List.length_cons, List.length_nil, Nat.reduceAdd, Nat.reduceSub, List.replicate, List.cons_append, List.nil_append]
    obtain ⟨a, xs, rfl, hq, hd⟩ := hc.seq sm
    have hl := Z.dpa_len hd
    rw [List.length_map] at hl
    have lo := ok.lo
    have hi := ok.hi
    walk_at "z"
    refine ⟨a, xs, 1, 4, rfl, hq, by omega, by omega, fun H1 s1 => ?_⟩
    have W1 := (Z.Ws.init sm).exts s1
    walk_at "z"
    refine ⟨by simp only [List.length_cons, List.length_nil]; decide, fun q hq1 => ?_⟩
    have W2 := W1.new (o := .lst []) hq1
    walk_at "z"
    refine Z.forSqD (hq.imp (W2.same.seq ·) (Z.seqT W2.same ·)) (fun i σ H' => (∃ v2 v3 v4, σ = [some (.ref a), some (.ref q), v2, v3, v4]) ∧ Z.Ws [(q, .lst (((cs.take i).map (·.1)).map .str))] F0 H F0 H') ⟨⟨_, _, _, rfl⟩, W2⟩ hq (fun i σ H' P => P.2.same) ?_ ?_
    · rintro i x σ H' hx ⟨⟨v2, v3, v4, rfl⟩, W⟩
      obtain ⟨d, hd1, hd2⟩ := Z.dpa_ix hd hx
      rw [List.getElem?_map] at hd1
      obtain ⟨c, hc1, rfl⟩ := Option.map_eq_some_iff.mp hd1
      have hcm := List.mem_of_getElem? hc1
      obtain ⟨hn, hk⟩ := ok.nm c hcm
      obtain ⟨b, ys, rfl, hb, hys⟩ := Z.dp_tup hd2
      obtain ⟨x1, x2, rfl, hx1, hx2⟩ := Z.dpa2 hys
      cases Z.dp_str hx1
      cases Z.dp_str hx2
      walk_at "z"
      refine ⟨b, _, _, rfl, Z.seqT W.fh hb, ?_⟩
      walk_at "z"
      refine ⟨b, _, rfl, Z.seqT W.fh hb, rfl, ?_⟩
      walk_at "z"
      refine ⟨_, _, rfl, .str c.1, by have := hn.2.1; show c.1.length ≤ 10000; omega, ?_⟩
      rw [show named (.str c.1) = true from decide_eq_true hn]
      walk_at "z"
      have ndi : c.1 ∉ (cs.take i).map (·.1) := by
        have nd := ok.nd
        rw [← List.take_append_drop i cs, List.map_append, List.nodup_append] at nd
        have m2 : c.1 ∈ (cs.drop i).map (·.1) := List.mem_map.mpr ⟨c, List.mem_of_getElem? (i := 0) (by rw [List.getElem?_drop]; exact hc1), rfl⟩
        exact fun m => nd.2.2 c.1 m c.1 m2 rfl
      refine ⟨q, _, rfl, .inl (SqL.of (W.at 0 rfl)), rfl, flat_str _, ?_⟩
      rw [inV_str, decide_eq_false ndi]
      walk_at "z"
      refine ⟨_, _, rfl, .str c.2, fun H2 s2 => ?_⟩
      rw [show kinded (.str c.2) = true from decide_eq_true hk]
      have W3 := W.exts s2
      walk_at "z"
      refine ⟨.inl ⟨rfl, _, SqL.of (W3.at 0 rfl)⟩, ?_⟩
      walk_at "z"
      refine Z.appW W3 0 rfl (fun H3 W4 => ?_) (by simp; omega)
      walk_at "z"
      refine ⟨⟨_, _, _, rfl⟩, ?_⟩
      rw [List.take_add_one, hc1, List.map_append, List.map_append]
      exact W4
    · rintro σ H' ⟨⟨v2, v3, v4, rfl⟩, W⟩
      walk_at "z"
      rcases hc with ⟨a', xs', e, h1, h2⟩ | h
      · cases e
        refine ⟨a, xs', rfl, .inl ⟨W.same.seq h1, fun p hp => ?_⟩⟩
        have W5 := W.dat (o := .tup xs') hp
        exact k _ _ _ W5.g (.tup (SqT.of upd_same) (Z.dpa_same (Z.same_new (W.freeF hp)) h2))
      · obtain ⟨a', xs', e, h1, h2⟩ := Z.dp_tup h
        cases e
        refine ⟨a, xs', rfl, .inr ⟨Z.seqT W.fh h1, ?_⟩⟩
        exact k _ _ _ W.g (.tup h1 h2)
end

def sp_tables_in (K : PySem.W.Frag) (A : Adr) : Sp := fun vs H Q _ => ∃ (F : Hp) (v : V) (ts : List Tab), vs = [v] ∧ Same F H ∧ HandT K F H v ts ∧ TabsOk ts ∧ ∀ F' H' d kvs, Z.Ws [(d, .dK kvs)] F H F' H' → KvOk K F' kvs ts → Q (.ref d) H'
theorem ok_tables_in (T : Txt K mg A) : ∃ fd, FnOk P w K mg base CX0 3 A.f_tables_in fd ["thing"] (sp_tables_in K A) ∧ Binds K fd ["thing"] [] := by
  have ⟨fd, F, b⟩ := T.d_tables_in
  refine ⟨fd, F.ok sc_tables_in (fun vs H Q E h => ?_) (fun cdv Ar outer s H vs Q E hr h => ?_), b⟩
  · obtain ⟨F0, v, ts, rfl, _⟩ := h
    rfl
  · obtain ⟨F0, v, ts, rfl, sm, hc, ok, k⟩ := h
    have nd := sc_tables_in.nd
    have hu := hu_of hr
    have ⟨fd_is_row_of, G_is_row_of, b_is_row_of⟩ := ok_is_row_of (P := P) (w := w) (base := base) T
    have ⟨fd_need_pair, G_need_pair, b_need_pair⟩ := ok_need_pair (P := P) (w := w) (base := base) T
    have ⟨fd_is_name, G_is_name, b_is_name⟩ := ok_is_name (P := P) (w := w) (base := base) T
    have ⟨fd_columns_in, G_columns_in, b_columns_in⟩ := ok_columns_in (P := P) (w := w) (base := base) T
    refine ⟨_, (pss_cons (ps_if (pt_not (pt_val (pe_call G_is_row_of (hr.mono (by decide)) (by rfl) T.g_is_row_of T.d_is_row_of.kp b_is_row_of .nil pass0 (pa_cons (pv 0) (pa_cons pe_int (pa_cons (Z.pe_gint rfl T.v_MOST_TABLES) pa_nil)))))) (pss_one ps_never) pss_nil)
      (pss_cons (ps_set (i := 1) nd rfl (Or.inl rfl) pe_dnewK)
      (pss_cons (ps_for PassesOwn.never rfl (Z.pi_seq (pv 0)) (pg_name (i := 2) nd rfl (Or.inl rfl)) (pss_cons (ps_expr (pe_call G_need_pair (hr.mono (by decide)) (by rfl) T.g_need_pair T.d_need_pair.kp b_need_pair .nil pass0 (pa_cons (pv 2) pa_nil)))
      (pss_cons (ps_if (PW.pt (pw_or (pt_not (pt_val (pe_call G_is_name (hr.mono (by decide)) (by rfl) T.g_is_name T.d_is_name.kp b_is_name .nil pass0 (pa_cons (pe_ix ix_tup (pv 2) pe_int (fun _ _ => rfl)) pa_nil)))) (pw_or1 (pt_cmp (pc_din hu (pe_ix ix_tup (pv 2) pe_int (fun _ _ => rfl)) (pv 1)))))) (pss_one ps_never) pss_nil)
      (pss_one (ps_dput hu (pv 1) (pe_ix ix_tup (pv 2) pe_int (fun _ _ => rfl)) (pe_call G_columns_in (hr.mono (by decide)) (by rfl) T.g_columns_in T.d_columns_in.kp b_columns_in .nil pass0 (pa_cons (pe_ix ix_tup (pv 2) pe_int (fun _ _ => rfl)) pa_nil)) rfl)))))
      (pss_one (ps_ret (pv 1)))))), ?_⟩
    simp only [cxOf, Cx.nox, L2.start, List.map_cons, List.map_nil, List.length_cons, List.length_nil, Nat.reduceAdd, Nat.reduceSub, List.replicate, List.cons_append, List.nil_append]
    obtain ⟨a, xs, rfl, hq, hl, hd⟩ := hc
    have lo := ok.lo
    have hi := ok.hi
    walk_at "z"
    refine ⟨a, xs, 1, 4, rfl, hq, by omega, by omega, fun H1 s1 => ?_⟩
    have W1 := (Z.Ws.init sm).exts s1
    walk_at "z"
    intro q hq1
    have W2 := W1.new (o := .dK []) hq1
    walk_at "z"
    refine Z.forSqD (hq.imp (W2.same.seq ·) (Z.seqT W2.same ·)) (fun i σ H' => (∃ v2, σ = [some (.ref a), some (.ref q), v2]) ∧ ∃ F' kvs, Z.Ws [(q, .dK kvs)] F0 H F' H' ∧ Same F0 F' ∧ KvOk K F' kvs (ts.take i)) ⟨⟨_, rfl⟩, F0, [], W2, Same.refl _, .nil⟩ hq (fun i σ H' ⟨_, _, _, W, _, _⟩ => W.same) ?_ ?_
    · rintro i x σ H' hx ⟨⟨v2, rfl⟩, F1, kvs, W, sF, kv⟩
      have hil := (List.getElem?_eq_some_iff.mp hx).1
      have ht : ts[i]? = some (ts[i]'(by omega)) := List.getElem?_eq_getElem _
      obtain ⟨b, y, rfl, hb, hy⟩ := hd i x _ hx ht
      have htm := List.mem_of_getElem? ht
      have hnd := take_nd ok.nd ht
      obtain ⟨hn, hc⟩ := ok.nm _ htm
      generalize ts[i]'(by omega) = t at *
      have hb' := Z.seqT W.same hb
      have kn := kv.none hnd
      have kl := kv.len
      rw [List.length_take] at kl
      walk_at "z"
      refine ⟨b, _, _, rfl, hb', ?_⟩
      walk_at "z"
      refine ixTv (i := 0) hb' rfl ?_
      walk_at "z"
      refine ⟨_, _, rfl, .str t.1, by have := hn.2.1; show t.1.length ≤ 10000; omega, ?_⟩
      rw [show named (.str t.1) = true from decide_eq_true hn]
      walk_at "z"
      refine ixTv (i := 0) hb' rfl ?_
      walk_at "z"
      refine dinS (W.at 0 rfl) ?_
      rw [kn]
      walk_at "z"
      refine ixTv (i := 1) hb' rfl ?_
      walk_at "z"
      refine ⟨F1, y, t.2, rfl, W.fh, hy.same sF W.same, hc, fun F2 H2 r g2 hr => ?_⟩
      have W3 := W.ext g2
      have hb2 := Z.seqT g2.h hb'
      walk_at "z"
      refine ixTv (i := 0) hb2 rfl ?_
      refine dputS (W3.at 0 rfl) (by omega) ?_
      walk_at "z"
      refine ⟨⟨_, rfl⟩, F2, _, W3.set 0 rfl _, sF.trans g2.f, ?_⟩
      rw [put_end kn, List.take_add_one, ht]
      exact (kv.same g2.f).snoc hr
    · rintro σ H' ⟨⟨v2, rfl⟩, F1, kvs, W, sF, kv⟩
      rw [hl, List.take_length] at kv
      walk_at "z"
      exact k F1 H' q kvs W kv
def sp_orders_in (K : PySem.W.Frag) (A : Adr) : Sp := fun vs H Q _ => ∃ (F : Hp) (v : V) (d : Addr) (kvs : List (Key × V)) (ts : List Tab) (os : List (Str × Str)), vs = [v, .ref d] ∧ Same F H ∧ HandC K F H v os ∧ H d = some (.dK kvs) ∧ KvOk K F kvs ts ∧ TabsOk ts ∧ OrdsOk ts os ∧ ∀ F' H' r, Z.Gr F H F' H' → Dp K F' r (.tuple (os.map pairD)) → Q r H'
theorem ok_orders_in (T : Txt K mg A) : ∃ fd, FnOk P w K mg base CX0 2 A.f_orders_in fd ["thing", "tables"] (sp_orders_in K A) ∧ Binds K fd ["thing", "tables"] [] := by
  have ⟨fd, F, b⟩ := T.d_orders_in
  refine ⟨fd, F.ok sc_orders_in (fun vs H Q E h => ?_) (fun cdv Ar outer s H vs Q E hr h => ?_), b⟩
  · obtain ⟨F0, v, d, kvs, ts, os, rfl, _⟩ := h
    rfl
  · obtain ⟨F0, v, d, kvs, ts, os, rfl, sm, hc, hdk, kv, tk, ok, k⟩ := h
    have nd := sc_orders_in.nd
    have hu := hu_of hr
    have ⟨fd_is_row_of, G_is_row_of, b_is_row_of⟩ := ok_is_row_of (P := P) (w := w) (base := base) T
    have ⟨fd_need_pair, G_need_pair, b_need_pair⟩ := ok_need_pair (P := P) (w := w) (base := base) T
    have ⟨fd_is_name, G_is_name, b_is_name⟩ := ok_is_name (P := P) (w := w) (base := base) T
    refine ⟨_, (pss_cons (ps_if (pt_not (pt_val (pe_call G_is_row_of (hr.mono (by decide)) (by rfl) T.g_is_row_of T.d_is_row_of.kp b_is_row_of .nil pass0 (pa_cons (pv 0) (pa_cons pe_int (pa_cons (Z.pe_gint rfl T.v_MOST_ORDERS) pa_nil)))))) (pss_one ps_never) pss_nil)
      (pss_cons (ps_set (i := 2) nd rfl (Or.inl rfl) (pe_lst pa_nil))
      (pss_cons (ps_for PassesOwn.never rfl (Z.pi_seq (pv 0)) (pg_name (i := 3) nd rfl (Or.inl rfl)) (pss_cons (ps_expr (pe_call G_need_pair (hr.mono (by decide)) (by rfl) T.g_need_pair T.d_need_pair.kp b_need_pair .nil pass0 (pa_cons (pv 3) pa_nil)))
      (pss_cons (ps_asg (pv 3) (pg_tup rfl (pgs_cons (pg_name (i := 4) nd rfl (Or.inl rfl)) (pgs_cons (pg_name (i := 5) nd rfl (Or.inl rfl)) pgs_nil))))
      (pss_cons (ps_if (PW.pt (pw_or (pt_not (pt_val (pe_call G_is_name (hr.mono (by decide)) (by rfl) T.g_is_name T.d_is_name.kp b_is_name .nil pass0 (pa_cons (pv 4) pa_nil)))) (pw_or (pt_not (pt_val (pe_call G_is_name (hr.mono (by decide)) (by rfl) T.g_is_name T.d_is_name.kp b_is_name .nil pass0 (pa_cons (pv 5) pa_nil)))) (pw_or (pt_cmp (pc_dnotin hu (pv 4) (pv 1))) (pw_or1 (pt_cmpR (op_inD (Z.hu65 hr)) (pv 3) (pv 2) (by rfl))))))) (pss_one ps_never) pss_nil)
      (pss_cons (ps_if (pt_cmpR op_notIn_seq (pv 5) (pe_lc (own := [("name", 6), ("kind", 7)]) rfl nd (pi_tup (pe_slice sl_tupA (pe_dget hu (pv 1) (pv 4) (fun _ _ => rfl)) (po_some pe_int) po_none)) (blkOk_by (own := [("name", 6), ("kind", 7)]) (N := ["thing", "tables", "found", "order", "table", "column", "name", "kind"]) (sc := defScope s_orders_in) (by decide +kernel)) (fun _ _ _ _ _ => (pg_tupK (K := K) (n := 2) rfl rfl (pgs_cons (pg_name (i := 6) nd rfl (Or.inl rfl)) (pgs_cons (pg_name (i := 7) nd rfl (Or.inl rfl)) pgs_nil)))) (fun _ _ _ _ _ => pts_nil) (fun _ _ _ _ _ => (pv 6))) (by rfl)) (pss_one ps_never) pss_nil)
      (pss_one (ps_expr (pe_bm PySem.F.plainAttrs_list PySem.F.slot_list_append PySem.F.type_list_append mt_append (pv 2) (pa_cons (pv 3) pa_nil)))))))))
      (pss_one (ps_ret (pe_callTy call_tuple_of (by rfl) T.b_tuple (by decide +kernel) (pa_cons (pv 2) pa_nil))))))), ?_⟩
    simp only [cxOf, Cx.nox, L2.start, List.map_cons, List.map_nil, List.length_cons, List.length_nil, Nat.reduceAdd, Nat.reduceSub, List.replicate, List.cons_append, List.nil_append]
    obtain ⟨a, xs, rfl, hq, hd⟩ := hc.seq sm
    have hl := Z.dpa_len hd
    rw [List.length_map] at hl
    have hi := ok.hi
    have onm := ok.pair tk
    walk_at "z"
    refine ⟨a, xs, 0, 4, rfl, hq, by omega, by omega, fun H1 s1 => ?_⟩
    have W1 := (Z.Ws.init sm).exts s1
    walk_at "z"
    refine ⟨by simp only [List.length_cons, List.length_nil]; decide, fun q hq1 => ?_⟩
    have W2 := W1.new (o := .lst []) hq1
    walk_at "z"
    refine Z.forSqD (hq.imp (W2.same.seq ·) (Z.seqT W2.same ·)) (fun i σ H' => (∃ v3 v4 v5 v6 v7, σ = [some (.ref a), some (.ref d), some (.ref q), v3, v4, v5, v6, v7]) ∧ ∃ F', Z.Ws [(q, .lst (xs.take i))] F0 H F' H' ∧ Same F0 F') ⟨⟨_, _, _, _, _, rfl⟩, F0, W2, Same.refl _⟩ hq (fun i σ H' ⟨_, _, W, _⟩ => W.same) ?_ ?_
    · rintro i x σ H' hx ⟨⟨v3, v4, v5, v6, v7, rfl⟩, F1, W, sF⟩
      obtain ⟨dd, hd1, hd2⟩ := Z.dpa_ix hd hx
      rw [List.getElem?_map] at hd1
      obtain ⟨o, ho1, rfl⟩ := Option.map_eq_some_iff.mp hd1
      have hom := List.mem_of_getElem? ho1
      obtain ⟨n1, n2⟩ := onm o hom
      obtain ⟨t, htm, et, c, hcm, ec⟩ := ok.nm o hom
      obtain ⟨w, ew, hw⟩ := kv.some tk.nd htm
      rw [et] at ew
      have hd2' := Z.dp_same sF hd2
      obtain ⟨b, ys, rfl, hb, hys⟩ := Z.dp_tup hd2
      obtain ⟨x1, x2, rfl, hx1, hx2⟩ := Z.dpa2 hys
      cases Z.dp_str hx1
      cases Z.dp_str hx2
      have hb' := Z.seqT (sm.trans W.same) hb
      have hdk' := W.same _ _ hdk
      walk_at "z"
      refine ⟨b, _, _, rfl, hb', ?_⟩
      walk_at "z"
      refine ⟨b, _, rfl, hb', rfl, ?_⟩
      walk_at "z"
      refine ⟨_, _, rfl, .str o.1, by have := n1.2.1; show o.1.length ≤ 10000; omega, ?_⟩
      rw [show named (.str o.1) = true from decide_eq_true n1]
      walk_at "z"
      refine ⟨_, _, rfl, .str o.2, by have := n2.2.1; show o.2.length ≤ 10000; omega, ?_⟩
      rw [show named (.str o.2) = true from decide_eq_true n2]
      walk_at "z"
      refine dinS hdk' ?_
      rw [ew]
      walk_at "z"
      have hti : (os.take i).Nodup ∧ o ∉ os.take i := by
        have nd := ok.nd
        rw [← List.take_append_drop i os, List.nodup_append] at nd
        exact ⟨nd.1, fun m => nd.2.2 o m o (List.mem_of_getElem? (i := 0) (by rw [List.getElem?_drop]; exact ho1)) rfl⟩
      have hda := Z.dpa_same (sm.trans W.same) (Z.dpa_take i hd)
      rw [← List.map_take] at hda
      refine ⟨_, _, Z.dp_same W.fh hd2', .lst (SqL.of (W.at 0 rfl)) hda, shaped_pair (pairOk_of (onm o hom)), shaped_pairsL (fun o' h' => pairOk_of (onm o' (List.mem_of_mem_take h'))), ?_⟩
      rw [any_pair, decide_eq_false hti.2]
      walk_at "z"
      refine dgetS hdk' ew ?_
      walk_at "z"
      refine Z.slT W (Z.dp_same sF hw) fun r F2 H2 W3 s2 hr => ?_
      rw [show Z.cutD (List.map pairD t.2) (some 1) none = (List.map pairD t.2).drop 1 from cutD_tail _ 1, List.drop_one, ← List.map_tail] at hr
      obtain ⟨ra, rx, rfl, hr1, hr2⟩ := Z.dp_tup hr
      refine ⟨ra, rfl, ⟨_, Z.seqT W3.fh hr1⟩, fun D hD => ?_⟩
      refine lc_it walk_tup (Z.LcP K D _ F0 H F2 (t.2.tail.map fun c => .str c.1)) (Z.lc0 W3 hD) (fun i H' hi ⟨F', vs, W, s, _⟩ => Z.seqT (s.trans W.fh) hr1) ?_ ?_
      · rintro j x H3 H4 hj ⟨F3, vs, W4, s4, ha⟩ ⟨rfl, hx⟩
        obtain ⟨dd, e1, e2⟩ := Z.dpa_ix hr2 hx
        rw [List.getElem?_map] at e1
        obtain ⟨c', hc', rfl⟩ := Option.map_eq_some_iff.mp e1
        have e2 := Z.dp_same s4 e2
        refine Z.gtupD e2 W4.fh fun ys hys => ?_
        obtain ⟨x1, x2, rfl, hx1, hx2⟩ := Z.dpa2 hys
        cases Z.dp_str hx1
        cases Z.dp_str hx2
        walk_at "z"
        refine ⟨rfl, ?_⟩
        walk_at "z"
        exact Z.lcS W4 s4 ha (by rw [List.getElem?_map, hc']; rfl) (.str _) (by rw [List.length_map, List.length_tail]; have := (tk.nm t htm).2.hi; omega)
      · rintro H3 ⟨F3, vs, W4, s4, ha⟩
        have hlen : rx.length = (t.2.tail.map fun c => PyData.str c.1).length := by rw [Z.dpa_len hr2, List.length_map, List.length_map]
        rw [hlen, List.take_length] at ha
        have ha : DpAll K F3 vs ((t.2.tail.map fun c => c.1).map PyData.str) := by rw [List.map_map]; exact ha
        cases Z.dpa_strs ha
        refine ⟨D, _, rfl, .inl (SqL.of (W4.at 0 rfl)), rfl, flat_str _, ?_⟩
        rw [inV_str, decide_eq_true (show o.2 ∈ t.2.tail.map (·.1) from List.mem_map.mpr ⟨c, by rw [← List.drop_one]; exact hcm, ec⟩)]
        walk_at "z"
        refine ⟨.inl ⟨rfl, _, SqL.of (W4.at 1 rfl)⟩, ?_⟩
        walk_at "z"
        refine Z.appW W4 1 rfl (fun H3 W5 => ?_) (by rw [List.length_take]; omega)
        walk_at "z"
        refine ⟨⟨_, _, _, _, _, rfl⟩, F3, ?_, sF.trans (s2.trans s4)⟩
        rw [List.take_add_one, hx]
        exact W5.pick [1] (by decide) rfl
    · rintro σ H' ⟨⟨v3, v4, v5, v6, v7, rfl⟩, F1, W, sF⟩
      rw [List.take_length] at W
      walk_at "z"
      refine ⟨q, xs, rfl, .inl ⟨SqL.of (W.at 0 rfl), fun p hp => ?_⟩⟩
      have W5 := W.dat (o := .tup xs) hp
      exact k _ _ _ W5.g (.tup (SqT.of upd_same) (Z.dpa_same (sF.trans (Z.same_new (W.freeF hp))) hd))

def sp_Schema___init__ (K : PySem.W.Frag) (A : Adr) : Sp := fun vs H Q _ => ∃ (F B : Hp) (x dx : Addr) (v w : V) (ts : List Tab) (os : List (Str × Str)), vs = [.ref x, v, w] ∧ Z.Ws [(x, .ins A.Schema dx [])] F B F H ∧ HandT K F B v ts ∧ TabsOk ts ∧ OrdsOk ts os ∧
  ((w = .non ∧ os = []) ∨ HandC K F B w os ∧ w ≠ .non) ∧ ∀ F' H' d kvs ko, Z.Ws [(x, .ins A.Schema dx (schF d ko)), (d, .dK kvs)] F B F' H' → Same F F' → KvOk K F' kvs ts → Dp K F' ko (.tuple (os.map pairD)) → Q .non H'
theorem HandT.same {K : PySem.W.Frag} {F H F' H' : Hp} {v : V} {ts : List Tab} (h : HandT K F H v ts) (s : Same F F') (e : Same H H') : HandT K F' H' v ts := by
  obtain ⟨a, xs, rfl, hq, hl, hd⟩ := h
  refine ⟨a, xs, rfl, hq.imp (e.seq ·) (Z.seqT e ·), hl, fun i x t hx ht => ?_⟩
  obtain ⟨b, w, rfl, h1, h2⟩ := hd i x t hx ht
  exact ⟨b, w, rfl, Z.seqT e h1, h2.same s e⟩
theorem ok_Schema___init__ (T : Txt K mg A) : ∃ fd, FnOk P w K mg base CX0 4 A.f_Schema___init__ fd ["self", "tables", "orders"] (sp_Schema___init__ K A) ∧ Binds K fd ["self", "tables", "orders"] [] ∧ ∃ ds, Vals [.non] ds ∧ Binds K fd ["self", "tables", "orders"] ds := by
  have ⟨fd, F, b⟩ := T.d_Schema___init__
  refine ⟨fd, FD.ok0 F sc_Schema___init__ (fun vs H Q E h => ?_) (fun cdv Ar outer s H vs Q E hr h => ?_), b⟩
  · obtain ⟨F0, B, x, dx, v, u, ts, os, rfl, _⟩ := h
    rfl
  · obtain ⟨F0, B, x, dx, v, u, ts, os, rfl, W0, ht, tk, ok, ho, k⟩ := h
    have nd := sc_Schema___init__.nd
    have hu := hu_of hr
    have ⟨fd_tables_in, G_tables_in, b_tables_in⟩ := ok_tables_in (P := P) (w := w) (base := base) T
    have ⟨fd_orders_in, G_orders_in, b_orders_in⟩ := ok_orders_in (P := P) (w := w) (base := base) T
    refine ⟨_, (pss_cons (ps_fld (pv 0) (pe_call G_tables_in (hr.mono (by decide)) (by rfl) T.g_tables_in T.d_tables_in.kp b_tables_in .nil pass0 (pa_cons (pv 1) pa_nil)) rfl)
      (pss_cons (ps_fld (pv 0) (pe_tup pa_nil) rfl)
      (pss_one (ps_if (pt_cmpR op_notN (pv 2) pe_non (nomark _)) (pss_one (ps_fld (pv 0) (pe_call G_orders_in (hr.mono (by decide)) (by rfl) T.g_orders_in T.d_orders_in.kp b_orders_in .nil pass0 (pa_cons (pv 2) (pa_cons (pe_fld (pv 0) rfl) pa_nil))) rfl)) pss_nil)))), ?_⟩
    simp only [cxOf, Cx.nox, L2.start, List.map_cons, List.map_nil, List.length_cons, List.length_nil, Nat.reduceAdd, Nat.reduceSub, List.replicate, List.cons_append, List.nil_append]
    walk_at "z"
    refine ⟨F0, v, ts, rfl, W0.fh, ht.same (Same.refl _) W0.same, tk, fun F1 H1 d kvs M1 kv => ?_⟩
    have W1 := W0.join M1
    have hx1 : H1 x = some (.ins A.Schema dx []) := W1.at 1 rfl
    walk_at "z"
    have W2 := W1.set 1 rfl (.ins A.Schema dx [("columns", .ref d)])
    generalize upd H1 x (.ins A.Schema dx [("columns", .ref d)]) = H2 at W2 ⊢
    have hx2 : H2 x = some (.ins A.Schema dx [("columns", .ref d)]) := W2.at 1 rfl
    have hd2 : H2 d = some (.dK kvs) := W2.at 0 rfl
    walk_at "z"
    refine ⟨by simp only [List.length_nil]; decide, fun p hp => ?_⟩
    have W3 := W2.dat (o := .tup []) hp
    have sF3 := Z.same_new (o := .tup []) (W2.freeF hp)
    have dk : Dp K (upd F1 p (.tup [])) (.ref p) (.tuple ([].map pairD)) := .tup (SqT.of upd_same) .nil
    generalize upd H2 p (.tup []) = H3 at W3 ⊢
    generalize upd F1 p (.tup []) = F3 at W3 sF3 dk
    have hx3 : H3 x = some (.ins A.Schema dx [("columns", .ref d)]) := W3.at 1 rfl
    walk_at "z"
    have W4 := W3.set 1 rfl (.ins A.Schema dx [("columns", .ref d), ("kept_orders", .ref p)])
    generalize upd H3 x (.ins A.Schema dx [("columns", .ref d), ("kept_orders", .ref p)]) = H4 at W4 ⊢
    have hx4 : H4 x = some (.ins A.Schema dx (schF d (.ref p))) := W4.at 1 rfl
    have hd4 : H4 d = some (.dK kvs) := W4.at 0 rfl
    have kv3 := kv.same sF3
    have s03 := M1.f0.trans sF3
    walk_at "z"
    rcases ho with ⟨rfl, rfl⟩ | ⟨ho, hne⟩
    · walk_at "z"
      exact k F3 H4 d kvs _ (W4.pick [1, 0] (by decide) rfl) s03 kv3 dk
    · rw [decide_eq_false hne]
      walk_at "z"
      refine ⟨F3, u, d, kvs, ts, os, rfl, W4.fh, ho.same s03 W4.same, hd4, kv3, tk, ok, fun F5 H5 r g5 hr => ?_⟩
      have W5 := W4.ext g5
      have hx5 : H5 x = some (.ins A.Schema dx (schF d (.ref p))) := W5.at 1 rfl
      walk_at "z"
      have W6 := W5.set 1 rfl (.ins A.Schema dx (schF d r))
      exact k F5 _ d kvs r (W6.pick [1, 0] (by decide) rfl) (s03.trans g5.f) (kv3.same g5.f) hr
/-- a schema that stands -/
def IsSch (K : PySem.W.Frag) (A : Adr) (F : Hp) (v : V) (ts : List Tab) (os : List (Str × Str)) : Prop := ∃ x dx d kvs ko, v = .ref x ∧ F x = some (.ins A.Schema dx (schF d ko)) ∧ F d = some (.dK kvs) ∧ KvOk K F kvs ts ∧ Dp K F ko (.tuple (os.map pairD)) ∧ TabsOk ts ∧ OrdsOk ts os
theorem IsSch.same {K : PySem.W.Frag} {A : Adr} {F F' : Hp} {v : V} {ts : List Tab} {os : List (Str × Str)} (h : IsSch K A F v ts os) (s : Same F F') : IsSch K A F' v ts os := by
  obtain ⟨x, dx, d, kvs, ko, e, h1, h2, h3, h4, h5⟩ := h
  exact ⟨x, dx, d, kvs, ko, e, s _ _ h1, s _ _ h2, h3.same s, Z.dp_same s h4, h5⟩
def sp_Schema_need_table (K : PySem.W.Frag) (A : Adr) : Sp := fun vs H Q _ => ∃ (F : Hp) (v : V) (ts : List Tab) (os : List (Str × Str)) (t : Tab), vs = [v, .str t.1] ∧ Same F H ∧ IsSch K A F v ts os ∧ t ∈ ts ∧ Q .non H
theorem ok_Schema_need_table (T : Txt K mg A) : ∃ fd, FnOk P w K mg base CX0 2 A.f_Schema_need_table fd ["self", "table"] (sp_Schema_need_table K A) ∧ Binds K fd ["self", "table"] [] := by
  have ⟨fd, F, b⟩ := T.d_Schema_need_table
  refine ⟨fd, F.ok sc_Schema_need_table (fun vs H Q E h => ?_) (fun cdv Ar outer s H vs Q E hr h => ?_), b⟩
  · obtain ⟨F0, v, ts, os, t, rfl, _⟩ := h
    rfl
  · obtain ⟨F0, v, ts, os, t, rfl, sm, hs, ht, k⟩ := h
    have nd := sc_Schema_need_table.nd
    have hu := hu_of hr
    have ⟨fd_is_name, G_is_name, b_is_name⟩ := ok_is_name (P := P) (w := w) (base := base) T
    refine ⟨_, (pss_one (ps_if (PW.pt (pw_or (pt_not (pt_val (pe_call G_is_name (hr.mono (by decide)) (by rfl) T.g_is_name T.d_is_name.kp b_is_name .nil pass0 (pa_cons (pv 1) pa_nil)))) (pw_or1 (pt_cmp (pc_dnotin hu (pv 1) (pe_fld (pv 0) rfl)))))) (pss_one ps_never) pss_nil)), ?_⟩
    simp only [cxOf, Cx.nox, L2.start, List.map_cons, List.map_nil, List.length_cons, List.length_nil, Nat.reduceAdd, Nat.reduceSub, List.replicate, List.cons_append, List.nil_append]
    obtain ⟨x, dx, d, kvs, ko, rfl, hx, hd, kv, hk, tk, ok⟩ := hs
    have hx' := sm _ _ hx
    have hd' := sm _ _ hd
    obtain ⟨w, ew, hw⟩ := kv.some tk.nd ht
    have hn := (tk.nm t ht).1
    walk_at "z"
    refine ⟨_, _, rfl, .str t.1, by have := hn.2.1; show t.1.length ≤ 10000; omega, ?_⟩
    rw [show named (.str t.1) = true from decide_eq_true hn]
    walk_at "z"
    refine dinS hd' ?_
    rw [ew]
    walk_at "z"
    exact k
def sp_Schema_table_names (K : PySem.W.Frag) (A : Adr) : Sp := fun vs H Q _ => ∃ (F : Hp) (v : V) (ts : List Tab) (os : List (Str × Str)), vs = [v] ∧ Same F H ∧ IsSch K A F v ts os ∧ ∀ H' p, Z.Ws [(p, .lst (ts.map fun t => .str t.1))] F H F H' → Q (.ref p) H'
theorem ok_Schema_table_names (T : Txt K mg A) : ∃ fd, FnOk P w K mg base CX0 1 A.f_Schema_table_names fd ["self"] (sp_Schema_table_names K A) ∧ Binds K fd ["self"] [] := by
  have ⟨fd, F, b⟩ := T.d_Schema_table_names
  refine ⟨fd, F.ok sc_Schema_table_names (fun vs H Q E h => ?_) (fun cdv Ar outer s H vs Q E hr h => ?_), b⟩
  · obtain ⟨F0, v, ts, os, rfl, _⟩ := h
    rfl
  · obtain ⟨F0, v, ts, os, rfl, sm, hs, k⟩ := h
    have nd := sc_Schema_table_names.nd
    have hu := hu_of hr
    refine ⟨_, (pss_one (ps_ret (pe_callTy (call_listD rfl) (by rfl) T.b_list (by decide +kernel) (pa_cons (pe_fld (pv 0) rfl) pa_nil)))), ?_⟩
    simp only [cxOf, Cx.nox, L2.start, List.map_cons, List.map_nil, List.length_cons, List.length_nil, Nat.reduceAdd, Nat.reduceSub, List.replicate, List.cons_append, List.nil_append]
    obtain ⟨x, dx, d, kvs, ko, rfl, hx, hd, kv, hk, tk, ok⟩ := hs
    have hx' := sm _ _ hx
    have hd' := sm _ _ hd
    walk_at "z"
    refine ⟨d, kvs, rfl, .inl hd', fun p hp => ?_⟩
    rw [kv.keys]
    exact k _ p ((Z.Ws.init sm).new hp)
def sp_Schema_columns_of (K : PySem.W.Frag) (A : Adr) : Sp := fun vs H Q _ => ∃ (F : Hp) (v : V) (ts : List Tab) (os : List (Str × Str)) (t : Tab), vs = [v, .str t.1] ∧ Same F H ∧ IsSch K A F v ts os ∧ t ∈ ts ∧ ∀ H' p xs, Z.Ws [(p, .lst xs)] F H F H' → DpAll K F xs (t.2.map pairD) → Q (.ref p) H'
theorem ok_Schema_columns_of (T : Txt K mg A) : ∃ fd, FnOk P w K mg base CX0 3 A.f_Schema_columns_of fd ["self", "table"] (sp_Schema_columns_of K A) ∧ Binds K fd ["self", "table"] [] := by
  have ⟨fd, F, b⟩ := T.d_Schema_columns_of
  refine ⟨fd, F.ok sc_Schema_columns_of (fun vs H Q E h => ?_) (fun cdv Ar outer s H vs Q E hr h => ?_), b⟩
  · obtain ⟨F0, v, ts, os, t, rfl, _⟩ := h
    rfl
  · obtain ⟨F0, v, ts, os, t, rfl, sm, hs, ht, k⟩ := h
    have nd := sc_Schema_columns_of.nd
    have hu := hu_of hr
    have ⟨fd_Schema_need_table, G_Schema_need_table, b_Schema_need_table⟩ := ok_Schema_need_table (P := P) (w := w) (base := base) T
    refine ⟨_, (pss_cons (ps_expr (pe_meth (pv 0) T.c_Schema T.m_Schema_need_table G_Schema_need_table (hr.mono (by decide)) b_Schema_need_table .nil pass0 (pa_cons (pv 1) pa_nil)))
      (pss_one (ps_ret (pe_callTy call_list_of (by rfl) T.b_list (by decide +kernel) (pa_cons (pe_dget hu (pe_fld (pv 0) rfl) (pv 1) (fun _ _ => rfl)) pa_nil))))), ?_⟩
    simp only [cxOf, Cx.nox, L2.start, List.map_cons, List.map_nil, List.length_cons, List.length_nil, Nat.reduceAdd, Nat.reduceSub, List.replicate, List.cons_append, List.nil_append]
    have hs0 := hs
    obtain ⟨x, dx, d, kvs, ko, rfl, hx, hd, kv, hk, tk, ok⟩ := hs
    have hx' := sm _ _ hx
    have hd' := sm _ _ hd
    obtain ⟨w, ew, hw⟩ := kv.some tk.nd ht
    walk_at "z"
    refine ⟨F0, _, ts, os, t, rfl, sm, hs0, ht, ?_⟩
    walk_at "z"
    refine dgetS hd' ew ?_
    walk_at "z"
    obtain ⟨a, xs, rfl, h1, h2⟩ := Z.dp_tup hw
    refine ⟨a, xs, rfl, .inr (Z.seqT sm h1), fun p hp => ?_⟩
    exact k _ p xs ((Z.Ws.init sm).new hp) h2
def sp_Schema_kind_of (K : PySem.W.Frag) (A : Adr) : Sp := fun vs H Q _ => ∃ (F : Hp) (v : V) (ts : List Tab) (os : List (Str × Str)) (t : Tab) (c : Col), vs = [v, .str t.1, .str c.1] ∧ Same F H ∧ IsSch K A F v ts os ∧ t ∈ ts ∧ c ∈ t.2 ∧ Q (.str c.2) H
theorem ok_Schema_kind_of (T : Txt K mg A) : ∃ fd, FnOk P w K mg base CX0 3 A.f_Schema_kind_of fd ["self", "table", "column"] (sp_Schema_kind_of K A) ∧ Binds K fd ["self", "table", "column"] [] := by
  have ⟨fd, F, b⟩ := T.d_Schema_kind_of
  refine ⟨fd, F.ok sc_Schema_kind_of (fun vs H Q E h => ?_) (fun cdv Ar outer s H vs Q E hr h => ?_), b⟩
  · obtain ⟨F0, v, ts, os, t, c, rfl, _⟩ := h
    rfl
  · obtain ⟨F0, v, ts, os, t, c, rfl, sm, hs, ht, hc, k⟩ := h
    have nd := sc_Schema_kind_of.nd
    have hu := hu_of hr
    have ⟨fd_Schema_need_table, G_Schema_need_table, b_Schema_need_table⟩ := ok_Schema_need_table (P := P) (w := w) (base := base) T
    have ⟨fd_is_name, G_is_name, b_is_name⟩ := ok_is_name (P := P) (w := w) (base := base) T
    refine ⟨_, (pss_cons (ps_expr (pe_meth (pv 0) T.c_Schema T.m_Schema_need_table G_Schema_need_table (hr.mono (by decide)) b_Schema_need_table .nil pass0 (pa_cons (pv 1) pa_nil)))
      (pss_cons (ps_for PassesOwn.never rfl (pi_tup (pe_dget hu (pe_fld (pv 0) rfl) (pv 1) (fun _ _ => rfl))) (pg_tup rfl (pgs_cons (pg_name (i := 3) nd rfl (Or.inl rfl)) (pgs_cons (pg_name (i := 4) nd rfl (Or.inl rfl)) pgs_nil))) (pss_one (ps_if (PW.pt (pw_and (pt_val (pe_call G_is_name (hr.mono (by decide)) (by rfl) T.g_is_name T.d_is_name.kp b_is_name .nil pass0 (pa_cons (pv 2) pa_nil))) (pw_and1 (pt_cmpR op_eq (pv 3) (pv 2) (nomark _))))) (pss_one (ps_ret (pv 4))) pss_nil)))
      (pss_one ps_never))), ?_⟩
    simp only [cxOf, Cx.nox, L2.start, List.map_cons, List.map_nil, List.length_cons, List.length_nil, Nat.reduceAdd, Nat.reduceSub, List.replicate, List.cons_append, List.nil_append]
    have hs0 := hs
    obtain ⟨x, dx, d, kvs, ko, rfl, hx, hd, kv, hk, tk, ok⟩ := hs
    have hx' := sm _ _ hx
    have hd' := sm _ _ hd
    obtain ⟨w, ew, hw⟩ := kv.some tk.nd ht
    have cok := (tk.nm t ht).2
    have hn := (cok.nm c hc).1
    walk_at "z"
    refine ⟨F0, _, ts, os, t, rfl, sm, hs0, ht, ?_⟩
    walk_at "z"
    refine Z.forE ?_
    walk_at "z"
    refine dgetS hd' ew ?_
    obtain ⟨a, xs, rfl, h1, h2⟩ := Z.dp_tup hw
    refine ⟨a, rfl, ⟨xs, Z.seqT sm h1⟩, for_it walk_tup (fun i σ H' => (∃ v3 v4, σ = [some (.ref x), some (.str t.1), some (.str c.1), v3, v4]) ∧ H' = H ∧ ∀ j c', j < i → t.2[j]? = some c' → c'.1 ≠ c.1) ⟨⟨_, _, rfl⟩, rfl, fun j c' hj => absurd hj (Nat.not_lt_zero _)⟩ (fun i σ H' hi P => by rw [P.2.1]; exact Z.seqT sm h1) ?_ ?_⟩
    · rintro i y σ H' H'' hi ⟨⟨v3, v4, rfl⟩, rfl, hno⟩ ⟨rfl, hy⟩
      obtain ⟨dd, e1, e2⟩ := Z.dpa_ix h2 hy
      rw [List.getElem?_map] at e1
      obtain ⟨c', hc', rfl⟩ := Option.map_eq_some_iff.mp e1
      refine Z.gtupD e2 sm fun ys hys => ?_
      obtain ⟨x1, x2, rfl, hx1, hx2⟩ := Z.dpa2 hys
      cases Z.dp_str hx1
      cases Z.dp_str hx2
      walk_at "z"
      refine ⟨_, _, rfl, .str c.1, by have := hn.2.1; show c.1.length ≤ 10000; omega, ?_⟩
      rw [show named (.str c.1) = true from decide_eq_true hn]
      walk_at "z"
      refine Z.iteD (fun h => ?_) (fun h => ?_)
      · have e : c'.1 = c.1 := V.str.inj h
        have : c' = c := by
          have nd := cok.nd
          obtain ⟨j, hj⟩ := List.mem_iff_getElem?.mp hc
          have h3 : (t.2.map (·.1))[i]? = some c.1 := by rw [List.getElem?_map, hc', Option.map_some, e]
          have h4 : (t.2.map (·.1))[j]? = some c.1 := by rw [List.getElem?_map, hj]; rfl
          have := nd_ix nd h3 h4
          subst this
          rw [hc'] at hj
          exact Option.some.inj hj
        subst this
        walk_at "z"
        exact k
      · walk_at "z"
        refine ⟨⟨_, _, rfl⟩, rfl, fun j c2 hj hc2 => ?_⟩
        by_cases e : j = i
        · subst e
          rw [hc'] at hc2
          cases hc2
          exact fun e => h (by rw [e])
        · exact hno j c2 (by omega) hc2
    · rintro σ H' ⟨⟨v3, v4, rfl⟩, rfl, hno⟩
      obtain ⟨j, hj⟩ := List.mem_iff_getElem?.mp hc
      have hjl := (List.getElem?_eq_some_iff.mp hj).1
      have := Z.dpa_len h2
      rw [List.length_map] at this
      exact absurd rfl (hno j c (by omega) hj)

/-- which orders there are -/
def ordAns (t : Tab) (os : List (Str × Str)) : PyData → Bool
  | .str z => decide (Name z) && (decide (some z = t.2.head?.map (·.1)) || decide ((t.1, z) ∈ os))
  | _ => false
def sp_Schema_has_order (K : PySem.W.Frag) (A : Adr) : Sp := fun vs H Q _ => ∃ (F : Hp) (v u : V) (d : PyData) (ts : List Tab) (os : List (Str × Str)) (t : Tab), vs = [v, .str t.1, u] ∧ Same F H ∧ IsSch K A F v ts os ∧ t ∈ ts ∧ Dp K F u d ∧ SmallS d ∧ ∀ H', Same H H' → Q (.bl (ordAns t os d)) H'
theorem ok_Schema_has_order (T : Txt K mg A) : ∃ fd, FnOk P w K mg base CX0 3 A.f_Schema_has_order fd ["self", "table", "column"] (sp_Schema_has_order K A) ∧ Binds K fd ["self", "table", "column"] [] := by
  have ⟨fd, F, b⟩ := T.d_Schema_has_order
  refine ⟨fd, F.ok sc_Schema_has_order (fun vs H Q E h => ?_) (fun cdv Ar outer s H vs Q E hr h => ?_), b⟩
  · obtain ⟨F0, v, u, dd, ts, os, t, rfl, _⟩ := h
    rfl
  · obtain ⟨F0, v, u, dd, ts, os, t, rfl, sm, hs, ht, hu', hz, k⟩ := h
    have nd := sc_Schema_has_order.nd
    have hu := hu_of hr
    have ⟨fd_Schema_need_table, G_Schema_need_table, b_Schema_need_table⟩ := ok_Schema_need_table (P := P) (w := w) (base := base) T
    have ⟨fd_is_name, G_is_name, b_is_name⟩ := ok_is_name (P := P) (w := w) (base := base) T
    refine ⟨_, (pss_cons (ps_expr (pe_meth (pv 0) T.c_Schema T.m_Schema_need_table G_Schema_need_table (hr.mono (by decide)) b_Schema_need_table .nil pass0 (pa_cons (pv 1) pa_nil)))
      (pss_cons (ps_if (pt_not (pt_val (pe_call G_is_name (hr.mono (by decide)) (by rfl) T.g_is_name T.d_is_name.kp b_is_name .nil pass0 (pa_cons (pv 2) pa_nil)))) (pss_one (ps_ret pe_bl)) pss_nil)
      (pss_one (ps_ret (pe_or (pe_cmpR op_eq (pv 2) (pe_ix ix_tup (pe_ix ix_tup (pe_dget hu (pe_fld (pv 0) rfl) (pv 1) (fun _ _ => rfl)) pe_int (fun _ _ => rfl)) pe_int (fun _ _ => rfl)) (nomark _)) (pe_one (pe_cmpR (Z.op_inDT (Z.hu65 hr)) (pe_tup (pa_cons (pv 1) (pa_cons (pv 2) pa_nil))) (pe_fld (pv 0) rfl) (by rfl)))))))), ?_⟩
    simp only [cxOf, Cx.nox, L2.start, List.map_cons, List.map_nil, List.length_cons, List.length_nil, Nat.reduceAdd, Nat.reduceSub, List.replicate, List.cons_append, List.nil_append]
    have hs0 := hs
    obtain ⟨x, dx, d, kvs, ko, rfl, hx, hd, kv, hk, tk, ok⟩ := hs
    have hx' := sm _ _ hx
    have hd' := sm _ _ hd
    obtain ⟨y, ew, hw⟩ := kv.some tk.nd ht
    obtain ⟨tn, cok⟩ := tk.nm t ht
    walk_at "z"
    refine ⟨F0, _, ts, os, t, rfl, sm, hs0, ht, ?_⟩
    walk_at "z"
    refine ⟨u, dd, rfl, Z.dp_same sm hu', hz, ?_⟩
    walk_at "z"
    cases hnm : named dd with
    | false =>
      have : ordAns t os dd = false := by
        cases dd <;> first | rfl | (rename_i z; show (decide (Name z) && _) = false; rw [show decide (Name z) = false from hnm]; rfl)
      rw [this] at k
      walk_at "z"
      exact k _ (Same.refl _)
    | true =>
      obtain ⟨z, rfl, hn⟩ : ∃ z, dd = .str z ∧ Name z := by
        cases dd <;> first | exact ⟨_, rfl, of_decide_eq_true hnm⟩ | exact absurd hnm (by simp [named])
      cases Z.dp_str hu'
      obtain ⟨c, r, e2⟩ : ∃ c r, t.2 = c :: r := by
        cases h : t.2 with
        | nil => have := cok.lo; rw [h] at this; exact absurd this (by decide)
        | cons c r => exact ⟨c, r, rfl⟩
      have ea : ordAns t os (.str z) = (decide (z = c.1) || decide ((t.1, z) ∈ os)) := by
        show (decide (Name z) && (decide (some z = t.2.head?.map (·.1)) || _)) = _
        rw [decide_eq_true hn, e2]
        simp
      rw [ea] at k
      walk_at "z"
      refine dgetS hd' ew ?_
      rw [e2] at hw
      walk_at "z"
      refine Z.ixT hw sm 0 rfl fun w1 hw1 => ?_
      walk_at "z"
      refine Z.ixT hw1 sm 0 rfl fun w2 hw2 => ?_
      cases Z.dp_str hw2
      walk_at "z"
      by_cases e : z = c.1
      · rw [decide_eq_true (show V.str z = V.str c.1 by rw [e])]
        walk_at "z"
        rw [decide_eq_true e] at k
        exact k _ (Same.refl _)
      · rw [decide_eq_false (show ¬ V.str z = V.str c.1 from fun h => e (V.str.inj h))]
        rw [decide_eq_false e] at k
        walk_at "z"
        refine ⟨by simp only [List.length_cons, List.length_nil]; decide, fun p hp => ?_⟩
        have sp := Z.same_new (o := .tup [.str t.1, .str z]) hp
        have gp : upd H p (.tup [.str t.1, .str z]) p = _ := upd_same
        generalize upd H p (.tup [.str t.1, .str z]) = H1 at sp gp ⊢
        have hx1 := sp _ _ hx'
        walk_at "z"
        refine ⟨pairD (t.1, z), _, .tup (SqT.of gp) (.cons (.str _) (.cons (.str _) .nil)), Z.dp_same (sm.trans sp) hk, shaped_pair (pairOk_of ⟨tn, hn⟩), shaped_pairsT (fun o h => pairOk_of (ok.pair tk o h)), ?_⟩
        rw [any_pair]
        exact k _ sp
def fitsD (cs : List Col) : PyData → Bool
  | .tuple ds => decide (ds.length = cs.length) && ((cs.zip ds).all fun p => valOk p.1.2 p.2)
  | _ => false
def AllSmall : PyData → Prop
  | .tuple ds => ds.length ≤ 1000 ∧ ∀ d ∈ ds, SmallS d
  | _ => True
theorem isTup {d : PyData} (h : Z.isTy "tuple" d = true) : ∃ ds, d = .tuple ds := by cases d <;> first | exact ⟨_, rfl⟩ | exact absurd h (by simp [Z.isTy, Z.tyN])
theorem notTup {d : PyData} {cs : List Col} (h : Z.isTy "tuple" d = false) : fitsD cs d = false := by cases d <;> first | rfl | exact absurd h (by simp [Z.isTy, Z.tyN])
def sp_Schema_fits (K : PySem.W.Frag) (A : Adr) : Sp := fun vs H Q _ => ∃ (F : Hp) (v u : V) (d : PyData) (ts : List Tab) (os : List (Str × Str)) (t : Tab), vs = [v, .str t.1, u] ∧ Same F H ∧ IsSch K A F v ts os ∧ t ∈ ts ∧ Dp K F u d ∧ AllSmall d ∧ ∀ H', Same H H' → Q (.bl (fitsD t.2 d)) H'
theorem ok_Schema_fits (T : Txt K mg A) : ∃ fd, FnOk P w K mg base CX0 3 A.f_Schema_fits fd ["self", "table", "row"] (sp_Schema_fits K A) ∧ Binds K fd ["self", "table", "row"] [] := by
  have ⟨fd, F, b⟩ := T.d_Schema_fits
  refine ⟨fd, F.ok sc_Schema_fits (fun vs H Q E h => ?_) (fun cdv Ar outer s H vs Q E hr h => ?_), b⟩
  · obtain ⟨F0, v, u, dd, ts, os, t, rfl, _⟩ := h
    rfl
  · obtain ⟨F0, v, u, dd, ts, os, t, rfl, sm, hs, ht, hu', hz, k⟩ := h
    have nd := sc_Schema_fits.nd
    have hu := hu_of hr
    have ⟨fd_Schema_need_table, G_Schema_need_table, b_Schema_need_table⟩ := ok_Schema_need_table (P := P) (w := w) (base := base) T
    have ⟨fd_is_value, G_is_value, b_is_value⟩ := ok_is_value (P := P) (w := w) (base := base) T
    refine ⟨_, (pss_cons (ps_expr (pe_meth (pv 0) T.c_Schema T.m_Schema_need_table G_Schema_need_table (hr.mono (by decide)) b_Schema_need_table .nil pass0 (pa_cons (pv 1) pa_nil)))
      (pss_cons (ps_if (PW.pt (pw_or (pt_not (pt_val (pe_callB call_isi (by rfl) T.b_isinstance (by decide +kernel) (pa_cons (pv 2) (pa_cons (pe_bltn (v := .ty "tuple") (u := .type "tuple") (by rfl) T.b_tuple (by decide +kernel) rfl) pa_nil))))) (pw_or1 (pt_cmpR op_ne (pe_callB call_len_seq (by rfl) T.b_len PySem.boot_len (pa_cons (pv 2) pa_nil)) (pe_callB call_len_seq (by rfl) T.b_len PySem.boot_len (pa_cons (pe_dget hu (pe_fld (pv 0) rfl) (pv 1) (fun _ _ => rfl)) pa_nil)) (nomark _))))) (pss_one (ps_ret pe_bl)) pss_nil)
      (pss_cons (ps_for PassesOwn.never rfl (RZ.pi_zipA (by rfl) T.b_zip (pa_cons (pe_dget hu (pe_fld (pv 0) rfl) (pv 1) (fun _ _ => rfl)) (pa_cons (pv 2) pa_nil))) (pg_tup rfl (pgs_cons (pg_name (i := 3) nd rfl (Or.inl rfl)) (pgs_cons (pg_name (i := 4) nd rfl (Or.inl rfl)) pgs_nil))) (pss_one (ps_if (pt_not (pt_val (pe_call G_is_value (hr.mono (by decide)) (by rfl) T.g_is_value T.d_is_value.kp b_is_value .nil pass0 (pa_cons (pe_ix ix_tup (pv 3) pe_int (fun _ _ => rfl)) (pa_cons (pv 4) pa_nil))))) (pss_one (ps_ret pe_bl)) pss_nil)))
      (pss_one (ps_ret pe_bl))))), ?_⟩
    simp only [cxOf, Cx.nox, L2.start, List.map_cons, List.map_nil, List.length_cons, List.length_nil, Nat.reduceAdd, Nat.reduceSub, List.replicate, List.cons_append, List.nil_append]
    have hs0 := hs
    obtain ⟨x, dx, d, kvs, ko, rfl, hx, hd, kv, hk, tk, ok⟩ := hs
    have hx' := sm _ _ hx
    have hd' := sm _ _ hd
    obtain ⟨y, ew, hw⟩ := kv.some tk.nd ht
    obtain ⟨a, xs, rfl, h1, h2⟩ := Z.dp_tup hw
    have hlen := Z.dpa_len h2
    rw [List.length_map] at hlen
    walk_at "z"
    refine ⟨F0, _, ts, os, t, rfl, sm, hs0, ht, ?_⟩
    walk_at "z"
    refine Z.isiD hu' sm (by simp) ?_
    walk_at "z"
    cases hty : Z.isTy "tuple" dd with
    | false =>
      rw [notTup hty] at k
      walk_at "z"
      exact k _ (Same.refl _)
    | true =>
      obtain ⟨ds, rfl⟩ := isTup hty
      obtain ⟨b, ys, rfl, g1, g2⟩ := Z.dp_tup hu'
      have glen := Z.dpa_len g2
      walk_at "z"
      refine seqOf_len (Q := Q) (.inr (Z.seqT sm g1)) ?_
      walk_at "z"
      refine dgetS hd' ew ?_
      refine seqOf_len (Q := Q) (.inr (Z.seqT sm h1)) ?_
      walk_at "z"
      have ef : fitsD t.2 (.tuple ds) = (decide (ds.length = t.2.length) && ((t.2.zip ds).all fun p => valOk p.1.2 p.2)) := rfl
      refine Z.iteN (fun hne => ?_) (fun heq => ?_)
      · walk_at "z"
        rw [ef, decide_eq_false (fun e => hne (by rw [glen, hlen, e]))] at k
        exact k _ (Same.refl _)
      · have heq : ys.length = xs.length := by have := V.int.inj heq; omega
        rw [ef, decide_eq_true (show ds.length = t.2.length by omega)] at k
        walk_at "z"
        refine Z.forE ?_
        walk_at "z"
        refine dgetS hd' ew ?_
        walk_at "z"
        refine ⟨a, b, xs, ys, rfl, .inr ⟨Z.seqT sm h1, Z.seqT sm g1, ?_⟩⟩
        refine RZ.for_zipT heq.symm (fun i σ H' => (∃ v3 v4, σ = [some (.ref x), some (.str t.1), some (.ref b), v3, v4]) ∧ Same H H' ∧ ((t.2.zip ds).take i).all (fun p => valOk p.1.2 p.2) = true) ⟨⟨_, _, rfl⟩, Same.refl _, rfl⟩ (fun i σ H' P => ⟨Z.seqT (sm.trans P.2.1) h1, Z.seqT (sm.trans P.2.1) g1⟩) ?_ ?_
        · rintro i x1 y1 T σ H1 hx1 hy1 ⟨⟨v3, v4, rfl⟩, s1, hall⟩ hT
          have s2 := Z.same_new (o := .tup [x1, y1]) hT
          have gT : upd H1 T (.tup [x1, y1]) T = _ := upd_same
          generalize upd H1 T (.tup [x1, y1]) = H2 at s2 gT ⊢
          refine ⟨T, _, rfl, SqT.of gT, rfl, ?_⟩
          obtain ⟨c0, e1, hx2⟩ := Z.dpa_ix h2 hx1
          rw [List.getElem?_map] at e1
          obtain ⟨c, hc, rfl⟩ := Option.map_eq_some_iff.mp e1
          obtain ⟨d1, e2, hy2⟩ := Z.dpa_ix g2 hy1
          have hzip : (t.2.zip ds)[i]? = some (c, d1) := by
            rw [List.getElem?_zip_eq_some]
            exact ⟨hc, e2⟩
          walk_at "z"
          refine Z.ixT hx2 (sm.trans (s1.trans s2)) 1 rfl fun w2 hw2 => ?_
          cases Z.dp_str hw2
          walk_at "z"
          refine ⟨c.2, y1, d1, rfl, Z.dp_same (sm.trans (s1.trans s2)) hy2, hz.2 d1 (List.mem_of_getElem? e2), ?_⟩
          walk_at "z"
          cases hv : valOk c.2 d1 with
          | false =>
            have : ((t.2.zip ds).all fun p => valOk p.1.2 p.2) = false := by
              rw [Bool.eq_false_iff]
              intro h
              have := List.all_eq_true.mp h _ (List.mem_of_getElem? hzip)
              simp only [hv] at this
              cases this
            rw [this] at k
            walk_at "z"
            exact k _ (s1.trans s2)
          | true =>
            walk_at "z"
            refine ⟨⟨_, _, rfl⟩, s1.trans s2, ?_⟩
            rw [List.take_add_one, hzip, List.all_append, hall]
            simp [hv]
        · rintro σ H1 ⟨⟨v3, v4, rfl⟩, s1, hall⟩
          rw [List.take_of_length_le (by rw [List.length_zip]; omega)] at hall
          rw [hall] at k
          walk_at "z"
          exact k _ s1
def tabTD (t : Tab) : PyData := .tuple [.str t.1, .tuple (t.2.map pairD)]
def sp_Schema_told (K : PySem.W.Frag) (A : Adr) : Sp := fun vs H Q _ => ∃ (F : Hp) (v : V) (ts : List Tab) (os : List (Str × Str)), vs = [v] ∧ Same F H ∧ IsSch K A F v ts os ∧ ∀ F' H' r, Z.Gr F H F' H' → Dp K F' r (.tuple [.tuple (ts.map tabTD), .tuple (os.map pairD)]) → Q r H'
theorem kv_tabs {K : PySem.W.Frag} {F H' : Hp} : ∀ {as : List Addr} {kvs : List (Key × V)} {ts : List Tab}, KvOk K F kvs ts → Paired (fun (t : Addr) (q : Key × V) => H' t = some (.tup [kV q.1, q.2])) as kvs → ∀ {F' : Hp}, Same F F' → (∀ t ∈ as, F' t = H' t) → DpAll K F' (as.map V.ref) (ts.map tabTD)
  | [], _, _, .nil, .nil, _, _, _ => .nil
  | a :: as, _, _, .cons h r, .cons q qs, _, s, e => .cons (.tup (SqT.of ((e a List.mem_cons_self).trans q)) (.cons (.str _) (.cons (Z.dp_same s h) .nil))) (kv_tabs r qs s fun t m => e t (List.mem_cons_of_mem _ m))
theorem ok_Schema_told (T : Txt K mg A) : ∃ fd, FnOk P w K mg base CX0 1 A.f_Schema_told fd ["self"] (sp_Schema_told K A) ∧ Binds K fd ["self"] [] := by
  have ⟨fd, F, b⟩ := T.d_Schema_told
  refine ⟨fd, F.ok sc_Schema_told (fun vs H Q E h => ?_) (fun cdv Ar outer s H vs Q E hr h => ?_), b⟩
  · obtain ⟨F0, v, ts, os, rfl, _⟩ := h
    rfl
  · obtain ⟨F0, v, ts, os, rfl, sm, hs, k⟩ := h
    have nd := sc_Schema_told.nd
    have hu := hu_of hr
    refine ⟨_, (pss_one (ps_ret (pe_tup (pa_cons (ZT.pe_tupItems rfl (pe_fld (pv 0) rfl) (by rfl) T.b_tuple) (pa_cons (pe_fld (pv 0) rfl) pa_nil))))), ?_⟩
    simp only [cxOf, Cx.nox, L2.start, List.map_cons, List.map_nil, List.length_cons, List.length_nil, Nat.reduceAdd, Nat.reduceSub, List.replicate, List.cons_append, List.nil_append]
    obtain ⟨x, dx, d, kvs, ko, rfl, hx, hd, kv, hk, tk, ok⟩ := hs
    have hx' := sm _ _ hx
    have hd' := sm _ _ hd
    walk_at "z"
    refine tupItems ?_
    walk_at "z"
    refine ⟨d, kvs, rfl, hd', fun H1 p as s hp has hoff hp1 hpair => ?_⟩
    obtain ⟨F1, W1, s1, e1⟩ := (Z.Ws.init sm).many s has
    have hts := kv_tabs kv hpair s1 e1
    have W2 := W1.dat (o := .tup (as.map V.ref)) hp1
    have s2 := Z.same_new (o := .tup (as.map V.ref)) (W1.freeF hp1)
    have g2 : Dp K (upd F1 p (.tup (as.map V.ref))) (.ref p) (.tuple (ts.map tabTD)) := .tup (SqT.of upd_same) (Z.dpa_same s2 hts)
    generalize upd H1 p (.tup (as.map V.ref)) = H2 at W2 ⊢
    generalize upd F1 p (.tup (as.map V.ref)) = F2 at W2 g2 s2
    have hx2 := W2.same _ _ hx'
    walk_at "z"
    refine Z.tupD (K := K) W2 (.cons g2 (.cons (Z.dp_same (s1.trans s2) hk) .nil)) fun r F3 H3 W3 s3 hr => ?_
    exact k F3 H3 r W3.g hr

/-! ### the law's schema -/
def tabD (t : Tab) : PyData := .tuple [.str t.1, .list (t.2.map pairD)]
def ValD (kd : Str) (d : PyData) : Prop := (kd = "word" ∧ ∃ z, d = .str z ∧ Name z) ∨ (kd = "number" ∧ ∃ i, d = .int i ∧ -(10 ^ 9) ≤ i ∧ i ≤ 10 ^ 9)
def sp_law_value (K : PySem.W.Frag) (A : Adr) : Sp := fun vs H Q _ => ∃ (F : Hp) (kd : Str) (c : Int), vs = [.str kd, .int c] ∧ Same F H ∧ Kind kd ∧ 0 ≤ c ∧ ∀ F' H' v d, Z.Gr F H F' H' → Dp K F' v d → ValD kd d → Q v H'
theorem ok_law_value (T : Txt K mg A) : ∃ fd, FnOk P w K mg base CX0 3 A.f_law_value fd ["_law_kind", "_law_draw"] (sp_law_value K A) ∧ Binds K fd ["_law_kind", "_law_draw"] [] := by
  have ⟨fd, F, b⟩ := T.d_law_value
  refine ⟨fd, F.ok sc_law_value (fun vs H Q E h => ?_) (fun cdv Ar outer s H vs Q E hr h => ?_), b⟩
  · obtain ⟨F0, kd, c, rfl, _⟩ := h
    rfl
  · obtain ⟨F0, kd, c, rfl, sm, hk, hc, k⟩ := h
    have nd := sc_law_value.nd
    have hu := hu_of hr
    have ⟨fd_law_names, G_law_names, b_law_names⟩ := ok_law_names (P := P) (w := w) (base := base) T
    refine ⟨_, (pss_cons (ps_if (pt_cmpR op_eq (pv 0) pe_str (nomark _)) (pss_one (ps_ret (pe_ix ix_list (pe_call G_law_names (hr.mono (by decide)) (by rfl) T.g_law_names T.d_law_names.kp b_law_names .nil pass0 (pa_cons (pe_op op_fdivW (pv 1) pe_int) (pa_cons (pe_op op_add pe_int (pe_op op_mod (pv 1) pe_int)) pa_nil))) (pe_op op_mod (pv 1) pe_int) (fun _ _ => rfl)))) pss_nil)
      (pss_cons (ps_set (i := 2) nd rfl (Or.inl rfl) (pe_ix ix_list (pe_lst (pa_cons (pe_op op_mod (pv 1) pe_int) (pa_cons (pe_op op_mod (pv 1) (pe_op op_add (pe_op op_pow pe_int pe_int) pe_int)) (pa_cons (pe_op op_sub (pe_op op_pow pe_int pe_int) (pe_op op_mod (pv 1) pe_int)) pa_nil)))) (pe_op op_mod (pe_op op_fdivW (pv 1) pe_int) pe_int) (fun _ _ => rfl)))
      (pss_one (ps_ret (pe_op op_mul (pv 2) (pe_ix ix_list (pe_lst (pa_cons pe_int (pa_cons (pe_un un_neg pe_int) pa_nil))) (pe_op op_mod (pe_op op_fdivW (pv 1) pe_int) pe_int) (fun _ _ => rfl))))))), ?_⟩
    simp only [cxOf, Cx.nox, L2.start, List.map_cons, List.map_nil, List.length_cons, List.length_nil, Nat.reduceAdd, Nat.reduceSub, List.replicate, List.cons_append, List.nil_append]
    rcases hk with rfl | rfl
    · walk_at "z"
      refine ⟨by simp only [List.length_cons, List.length_nil]; decide, fun p1 hp1 => ?_⟩
      walk_at "z"
      refine Z.ixAll (G := fun v => ∃ k, v = .int k ∧ 0 ≤ k ∧ k ≤ 10 ^ 9) (SqL.of upd_same) (by omega) (by simp only [List.length_cons, List.length_nil]; omega) (fun v hv => ?_) (fun v ⟨s, e, hs0, hs1⟩ _ => ?_)
      · simp only [List.mem_cons, List.not_mem_nil, or_false] at hv
        rcases hv with h | h | h
        · exact ⟨_, h, by omega, by omega⟩
        · refine ⟨_, h, Int.emod_nonneg _ (by decide), ?_⟩
          have := Int.emod_lt_of_pos c (show (0 : Int) < 10 ^ Int.toNat 9 + 1 by decide)
          have e9 : (10 : Int) ^ Int.toNat 9 = 10 ^ 9 := rfl
          omega
        · have e9 : (10 : Int) ^ Int.toNat 9 = 10 ^ 9 := rfl
          exact ⟨_, h, by omega, by omega⟩
      subst e
      walk_at "z"
      refine ⟨_, rfl, ?_⟩
      walk_at "z"
      refine ⟨by simp only [List.length_cons, List.length_nil]; decide, fun p2 hp2 => ?_⟩
      walk_at "z"
      refine Z.ixAll (G := fun v => ∃ k, v = .int k ∧ (k = 1 ∨ k = -1)) (SqL.of upd_same) (by omega) (by simp only [List.length_cons, List.length_nil]; omega) (fun v hv => ?_) (fun v ⟨t, e, ht⟩ _ => ?_)
      · simp only [List.mem_cons, List.not_mem_nil, or_false] at hv
        rcases hv with h | h
        · exact ⟨_, h, .inl rfl⟩
        · exact ⟨_, h, .inr rfl⟩
      subst e
      walk_at "z"
      have W := ((Z.Ws.init sm).exts (Z.same_new (o := .lst [.int (c % 5), .int (c % (10 ^ Int.toNat 9 + 1)), .int (10 ^ Int.toNat 9 - c % 3)]) hp1)).exts (Z.same_new (o := .lst [.int 1, .int (-1)]) hp2)
      rcases ht with rfl | rfl
      · exact k _ _ _ _ W.g (.int _) (.inr ⟨rfl, _, rfl, by omega, by omega⟩)
      · exact k _ _ _ _ W.g (.int _) (.inr ⟨rfl, _, rfl, by omega, by omega⟩)
    · walk_at "z"
      obtain ⟨m, hm, m3⟩ : ∃ m : Nat, c % 3 = (m : Int) ∧ m < 3 := ⟨(c % 3).toNat, by omega, by omega⟩
      rw [hm]
      refine ⟨F0, c / 3, 1 + m, rfl, sm, by omega, fun F1 H1 v zs hl hz nd g hv => ?_⟩
      have g0 : zs[m]? = some (zs[m]'(by omega)) := List.getElem?_eq_getElem _
      walk_at "z"
      rw [hm]
      refine Z.ixD hv g.fh m (d := .str (zs[m]'(by omega))) (by rw [List.getElem?_map, g0]; rfl) fun w hw => ?_
      walk_at "z"
      exact k _ _ _ _ g hw (.inl ⟨rfl, _, rfl, hz _ (List.mem_of_getElem? g0)⟩)
def somePairs (ts : List Tab) : List (Str × Str) := ts.flatMap fun t => (t.2.drop 1).map fun c => (t.1, c.1)
theorem some_mem {ts : List Tab} {o : Str × Str} (h : o ∈ somePairs ts) : ∃ t ∈ ts, t.1 = o.1 ∧ ∃ c ∈ t.2.drop 1, c.1 = o.2 := by
  obtain ⟨t, ht, m⟩ := List.mem_flatMap.mp h
  obtain ⟨c, hc, rfl⟩ := List.mem_map.mp m
  exact ⟨t, ht, rfl, c, hc, rfl⟩
theorem some_nodup : ∀ {ts : List Tab}, (ts.map (·.1)).Nodup → (∀ t ∈ ts, (t.2.map (·.1)).Nodup) → (somePairs ts).Nodup
  | [], _, _ => List.nodup_nil
  | t :: r, nd, h => by
    rw [List.map_cons, List.nodup_cons] at nd
    show (((t.2.drop 1).map fun c => (t.1, c.1)) ++ somePairs r).Nodup
    rw [List.nodup_append]
    refine ⟨?_, some_nodup nd.2 fun x hx => h x (List.mem_cons_of_mem _ hx), fun a ha b hb e => ?_⟩
    · have n1 : ((t.2.drop 1).map (·.1)).Nodup := by
        have := h t List.mem_cons_self
        rw [← List.take_append_drop 1 t.2, List.map_append, List.nodup_append] at this
        exact this.2.1
      rw [List.nodup_iff_pairwise_ne, List.pairwise_map] at n1 ⊢
      exact n1.imp fun h e => h (Prod.ext_iff.mp e).2
    · subst e
      obtain ⟨c, hc, rfl⟩ := List.mem_map.mp ha
      obtain ⟨t', ht', e1, _⟩ := some_mem hb
      exact nd.1 (List.mem_map.mpr ⟨t', ht', e1⟩)
theorem some_snoc (ts : List Tab) (t : Tab) : somePairs (ts ++ [t]) = somePairs ts ++ (t.2.drop 1).map fun c => (t.1, c.1) := by simp [somePairs]
theorem erase_map {α β : Type} {f : α → β} : ∀ {l : List α} {i : Nat}, (l.map f).eraseIdx i = (l.eraseIdx i).map f
  | [], _ => rfl
  | _ :: _, 0 => rfl
  | a :: r, i + 1 => congrArg (f a :: ·) (erase_map (l := r) (i := i))
theorem erase_perm {α : Type} {x : α} : ∀ {l : List α} {i : Nat}, l[i]? = some x → ([x] ++ l.eraseIdx i).Perm l
  | [], _, h => by simp at h
  | _ :: _, 0, h => by cases h; exact List.Perm.refl _
  | a :: r, i + 1, h => ((List.Perm.swap a x _).trans (List.Perm.cons a (erase_perm (l := r) (i := i) (by simpa using h))))
theorem some_len : ∀ ts : List Tab, (∀ t ∈ ts, ColsOk t.2) → (somePairs ts).length ≤ 4 * ts.length
  | [], _ => Nat.le_refl _
  | t :: r, h => by
    have := some_len r fun x hx => h x (List.mem_cons_of_mem _ hx)
    have h4 := (h t List.mem_cons_self).hi
    show (((t.2.drop 1).map fun c => (t.1, c.1)) ++ somePairs r).length ≤ _
    rw [List.length_append, List.length_map, List.length_drop, List.length_cons]
    omega
theorem eqv_nil (os : List (Str × Str)) : PyData.eqv (.list (os.map pairD)) (.list []) = decide (os = []) := by
  cases os with
  | nil => simp [PyData.eqv, PyData.eqvAll]
  | cons o r => simp [PyData.eqv, PyData.eqvAll]
def sp_law_schema (K : PySem.W.Frag) (A : Adr) : Sp := fun vs H Q _ => ∃ (F : Hp) (c : Int), vs = [.int c] ∧ Same F H ∧ ∀ F' H' r ts os, TabsOk ts → OrdsOk ts os → Z.Gr F H F' H' → Dp K F' r (.tuple [.list (ts.map tabD), .list (os.map pairD)]) → Q r H'
theorem ok_law_schema (T : Txt K mg A) : ∃ fd, FnOk P w K mg base CX0 3 A.f_law_schema fd ["_law_cell_here"] (sp_law_schema K A) ∧ Binds K fd ["_law_cell_here"] [] := by
  have ⟨fd, F, b⟩ := T.d_law_schema
  refine ⟨fd, F.ok sc_law_schema (fun vs H Q E h => ?_) (fun cdv Ar outer s H vs Q E hr h => ?_), b⟩
  · obtain ⟨F0, c, rfl, _⟩ := h
    rfl
  · obtain ⟨F0, c, rfl, sm, k⟩ := h
    have nd := sc_law_schema.nd
    have hu := hu_of hr
    have ⟨fd_law_draws, G_law_draws, b_law_draws⟩ := ok_law_draws (P := P) (w := w) (base := base) T
    have ⟨fd_law_names, G_law_names, b_law_names⟩ := ok_law_names (P := P) (w := w) (base := base) T
    refine ⟨_, (pss_cons (ps_set (i := 1) nd rfl (Or.inl rfl) (pe_call G_law_draws (hr.mono (by decide)) (by rfl) T.g_law_draws T.d_law_draws.kp b_law_draws .nil pass0 (pa_cons (pv 0) (pa_cons pe_int pa_nil))))
      (pss_cons (ps_set (i := 2) nd rfl (Or.inl rfl) (pe_lst pa_nil))
      (pss_cons (ps_set (i := 3) nd rfl (Or.inl rfl) (pe_lst pa_nil))
      (pss_cons (ps_for PassesOwn.never rfl (pi_enum (by rfl) T.b_enumerate (pa_cons (pe_call G_law_names (hr.mono (by decide)) (by rfl) T.g_law_names T.d_law_names.kp b_law_names .nil pass0 (pa_cons (pe_ix ix_list (pv 1) pe_int (fun _ _ => rfl)) (pa_cons (pe_op op_add pe_int (pe_op op_mod (pe_ix ix_list (pv 1) pe_int (fun _ _ => rfl)) pe_int)) pa_nil))) pa_nil)) (pg_tup rfl (pgs_cons (pg_name (i := 4) nd rfl (Or.inl rfl)) (pgs_cons (pg_name (i := 5) nd rfl (Or.inr rfl)) pgs_nil))) (pss_cons (ps_set (i := 6) nd rfl (Or.inl rfl) (pe_lst pa_nil))
      (pss_cons (ps_set (i := 7) nd rfl (Or.inl rfl) (pe_call G_law_names (hr.mono (by decide)) (by rfl) T.g_law_names T.d_law_names.kp b_law_names .nil pass0 (pa_cons (pe_ix ix_list (pv 1) (pe_op op_add pe_int (pv 4)) (fun _ _ => rfl)) (pa_cons (pe_op op_add pe_int (pe_op op_mod (pe_ix ix_list (pv 1) (pe_op op_add pe_int (pv 4)) (fun _ _ => rfl)) pe_int)) pa_nil))))
      (pss_cons (ps_for PassesOwn.never rfl (pi_enum (by rfl) T.b_enumerate (pa_cons (pv 7) pa_nil)) (pg_tup rfl (pgs_cons (pg_name (i := 8) nd rfl (Or.inl rfl)) (pgs_cons (pg_name (i := 9) nd rfl (Or.inl rfl)) pgs_nil))) (pss_one (ps_expr (pe_bm PySem.F.plainAttrs_list PySem.F.slot_list_append PySem.F.type_list_append mt_append (pv 6) (pa_cons (pe_tup (pa_cons (pv 9) (pa_cons (pe_ix ix_list (pe_lst (pa_cons pe_str (pa_cons pe_str pa_nil))) (pe_op op_mod (pe_ix ix_list (pv 1) (pe_op op_add (pe_op op_add pe_int (pe_op op_mul pe_int (pv 4))) (pv 8)) (fun _ _ => rfl)) pe_int) (fun _ _ => rfl)) pa_nil))) pa_nil)))))
      (pss_cons (ps_expr (pe_bm PySem.F.plainAttrs_list PySem.F.slot_list_append PySem.F.type_list_append mt_append (pv 2) (pa_cons (pe_tup (pa_cons (pv 5) (pa_cons (pv 6) pa_nil))) pa_nil)))
      (pss_one (ps_expr (pe_bm PySem.F.plainAttrs_list PySem.F.slot_list_extend PySem.F.type_list_extend mt_extend (pv 3) (pa_cons (pe_lc (own := [("_law_column", 9)]) rfl nd (pi_list (pe_slice sl_list (pv 7) (po_some pe_int) po_none)) (blkOk_by (own := [("_law_column", 9)]) (N := ["_law_cell_here", "_law_draws_here", "_law_tables", "_law_some", "_law_k", "_law_name", "_law_columns", "_law_names_here", "_law_j", "_law_column", "_law_orders"]) (sc := defScope s_law_schema) (by decide +kernel)) (fun _ _ _ _ _ => pg_name (i := 9) nd rfl (Or.inl rfl)) (fun _ _ _ _ _ => pts_nil) (fun _ _ _ _ _ => (pe_tup (pa_cons (pv 5) (pa_cons (pv 9) pa_nil))))) pa_nil)))))))))
      (pss_cons (ps_set (i := 10) nd rfl (Or.inl rfl) (pe_lst pa_nil))
      (pss_cons (ps_for PassesOwn.never rfl (pi_range1 rfl T.b_range (pa_cons pe_int pa_nil)) (pg_name (i := 4) nd rfl (Or.inl rfl)) (pss_one (ps_if (PW.pt (pw_and (pt_cmpR (op_neD hr.units) (pv 3) (pe_lst pa_nil) (nomark _)) (pw_and1 (pt_cmpR op_gt (pe_op op_mod (pe_ix ix_list (pv 1) (pe_op op_add pe_int (pv 4)) (fun _ _ => rfl)) pe_int) pe_int (nomark _))))) (pss_one (ps_expr (pe_bm PySem.F.plainAttrs_list PySem.F.slot_list_append PySem.F.type_list_append mt_append (pv 10) (pa_cons (pe_bm PySem.F.plainAttrs_list PySem.F.slot_list_pop PySem.F.type_list_pop mt_popAt (pv 3) (pa_cons (pe_op op_mod (pe_op op_fdivW (pe_ix ix_list (pv 1) (pe_op op_add pe_int (pv 4)) (fun _ _ => rfl)) pe_int) (pe_callB call_len_seq (by rfl) T.b_len PySem.boot_len (pa_cons (pv 3) pa_nil))) pa_nil)) pa_nil)))) pss_nil)))
      (pss_one (ps_ret (pe_tup (pa_cons (pv 2) (pa_cons (pv 10) pa_nil))))))))))), ?_⟩
    simp only [cxOf, Cx.nox, L2.start, List.map_cons, List.map_nil, List.length_cons, List.length_nil, Nat.reduceAdd, Nat.reduceSub, List.replicate, List.cons_append, List.nil_append]
    walk_at "z"
    refine ⟨F0, c, 30, rfl, sm, by decide, fun F1 H1 dv xs hxl pos g1 hdv => ?_⟩
    have W1 := (Z.Ws.init sm).ext g1
    have dr : ∀ i : Nat, i < 30 → ∃ y : Int, 0 ≤ y ∧ (xs.map PyData.int)[i]? = some (.int y) := fun i hi => by
      have e := List.getElem?_eq_getElem (l := xs) (i := i) (by omega)
      exact ⟨xs[i], (pos _ (List.getElem_mem _)).1, by rw [List.getElem?_map, e]; rfl⟩
    walk_at "z"
    refine ⟨by simp only [List.length_cons, List.length_nil]; decide, fun qt hqt => ?_⟩
    have W2 := W1.new (o := .lst []) hqt
    generalize upd H1 qt (.lst []) = H2 at W2 ⊢
    walk_at "z"
    refine ⟨by simp only [List.length_cons, List.length_nil]; decide, fun qs hqs => ?_⟩
    have W3 := W2.new (o := .lst []) hqs
    generalize upd H2 qs (.lst []) = H3 at W3 ⊢
    walk_at "z"
    refine Z.forE ?_
    walk_at "z"
    obtain ⟨y0, y00, ey0⟩ := dr 0 (by decide)
    obtain ⟨y1, y10, ey1⟩ := dr 1 (by decide)
    refine Z.ixD hdv W3.fh 0 ey0 fun w hw => ?_
    cases Z.dp_int hw
    walk_at "z"
    refine Z.ixD hdv W3.fh 1 ey1 fun w hw => ?_
    cases Z.dp_int hw
    walk_at "z"
    obtain ⟨n, hn, hn1, hn4⟩ : ∃ n : Nat, (1 : Int) + y1 % 4 = (n : Int) ∧ 1 ≤ n ∧ n ≤ 4 := ⟨((1 : Int) + y1 % 4).toNat, by omega, by omega, by omega⟩
    rw [hn]
    refine ⟨F1, y0, n, rfl, W3.fh, by omega, fun F4 H4 nv nms hnl hnm hnd g4 hnv => ?_⟩
    have W4 := W3.ext g4
    have hdv4 := Z.dp_same g4.f hdv
    obtain ⟨na, nx, rfl, hna, hnx⟩ := Z.dp_lst hnv
    cases Z.dpa_strs hnx
    walk_at "z"
    refine ⟨na, _, rfl, W4.fh.seq hna, ?_⟩
    refine for_it walk_enum (fun i σ H' => (∃ v4 v5 v6 v7 v8 v9 v10, σ = [some (.int c), some dv, some (.ref qt), some (.ref qs), v4, v5, v6, v7, v8, v9, v10]) ∧ ∃ F' vt vs ts, Z.Ws [(qs, .lst vs), (qt, .lst vt)] F0 H F' H' ∧ Same F4 F' ∧ DpAll K F' vt (ts.map tabD) ∧ DpAll K F' vs ((somePairs ts).map pairD) ∧ ts.map (·.1) = nms.take i ∧ (∀ t ∈ ts, ColsOk t.2))
      ⟨⟨_, _, _, _, _, _, _, rfl⟩, F4, [], [], [], W4, Same.refl _, .nil, .nil, rfl, fun t h => nomatch h⟩ (fun i σ H' hi ⟨_, F', _, _, _, W, s, _⟩ => (s.trans W.fh).seq hna) ?_ ?_
    · rintro i x σ H5 H6 hi ⟨⟨v4, v5, v6, v7, v8, v9, v10, rfl⟩, F5, vt, vs, ts, W, s5, ht, hs, hts, hcs⟩ ⟨T, x1, x2, rfl, hT, rfl, e1, e2⟩
      cases e1
      rw [List.length_map] at hi
      have e2 : (nms.map V.str)[i]? = some x2 := e2
      rw [List.getElem?_map] at e2
      obtain ⟨nm, hnm', rfl⟩ := Option.map_eq_some_iff.mp e2
      have W5 := W.exts (Z.same_new (o := .tup [.int (i : Nat), .str nm]) hT)
      have gT : upd H5 T (.tup [.int (i : Nat), .str nm]) T = _ := upd_same
      generalize upd H5 T (.tup [.int (i : Nat), .str nm]) = H6 at W5 gT ⊢
      refine ⟨T, _, rfl, SqT.of gT, rfl, ?_⟩
      walk_at "z"
      refine ⟨by simp only [List.length_cons, List.length_nil]; decide, fun qc hqc => ?_⟩
      have W6 := W5.new (o := .lst []) hqc
      generalize upd H6 qc (.lst []) = H7 at W6 ⊢
      have hdv5 := Z.dp_same s5 hdv4
      walk_at "z"
      obtain ⟨y2, y20, ey2⟩ := dr (2 + i) (by omega)
      obtain ⟨y6, y60, ey6⟩ := dr (6 + i) (by omega)
      rw [show (2 : Int) + (i : Int) = ((2 + i : Nat) : Int) by omega]
      refine Z.ixD hdv5 W6.fh (2 + i) ey2 fun w hw => ?_
      cases Z.dp_int hw
      walk_at "z"
      rw [show (6 : Int) + (i : Int) = ((6 + i : Nat) : Int) by omega]
      refine Z.ixD hdv5 W6.fh (6 + i) ey6 fun w hw => ?_
      cases Z.dp_int hw
      walk_at "z"
      obtain ⟨m, hm, hm1, hm4⟩ : ∃ n : Nat, (1 : Int) + y6 % 4 = (n : Int) ∧ 1 ≤ n ∧ n ≤ 4 := ⟨((1 : Int) + y6 % 4).toNat, by omega, by omega, by omega⟩
      rw [hm]
      refine ⟨F5, y2, m, rfl, W6.fh, by omega, fun F8 H8 cv cns hcl hcn hcd g8 hcv => ?_⟩
      have W8 := W6.ext g8
      have hdv8 := Z.dp_same g8.f hdv5
      have hcv0 := hcv
      obtain ⟨ca, cx, rfl, hca, hcx⟩ := Z.dp_lst hcv
      cases Z.dpa_strs hcx
      walk_at "z"
      refine Z.forE ?_
      walk_at "z"
      refine ⟨ca, _, rfl, W8.fh.seq hca, ?_⟩
      refine for_it walk_enum (fun j σ H' => (∃ v8 v9, σ = [some (.int c), some dv, some (.ref qt), some (.ref qs), some (.int (i : Nat)), some (.str nm), some (.ref qc), some (.ref ca), v8, v9, v10]) ∧ ∃ F' vc cs, Z.Ws [(qc, .lst vc), (qs, .lst vs), (qt, .lst vt)] F0 H F' H' ∧ Same F8 F' ∧ DpAll K F' vc (cs.map pairD) ∧ cs.map (·.1) = cns.take j ∧ (∀ c ∈ cs, Kind c.2))
        ⟨⟨_, _, rfl⟩, F8, [], [], W8, Same.refl _, .nil, rfl, fun t h => nomatch h⟩ (fun i σ H' hi ⟨_, F', _, _, W, s, _⟩ => (s.trans W.fh).seq hca) ?_ ?_
      · rintro j x σ H9 H10 hj ⟨⟨v8, v9, rfl⟩, F9, vc, cs, W9, s9, hc9, hcs9, hk9⟩ ⟨T2, x1, x2, rfl, hT2, rfl, e1, e2⟩
        cases e1
        rw [List.length_map] at hj
        have e2 : (cns.map V.str)[j]? = some x2 := e2
        rw [List.getElem?_map] at e2
        obtain ⟨cn, hcn', rfl⟩ := Option.map_eq_some_iff.mp e2
        have W10 := W9.exts (Z.same_new (o := .tup [.int (j : Nat), .str cn]) hT2)
        have gT2 : upd H9 T2 (.tup [.int (j : Nat), .str cn]) T2 = _ := upd_same
        generalize upd H9 T2 (.tup [.int (j : Nat), .str cn]) = H10 at W10 gT2 ⊢
        refine ⟨T2, _, rfl, SqT.of gT2, rfl, ?_⟩
        walk_at "z"
        refine ⟨.inl ⟨rfl, _, SqL.of (W10.at 0 rfl)⟩, ?_⟩
        walk_at "z"
        refine ⟨by simp only [List.length_cons, List.length_nil]; decide, fun p hp => ?_⟩
        have W11 := W10.exts (Z.same_new (o := .lst [.str "number", .str "word"]) hp)
        have gp : upd H10 p (.lst [.str "number", .str "word"]) p = _ := upd_same
        generalize upd H10 p (.lst [.str "number", .str "word"]) = H11 at W11 gp ⊢
        have hdv9 := Z.dp_same s9 hdv8
        walk_at "z"
        obtain ⟨yk, yk0, eyk⟩ := dr (10 + 4 * i + j) (by omega)
        rw [show (10 : Int) + 4 * (i : Int) + (j : Int) = ((10 + 4 * i + j : Nat) : Int) by omega]
        refine Z.ixD hdv9 W11.fh (10 + 4 * i + j) eyk fun w hw => ?_
        cases Z.dp_int hw
        walk_at "z"
        refine Z.ixAll (G := fun v => ∃ kd, v = .str kd ∧ Kind kd) (SqL.of gp) (by omega) (by simp only [List.length_cons, List.length_nil]; omega) (fun v hv => ?_) (fun v ⟨kd, e, hkd⟩ _ => ?_)
        · simp only [List.mem_cons, List.not_mem_nil, or_false] at hv
          rcases hv with rfl | rfl
          · exact ⟨_, rfl, .inl rfl⟩
          · exact ⟨_, rfl, .inr rfl⟩
        subst e
        walk_at "z"
        refine Z.tupD (K := K) W11 (.cons (.str cn) (.cons (.str kd) .nil)) fun r F12 H12 W12 s12 hr => ?_
        walk_at "z"
        have hvl := Z.dpa_len hc9
        rw [List.length_map, ← List.length_map (f := fun c : Col => c.1), hcs9, List.length_take] at hvl
        refine Z.appW W12 0 rfl (fun H13 W13 => ?_) (by omega)
        walk_at "z"
        refine ⟨⟨_, _, rfl⟩, F12, _, cs ++ [(cn, kd)], W13, s9.trans s12, ?_, ?_, ?_⟩
        · rw [List.map_append]
          exact Z.dpa_snoc (Z.dpa_same s12 hc9) hr
        · rw [List.map_append, hcs9, List.take_add_one, hcn']
          rfl
        · intro c hc
          rcases List.mem_append.mp hc with h | h
          · exact hk9 c h
          · rw [List.mem_singleton.mp h]; exact hkd
      · rintro σ H9 ⟨⟨v8, v9, rfl⟩, F9, vc, cs, W9, s9, hc9, hcs9, hk9⟩
        rw [List.length_map, List.take_length] at hcs9
        have hcsl : cs.length = m := by rw [← hcl, ← hcs9, List.length_map]
        have cok : ColsOk cs := ⟨by omega, by omega, fun c hc => ⟨hcn _ (by rw [← hcs9]; exact List.mem_map.mpr ⟨c, hc, rfl⟩), hk9 c hc⟩, by rw [hcs9]; exact hcd⟩
        walk_at "z"
        refine ⟨.inl ⟨rfl, _, SqL.of (W9.at 2 rfl)⟩, ?_⟩
        walk_at "z"
        obtain ⟨F10, W10, s10, g10⟩ := W9.frz 0 rfl
        refine Z.tupD (K := K) W10 (.cons (.str nm) (.cons (.lst (SqL.of g10) (Z.dpa_same s10 hc9)) .nil)) fun r F11 H11 W11 s11 hr => ?_
        walk_at "z"
        have s511 : Same F5 F11 := g8.f.trans (s9.trans (s10.trans s11))
        have htl := Z.dpa_len ht
        rw [List.length_map, ← List.length_map (f := fun t : Tab => t.1), hts, List.length_take] at htl
        refine Z.appW W11 1 rfl (fun H12 W12 => ?_) (by omega)
        walk_at "z"
        refine ⟨.inl ⟨rfl, _, SqL.of (W12.at 0 rfl)⟩, ?_⟩
        walk_at "z"
        refine Z.slD W12 (Z.dp_same (s9.trans (s10.trans s11)) hcv0) fun r2 F13 H13 W13 s13 hr2 => ?_
        rw [show Z.cutD (cns.map PyData.str) (some 1) none = (cns.map PyData.str).drop 1 from cutD_tail _ 1, ← List.map_drop] at hr2
        obtain ⟨ra, rx, rfl, hr3, hr4⟩ := Z.dp_lst hr2
        cases Z.dpa_strs hr4
        refine ⟨ra, rfl, ⟨_, W13.fh.seq hr3⟩, fun D hD => ?_⟩
        refine lc_it walk_list (Z.LcP K D _ F0 H F13 ((cns.drop 1).map fun z => pairD (nm, z))) (Z.lc0 W13 hD) (fun i H' hi ⟨F', vs, W, s, _⟩ => (s.trans W.fh).seq hr3) ?_ ?_
        · rintro l x H14 H15 hl ⟨F14, ws, W14, s14, ha⟩ ⟨rfl, hx⟩
          rw [List.getElem?_map] at hx
          obtain ⟨z, hz, rfl⟩ := Option.map_eq_some_iff.mp hx
          refine ⟨rfl, ?_⟩
          walk_at "z"
          refine Z.tupD (K := K) W14 (.cons (.str nm) (.cons (.str z) .nil)) fun r3 F15 H15 W15 s15 hr5 => ?_
          exact Z.lcS W15 (s14.trans s15) (Z.dpa_same s15 ha) (by rw [List.getElem?_map, hz]; rfl) hr5 (by rw [List.length_map, List.length_drop]; omega)
        · rintro H14 ⟨F14, ws, W14, s14, ha⟩
          have ea : DpAll K F14 ws (((cs.drop 1).map fun c => (nm, c.1)).map pairD) := by
            rw [List.length_map, List.take_of_length_le (by simp), ← hcs9] at ha
            rw [List.map_map]
            rw [← List.map_drop, List.map_map] at ha
            exact ha
          have hvsl := Z.dpa_len hs
          have hwl := Z.dpa_len ea
          have sml : (somePairs ts).length ≤ 100 := by
            have h1 := some_len ts hcs
            have h2 : ts.length ≤ 4 := by rw [← List.length_map (f := fun t : Tab => t.1), hts, List.length_take]; omega
            omega
          rw [List.length_map] at hvsl
          rw [List.length_map, List.length_map, List.length_drop] at hwl
          walk_at "z"
          refine ⟨qs, D, _, _, rfl, rfl, W14.at 1 rfl, W14.at 0 rfl, Nat.le_trans (show vs.length + ws.length ≤ 1000 by omega) (by decide), ?_⟩
          walk_at "z"
          have W15 := W14.set 1 rfl (.lst (vs ++ ws))
          refine ⟨⟨_, _, _, _, _, _, _, rfl⟩, F14, _, _, ts ++ [(nm, cs)], W15.pick [1, 2] (by decide) rfl, s5.trans (s511.trans (s13.trans s14)), ?_, ?_, ?_, ?_⟩
          · rw [List.map_append]
            exact Z.dpa_snoc (Z.dpa_same (s511.trans (s13.trans s14)) ht) (Z.dp_same (s13.trans s14) hr)
          · rw [some_snoc, List.map_append]
            exact Z.dpa_app (Z.dpa_same (s511.trans (s13.trans s14)) hs) ea
          · rw [List.map_append, hts, List.take_add_one, hnm']
            rfl
          · intro t ht
            rcases List.mem_append.mp ht with h | h
            · exact hcs t h
            · rw [List.mem_singleton.mp h]; exact cok
    · rintro σ H5 ⟨⟨v4, v5, v6, v7, v8, v9, v10, rfl⟩, F5, vt, vs, ts, W, s5, ht, hs, hts, hcs⟩
      rw [List.length_map, List.take_length] at hts
      have htl : ts.length = n := by rw [← hnl, ← hts, List.length_map]
      have tok : TabsOk ts := ⟨by omega, by omega, fun t ht => ⟨hnm _ (by rw [← hts]; exact List.mem_map.mpr ⟨t, ht, rfl⟩), hcs t ht⟩, by rw [hts]; exact hnd⟩
      have snd := some_nodup (ts := ts) tok.nd (fun t ht => (hcs t ht).nd)
      have spk : ∀ o ∈ somePairs ts, PairOk o := fun o ho => by
        obtain ⟨t, ht, e1, c, hc, e2⟩ := some_mem ho
        exact pairOk_of ⟨e1 ▸ (tok.nm t ht).1, e2 ▸ ((hcs t ht).nm c (List.mem_of_mem_drop hc)).1⟩
      have sml : (somePairs ts).length ≤ 100 := by
        have h1 := some_len ts hcs
        omega
      walk_at "z"
      refine ⟨by simp only [List.length_cons, List.length_nil]; decide, fun qo hqo => ?_⟩
      have W6 := W.new (o := .lst []) hqo
      generalize upd H5 qo (.lst []) = H6 at W6 ⊢
      walk_at "z"
      refine ⟨4, rfl, by decide, by decide, ?_⟩
      refine (for_range (lo := 0) (n := 4) (fun i σ H' => (∃ v4, σ = [some (.int c), some dv, some (.ref qt), some (.ref qs), v4, v5, v6, v7, v8, v9, some (.ref qo)]) ∧ ∃ F' vo vs os rest, Z.Ws [(qo, .lst vo), (qs, .lst vs), (qt, .lst vt)] F0 H F' H' ∧ Same F5 F' ∧ DpAll K F' vo (os.map pairD) ∧ DpAll K F' vs (rest.map pairD) ∧ (os ++ rest).Perm (somePairs ts) ∧ os.length ≤ i)
        ⟨⟨_, rfl⟩, F5, [], vs, [], somePairs ts, W6, Same.refl _, .nil, hs, List.Perm.refl _, Nat.le_refl _⟩ ?_ ?_)
      · rintro i σ H7 hi ⟨⟨v4, rfl⟩, F7, vo, vs7, os, rest, W7, s7, ho7, hs7, pm, hol⟩
        have hrl := pm.length_eq
        rw [List.length_append] at hrl
        have hv7 := Z.dpa_len hs7
        have hvo := Z.dpa_len ho7
        rw [List.length_map] at hv7 hvo
        have hdv7 := Z.dp_same (s5.trans s7) hdv4
        obtain ⟨yk, yk0, eyk⟩ := dr (26 + i) (by omega)
        walk_at "z"
        refine Z.lstD (K := K) W7 .nil fun r F8 H8 W8 s8 hr => ?_
        refine ⟨_, _, .lst (SqL.of (W8.at 1 rfl)) (Z.dpa_same (s8.trans W8.fh) hs7), Z.dp_same W8.fh hr, shaped_pairsL (fun o h => spk o (pm.subset (List.mem_append_right _ h))), shaped_pairsL (os := []) (fun o h => nomatch h), ?_⟩
        rw [eqv_nil]
        by_cases er : rest = []
        · rw [decide_eq_true er]
          walk_at "z"
          exact ⟨⟨_, rfl⟩, F8, vo, vs7, os, rest, W8, s7.trans s8, Z.dpa_same s8 ho7, Z.dpa_same s8 hs7, pm, by omega⟩
        · rw [decide_eq_false er]
          have hrp : 0 < rest.length := List.length_pos_iff.mpr er
          walk_at "z"
          rw [show (26 : Int) + (0 + (i : Int)) = ((26 + i : Nat) : Int) by omega]
          refine Z.ixD (Z.dp_same s8 hdv7) W8.fh (26 + i) eyk fun w hw => ?_
          cases Z.dp_int hw
          walk_at "z"
          refine Z.iteD (fun h1 => ?_) (fun h1 => ?_)
          · walk_at "z"
            refine ⟨.inl ⟨rfl, _, SqL.of (W8.at 0 rfl)⟩, ?_⟩
            walk_at "z"
            refine ⟨.inl ⟨rfl, _, SqL.of (W8.at 1 rfl)⟩, ?_⟩
            walk_at "z"
            rw [show (26 : Int) + (0 + (i : Int)) = ((26 + i : Nat) : Int) by omega]
            refine Z.ixD (Z.dp_same s8 hdv7) W8.fh (26 + i) eyk fun w hw => ?_
            cases Z.dp_int hw
            walk_at "z"
            refine Z.lenSeq (SqL.of (W8.at 1 rfl)) ?_
            walk_at "z"
            obtain ⟨kk, hkk, hklt⟩ : ∃ kk : Nat, yk / 3 % (vs7.length : Int) = (kk : Int) ∧ kk < vs7.length := ⟨(yk / 3 % (vs7.length : Int)).toNat, by have := Int.emod_nonneg (yk / 3) (show (vs7.length : Int) ≠ 0 by omega); omega, by have := Int.emod_lt_of_pos (yk / 3) (show (0 : Int) < vs7.length by omega); have := Int.emod_nonneg (yk / 3) (show (vs7.length : Int) ≠ 0 by omega); omega⟩
            rw [hkk]
            have evk : vs7[kk]? = some vs7[kk] := List.getElem?_eq_getElem hklt
            obtain ⟨d0, ed0, hd0⟩ := Z.dpa_ix (Z.dpa_same s8 hs7) evk
            rw [List.getElem?_map] at ed0
            obtain ⟨o, ho, rfl⟩ := Option.map_eq_some_iff.mp ed0
            refine ⟨qs, vs7, kk, kk, _, rfl, rfl, W8.at 1 rfl, by omega, by omega, (seqIndex_of (by omega) (by omega)).trans (by rw [Int.toNat_natCast]), evk, ?_⟩
            have W9 := W8.set 1 rfl (.lst (vs7.eraseIdx kk))
            generalize upd H8 qs (.lst (vs7.eraseIdx kk)) = H9 at W9 ⊢
            walk_at "z"
            refine Z.appW W9 0 rfl (fun H10 W10 => ?_) (by omega)
            walk_at "z"
            refine ⟨⟨_, rfl⟩, F8, _, _, os ++ [o], rest.eraseIdx kk, W10, s7.trans s8, ?_, ?_, ?_, by rw [List.length_append]; show os.length + 1 ≤ _; omega⟩
            · rw [List.map_append]
              exact Z.dpa_snoc (Z.dpa_same s8 ho7) hd0
            · have := Z.dpa_eraseIdx kk (Z.dpa_same s8 hs7)
              rw [erase_map] at this
              exact this
            · rw [List.append_assoc]
              exact (List.Perm.append_left os (erase_perm ho)).trans pm
          · walk_at "z"
            exact ⟨⟨_, rfl⟩, F8, vo, vs7, os, rest, W8, s7.trans s8, Z.dpa_same s8 ho7, Z.dpa_same s8 hs7, pm, by omega⟩
      · rintro σ H7 ⟨⟨v4, rfl⟩, F7, vo, vs7, os, rest, W7, s7, ho7, hs7, pm, hol⟩
        walk_at "z"
        obtain ⟨F8, W8, s8, g8⟩ := W7.frz 0 rfl
        obtain ⟨F9, W9, s9, g9⟩ := W8.frz 1 rfl
        refine Z.tupD (K := K) W9 (.cons (.lst (SqL.of g9) (Z.dpa_same (s7.trans (s8.trans s9)) ht)) (.cons (.lst (SqL.of (s9 _ _ g8)) (Z.dpa_same (s8.trans s9) ho7)) .nil)) fun r F10 H10 W10 s10 hr => ?_
        have nd : (os ++ rest).Nodup := pm.nodup_iff.mpr snd
        exact k F10 H10 r ts os tok ⟨by omega, fun o h => some_mem (pm.subset (List.mem_append_left _ h)), (List.nodup_append.mp nd).1⟩ W10.g hr

/-! ### schemas made of what is handed in -/
inductive HC (K : PySem.W.Frag) (F : Hp) : List V → List (Addr × HO) → List Tab → Prop
  | nil : HC K F [] [] []
  | cons {T c : Addr} {vs xs : List V} {cs : List (Addr × HO)} {t : Tab} {ts : List Tab} : F T = some (.tup [.str t.1, .ref c]) → DpAll K F vs (t.2.map pairD) → HC K F xs cs ts → HC K F (.ref T :: xs) ((c, .lst vs) :: cs) (t :: ts)
section
variable {K : PySem.W.Frag} {F F' H B : Hp} {A : Adr}
theorem HC.same (s : Same F F') : ∀ {xs : List V} {cs : List (Addr × HO)} {ts : List Tab}, HC K F xs cs ts → HC K F' xs cs ts
  | _, _, _, .nil => .nil
  | _, _, _, .cons h k r => .cons (s _ _ h) (Z.dpa_same s k) (r.same s)
theorem HC.snoc {T c : Addr} {vs : List V} {t : Tab} (h : F T = some (.tup [.str t.1, .ref c])) (k : DpAll K F vs (t.2.map pairD)) : ∀ {xs : List V} {cs : List (Addr × HO)} {ts : List Tab}, HC K F xs cs ts → HC K F (xs ++ [.ref T]) (cs ++ [(c, .lst vs)]) (ts ++ [t])
  | _, _, _, .nil => .cons h k .nil
  | _, _, _, .cons h' k' r => .cons h' k' (r.snoc h k)
theorem HC.len : ∀ {xs : List V} {cs : List (Addr × HO)} {ts : List Tab}, HC K F xs cs ts → xs.length = ts.length ∧ cs.length = ts.length
  | _, _, _, .nil => ⟨rfl, rfl⟩
  | _, _, _, .cons _ _ r => ⟨congrArg (· + 1) r.len.1, congrArg (· + 1) r.len.2⟩
theorem HC.hand (s : Same F H) : ∀ {xs : List V} {cs : List (Addr × HO)} {ts : List Tab}, HC K F xs cs ts → Z.Sees cs H → ∀ (i : Nat) (x : V) (t : Tab), xs[i]? = some x → ts[i]? = some t → ∃ (b : Addr) (w : V), x = .ref b ∧ SqT K H b [.str t.1, w] ∧ HandC K F H w t.2
  | _, _, _, .nil, _, i, x, t, hx, _ => by simp at hx
  | _, _, _, .cons h k r, se, 0, x, t, hx, ht => by
    cases hx; cases ht
    exact ⟨_, _, rfl, SqT.of (s _ _ h), .inl ⟨_, _, rfl, SqL.of (se _ _ List.mem_cons_self), k⟩⟩
  | _, _, _, .cons h k r, se, i + 1, x, t, hx, ht => r.hand s (fun p o m => se p o (List.mem_cons_of_mem _ m)) i x t (by simpa using hx) (by simpa using ht)
theorem handT_D {v : V} {ts : List Tab} (h : Dp K F v (.list (ts.map tabD))) (s : Same F H) : HandT K F H v ts := by
  obtain ⟨a, xs, rfl, h1, h2⟩ := Z.dp_lst h
  refine ⟨a, xs, rfl, .inl (s.seq h1), by rw [Z.dpa_len h2, List.length_map], fun i x t hx ht => ?_⟩
  obtain ⟨d, e1, e2⟩ := Z.dpa_ix h2 hx
  rw [List.getElem?_map, ht] at e1
  cases e1
  obtain ⟨b, ys, rfl, hb, hys⟩ := Z.dp_tup e2
  obtain ⟨x1, x2, rfl, hx1, hx2⟩ := Z.dpa2 hys
  cases Z.dp_str hx1
  obtain ⟨c, cs, rfl, hc, hcs⟩ := Z.dp_lst hx2
  exact ⟨b, _, rfl, Z.seqT s hb, .inl ⟨c, cs, rfl, s.seq hc, hcs⟩⟩
theorem handT_TD {v : V} {ts : List Tab} (h : Dp K F v (.tuple (ts.map tabTD))) (s : Same F H) : HandT K F H v ts := by
  obtain ⟨a, xs, rfl, h1, h2⟩ := Z.dp_tup h
  refine ⟨a, xs, rfl, .inr (Z.seqT s h1), by rw [Z.dpa_len h2, List.length_map], fun i x t hx ht => ?_⟩
  obtain ⟨d, e1, e2⟩ := Z.dpa_ix h2 hx
  rw [List.getElem?_map, ht] at e1
  cases e1
  obtain ⟨b, ys, rfl, hb, hys⟩ := Z.dp_tup e2
  obtain ⟨x1, x2, rfl, hx1, hx2⟩ := Z.dpa2 hys
  cases Z.dp_str hx1
  exact ⟨b, _, rfl, Z.seqT s hb, .inr hx2⟩
theorem isSch_frz {L : List (Addr × HO)} {F0 H0 : Hp} {x dx d : Addr} {kvs : List (Key × V)} {ko : V} {ts : List Tab} {os : List (Str × Str)} (W : Z.Ws ((x, .ins A.Schema dx (schF d ko)) :: (d, .dK kvs) :: L) F0 H0 F H) (kv : KvOk K F kvs ts) (hk : Dp K F ko (.tuple (os.map pairD))) (tk : TabsOk ts) (ok : OrdsOk ts os) :
    ∃ F', Z.Ws L F0 H0 F' H ∧ Same F F' ∧ IsSch K A F' (.ref x) ts os := by
  obtain ⟨F1, W1, s1, g1⟩ := W.frz 0 rfl
  obtain ⟨F2, W2, s2, g2⟩ := W1.frz 0 rfl
  exact ⟨F2, W2, s1.trans s2, x, dx, d, kvs, ko, rfl, s2 _ _ g1, g2, kv.same (s1.trans s2), Z.dp_same (s1.trans s2) hk, tk, ok⟩
theorem ws_make {x dx C : Addr} (s : Same F B) (nx : B x = none) (ndx : B dx = none) (ne : dx ≠ x) : Z.Ws [(x, .ins C dx [])] F B F (upd (upd B dx (.own x)) x (.ins C dx [])) :=
  ((Z.Ws.init s).exts (Z.same_new ndx)).new (by rw [upd_ne (Ne.symm ne)]; exact nx)
end
/-- the cells of handed lists, whatever they hold -/
inductive HS (F : Hp) : List V → List (Addr × HO) → Prop
  | nil : HS F [] []
  | cons {T c : Addr} {z : Str} {vs xs : List V} {cs : List (Addr × HO)} : F T = some (.tup [.str z, .ref c]) → HS F xs cs → HS F (.ref T :: xs) ((c, .lst vs) :: cs)
theorem HC.hs {K : PySem.W.Frag} {F : Hp} : ∀ {xs : List V} {cs : List (Addr × HO)} {ts : List Tab}, HC K F xs cs ts → HS F xs cs
  | _, _, _, .nil => .nil
  | _, _, _, .cons h _ r => .cons h r.hs
theorem HS.at {F : Hp} : ∀ {xs : List V} {cs : List (Addr × HO)} {i : Nat} {x : V}, HS F xs cs → xs[i]? = some x → ∃ T z c vs, x = .ref T ∧ F T = some (.tup [.str z, .ref c]) ∧ cs[i]? = some (c, .lst vs)
  | _, _, i, x, .nil, h => by simp at h
  | _, _, 0, x, .cons h r, e => by cases e; exact ⟨_, _, _, _, rfl, h, rfl⟩
  | _, _, i + 1, x, .cons h r, e => by
    obtain ⟨T, z, c, vs, e1, e2, e3⟩ := r.at (i := i) (by simpa using e)
    exact ⟨T, z, c, vs, e1, e2, by simpa using e3⟩
theorem HS.set {F : Hp} : ∀ {xs : List V} {cs : List (Addr × HO)} {i : Nat} {c : Addr} {vs ws : List V}, HS F xs cs → cs[i]? = some (c, .lst vs) → HS F xs (cs.set i (c, .lst ws))
  | _, _, i, _, _, _, .nil, e => by simp at e
  | _, _, 0, _, _, _, .cons h r, e => by cases e; exact .cons h r
  | _, _, i + 1, _, _, _, .cons h r, e => .cons h (r.set (by simpa using e))
theorem HS.same {F F' : Hp} (s : Same F F') : ∀ {xs : List V} {cs : List (Addr × HO)}, HS F xs cs → HS F' xs cs
  | _, _, .nil => .nil
  | _, _, .cons h r => .cons (s _ _ h) (r.same s)
def sp_law_made (K : PySem.W.Frag) (A : Adr) : Sp := fun vs H Q _ => ∃ (F : Hp) (tv ov : V) (way : Int) (ts : List Tab) (os : List (Str × Str)), vs = [tv, ov, .int way] ∧ Same F H ∧ TabsOk ts ∧ OrdsOk ts os ∧ Dp K F tv (.list (ts.map tabD)) ∧ Dp K F ov (.list (os.map pairD)) ∧ ∀ F' H' r, Z.Gr F H F' H' → IsSch K A F' r ts os → Q r H'
theorem ok_law_made (T : Txt K mg A) : ∃ fd, FnOk P w K mg base CX0 6 A.f_law_made fd ["_law_tables", "_law_orders", "_law_way"] (sp_law_made K A) ∧ Binds K fd ["_law_tables", "_law_orders", "_law_way"] [] := by
  have ⟨fd, F, b⟩ := T.d_law_made
  refine ⟨fd, F.ok sc_law_made (fun vs H Q E h => ?_) (fun cdv Ar outer s H vs Q E hr h => ?_), b⟩
  · obtain ⟨F0, tv, ov, way, ts, os, rfl, _⟩ := h
    rfl
  · obtain ⟨F0, tv, ov, way, ts, os, rfl, sm, tk, ok, ht, ho, k⟩ := h
    have nd := sc_law_made.nd
    have hu := hu_of hr
    have ⟨fd_Schema___init__, G_Schema___init__, b_Schema___init__, ds_Schema___init__, vd_Schema___init__, bd_Schema___init__⟩ := ok_Schema___init__ (P := P) (w := w) (base := base) T
    refine ⟨_, (pss_cons (ps_if (pt_cmpR op_eq (pe_op op_mod (pv 2) pe_int) pe_int (nomark _)) (pss_cons (ps_setLc (i := 5) rfl nd rfl rfl (sw_true rfl rfl rfl (by decide +kernel)) (own := [("_law_name", 3), ("_law_columns", 4)]) (pi_list (pv 0)) (blkOk_by (own := [("_law_name", 3), ("_law_columns", 4)]) (N := ["_law_tables", "_law_orders", "_law_way", "_law_name", "_law_columns", "_law_handed", "_law_more", "_law_schema_here"]) (sc := defScope s_law_made) (by decide +kernel)) (fun _ _ _ _ _ => (pg_tupK (K := K) (n := 2) rfl rfl (pgs_cons (pg_name (i := 3) nd rfl (Or.inl rfl)) (pgs_cons (pg_name (i := 4) nd rfl (Or.inl rfl)) pgs_nil)))) (fun _ _ _ _ _ => pts_nil) (fun _ _ _ _ _ => (pe_tup (pa_cons (pv 3) (pa_cons (pe_callTy (call_list_ofK (K := K) rfl) (by rfl) T.b_list (by decide +kernel) (pa_cons (pv 4) pa_nil)) pa_nil)))))
      (pss_cons (ps_set (i := 6) nd rfl (Or.inl rfl) (pe_callTy call_list_of (by rfl) T.b_list (by decide +kernel) (pa_cons (pv 1) pa_nil)))
      (pss_cons (ps_set (i := 7) nd rfl (Or.inl rfl) (pe_make T.mk_Schema G_Schema___init__ (hr.mono (by decide)) rfl T.g_Schema b_Schema___init__ .nil pass0 (pa_cons (pv 5) (pa_cons (pv 6) pa_nil))))
      (pss_cons (ps_for PassesOwn.never rfl (pi_list (pv 5)) (pg_tup rfl (pgs_cons (pg_name (i := 3) nd rfl (Or.inl rfl)) (pgs_cons (pg_name (i := 4) nd rfl (Or.inl rfl)) pgs_nil))) (pss_one (ps_expr (pe_bm0 PySem.F.plainAttrs_list PySem.F.slot_list_clear PySem.F.type_list_clear mt_clear (pv 4)))))
      (pss_cons (ps_expr (pe_bm0 PySem.F.plainAttrs_list PySem.F.slot_list_clear PySem.F.type_list_clear mt_clear (pv 5)))
      (pss_cons (ps_expr (pe_bm0 PySem.F.plainAttrs_list PySem.F.slot_list_clear PySem.F.type_list_clear mt_clear (pv 6)))
      (pss_one (ps_ret (pv 7))))))))) pss_nil)
      (pss_cons (ps_if (PW.pt (pw_and (pt_cmpR (op_eqD hr.units) (pv 1) (pe_lst pa_nil) (nomark _)) (pw_and1 (pt_cmpR op_eq (pe_op op_mod (pv 2) pe_int) pe_int (nomark _))))) (pss_one (ps_ret (pe_make T.mk_Schema G_Schema___init__ (hr.mono (by decide)) rfl T.g_Schema bd_Schema___init__ vd_Schema___init__ pass0 (pa_cons (pe_callTy call_tuple_of (by rfl) T.b_tuple (by decide +kernel) (pa_cons (pe_lc (own := [("_law_name", 3), ("_law_columns", 4)]) rfl nd (pi_list (pv 0)) (blkOk_by (own := [("_law_name", 3), ("_law_columns", 4)]) (N := ["_law_tables", "_law_orders", "_law_way", "_law_name", "_law_columns", "_law_handed", "_law_more", "_law_schema_here"]) (sc := defScope s_law_made) (by decide +kernel)) (fun _ _ _ _ _ => (pg_tupK (K := K) (n := 2) rfl rfl (pgs_cons (pg_name (i := 3) nd rfl (Or.inl rfl)) (pgs_cons (pg_name (i := 4) nd rfl (Or.inl rfl)) pgs_nil)))) (fun _ _ _ _ _ => pts_nil) (fun _ _ _ _ _ => (pe_tup (pa_cons (pv 3) (pa_cons (pe_callTy (call_tuple_ofK (K := K) rfl) (by rfl) T.b_tuple (by decide +kernel) (pa_cons (pv 4) pa_nil)) pa_nil))))) pa_nil)) pa_nil)))) pss_nil)
      (pss_cons (ps_if (pt_cmpR (op_eqD hr.units) (pv 1) (pe_lst pa_nil) (nomark _)) (pss_one (ps_ret (pe_make T.mk_Schema G_Schema___init__ (hr.mono (by decide)) rfl T.g_Schema b_Schema___init__ .nil pass0 (pa_cons (pv 0) (pa_cons pe_non pa_nil))))) pss_nil)
      (pss_one (ps_ret (pe_make T.mk_Schema G_Schema___init__ (hr.mono (by decide)) rfl T.g_Schema b_Schema___init__ .nil pass0 (pa_cons (pe_callTy call_tuple_of (by rfl) T.b_tuple (by decide +kernel) (pa_cons (pe_lc (own := [("_law_name", 3), ("_law_columns", 4)]) rfl nd (pi_list (pv 0)) (blkOk_by (own := [("_law_name", 3), ("_law_columns", 4)]) (N := ["_law_tables", "_law_orders", "_law_way", "_law_name", "_law_columns", "_law_handed", "_law_more", "_law_schema_here"]) (sc := defScope s_law_made) (by decide +kernel)) (fun _ _ _ _ _ => (pg_tupK (K := K) (n := 2) rfl rfl (pgs_cons (pg_name (i := 3) nd rfl (Or.inl rfl)) (pgs_cons (pg_name (i := 4) nd rfl (Or.inl rfl)) pgs_nil)))) (fun _ _ _ _ _ => pts_nil) (fun _ _ _ _ _ => (pe_tup (pa_cons (pv 3) (pa_cons (pe_callTy (call_tuple_ofK (K := K) rfl) (by rfl) T.b_tuple (by decide +kernel) (pa_cons (pv 4) pa_nil)) pa_nil))))) pa_nil)) (pa_cons (pe_callTy call_tuple_of (by rfl) T.b_tuple (by decide +kernel) (pa_cons (pv 1) pa_nil)) pa_nil)))))))), ?_⟩
    simp only [cxOf, Cx.nox, L2.start, List.map_cons, List.map_nil, List.length_cons, List.length_nil, Nat.reduceAdd, Nat.reduceSub, List.replicate, List.cons_append, List.nil_append]
    have tlo := tk.lo
    have thi := tk.hi
    have okp : ∀ o ∈ os, PairOk o := fun o h => pairOk_of (ok.pair tk o h)
    obtain ⟨ta, tx, rfl, hta, htx⟩ := Z.dp_lst ht
    obtain ⟨oa, ox, rfl, hoa, hox⟩ := Z.dp_lst ho
    have hol := Z.dpa_len hox
    have htl := Z.dpa_len htx
    rw [List.length_map] at hol htl
    have ohi := ok.hi
    walk_at "z"
    refine Z.iteD (fun h0 => ?_) (fun h0 => ?_)
    · walk_at "z"
      refine ⟨ta, rfl, ⟨_, sm.seq hta⟩, fun D hD => ?_⟩
      refine lc_it walk_list (fun i H' => ∃ F' xs cs, Z.Ws ((D, .lst xs) :: cs) F0 H F' H' ∧ Same F0 F' ∧ HC K F' xs cs (ts.take i)) ⟨F0, [], [], (Z.Ws.init sm).new hD, Same.refl _, .nil⟩ (fun i H' hi ⟨_, _, _, W, _⟩ => W.same.seq (sm.seq hta)) ?_ ?_
      · rintro i x H1 H2 hi ⟨F1, xs, cs, W1, s1, hc1⟩ ⟨rfl, hx⟩
        obtain ⟨d, e1, e2⟩ := Z.dpa_ix htx hx
        rw [List.getElem?_map] at e1
        obtain ⟨t, hti, rfl⟩ := Option.map_eq_some_iff.mp e1
        have e2 := Z.dp_same s1 e2
        refine Z.gtupD e2 W1.fh fun ys hys => ?_
        obtain ⟨x1, x2, rfl, hx1, hx2⟩ := Z.dpa2 hys
        cases Z.dp_str hx1
        obtain ⟨ca, cx, rfl, hca, hcx⟩ := Z.dp_lst hx2
        walk_at "z"
        refine ⟨rfl, ?_⟩
        walk_at "z"
        refine ⟨ca, cx, rfl, .inl (W1.fh.seq hca), fun l hl => ?_⟩
        have W2 := W1.new (o := .lst cx) hl
        generalize upd H2 l (.lst cx) = H3 at W2 ⊢
        walk_at "z"
        refine ⟨by simp only [List.length_cons, List.length_nil]; decide, fun T hT => ?_⟩
        have W3 := W2.dat (o := .tup [.str t.1, .ref l]) hT
        have s3 := Z.same_new (o := .tup [.str t.1, .ref l]) (W2.freeF hT)
        have g3 : upd F1 T (.tup [.str t.1, .ref l]) T = _ := upd_same
        generalize upd H3 T (.tup [.str t.1, .ref l]) = H4 at W3 ⊢
        generalize upd F1 T (.tup [.str t.1, .ref l]) = F3 at W3 s3 g3
        have hxl := (hc1.len).1
        rw [List.length_take] at hxl
        refine ⟨xs, W3.at 1 rfl, Nat.lt_of_le_of_lt (show xs.length ≤ 1000 by omega) (by decide), F3, xs ++ [.ref T], cs ++ [(l, .lst cx)], ?_, s1.trans s3, ?_⟩
        · exact (W3.set 1 rfl (.lst (xs ++ [.ref T]))).perm ((List.Perm.swap _ _ _).trans (List.Perm.cons _ (List.perm_append_singleton _ _).symm))
        · rw [List.take_add_one, hti]
          exact (hc1.same s3).snoc g3 (Z.dpa_same s3 hcx)
      · rintro H1 ⟨F1, xs, cs, W1, s1, hc1⟩
        rw [htl, List.take_length] at hc1
        walk_at "z"
        refine ⟨oa, ox, rfl, .inl (W1.fh.seq (s1.seq hoa)), fun l hl => ?_⟩
        have W2 := W1.new (o := .lst ox) hl
        generalize upd H1 l (.lst ox) = H2 at W2 ⊢
        walk_at "z"
        intro x dx nx ndx ne
        have M0 := ws_make (C := A.Schema) W2.fh nx ndx ne
        generalize upd (upd H2 dx (.own x)) x (.ins A.Schema dx []) = H3 at M0 ⊢
        refine ⟨F1, H2, x, dx, .ref D, .ref l, ts, os, rfl, M0, ⟨D, xs, rfl, .inl (SqL.of (W2.at 1 rfl)), hc1.len.1, hc1.hand W2.fh fun p o m => (W2.own p o (List.mem_cons_of_mem _ (List.mem_cons_of_mem _ m))).1⟩, tk, ok, .inr ⟨.inl ⟨l, ox, rfl, SqL.of (W2.at 0 rfl), Z.dpa_same s1 hox⟩, fun e => by cases e⟩, fun F4 H4 d kvs ko M4 s4 kv hk => ?_⟩
        obtain ⟨F5, W5, s5, hsch⟩ := isSch_frz (W2.join M4) kv hk tk ok
        have hs5 := hc1.hs.same (s4.trans s5)
        refine ⟨rfl, ?_⟩
        walk_at "z"
        refine ⟨D, rfl, ⟨_, SqL.of (W5.at 1 rfl)⟩, for_list (xs := xs) (fun i σ H' => (∃ v6 v7, σ = [some (.ref ta), some (.ref oa), some (.int way), v6, v7, some (.ref D), some (.ref l), some (.ref x)]) ∧ ∃ cs', Z.Ws ((l, .lst ox) :: (D, .lst xs) :: cs') F0 H F5 H' ∧ HS F5 xs cs') ⟨⟨_, _, rfl⟩, cs, W5, hs5⟩ (fun i σ H' hi ⟨_, _, W, _⟩ => SqL.of (W.at 1 rfl)) ?_ ?_⟩
        · rintro i y σ H6 hy ⟨⟨v6, v7, rfl⟩, cs', W6, hs6⟩
          obtain ⟨T, z, c, vs, rfl, hT, hc⟩ := hs6.at hy
          refine ⟨T, _, rfl, SqT.of (W6.fh _ _ hT), rfl, ?_⟩
          walk_at "z"
          refine ⟨.inl ⟨rfl, _, SqL.of (W6.at (i + 2) hc)⟩, ?_⟩
          refine ⟨c, vs, rfl, rfl, W6.at (i + 2) hc, ?_⟩
          walk_at "z"
          exact ⟨⟨_, _, rfl⟩, _, W6.set (i + 2) hc (.lst []), hs6.set hc⟩
        · rintro σ H6 ⟨⟨v6, v7, rfl⟩, cs', W6, hs6⟩
          walk_at "z"
          refine ⟨.inl ⟨rfl, _, SqL.of (W6.at 1 rfl)⟩, ?_⟩
          refine ⟨D, xs, rfl, rfl, W6.at 1 rfl, ?_⟩
          have W7 := W6.set 1 rfl (.lst [])
          generalize upd H6 D (.lst []) = H7 at W7 ⊢
          walk_at "z"
          refine ⟨.inl ⟨rfl, _, SqL.of (W7.at 0 rfl)⟩, ?_⟩
          refine ⟨l, ox, rfl, rfl, W7.at 0 rfl, ?_⟩
          have W8 := W7.set 0 rfl (.lst [])
          generalize upd H7 l (.lst []) = H8 at W8 ⊢
          walk_at "z"
          exact k F5 H8 _ W8.g hsch
    · walk_at "z"
      refine Z.lstD (K := K) (Z.Ws.init sm) .nil fun ra Fa Ha Wa sa ha' => ?_
      refine ⟨_, _, Z.dp_same (sa.trans Wa.fh) ho, Z.dp_same Wa.fh ha', shaped_pairsL okp, shaped_pairsL (os := []) (fun o h => nomatch h), ?_⟩
      rw [eqv_nil]
      by_cases eo : os = []
      · subst eo
        rw [decide_eq_true rfl]
        walk_at "z"
        refine Z.iteD (fun h1 => ?_) (fun h1 => ?_)
        · walk_at "z"
          refine ⟨ta, rfl, ⟨_, Wa.fh.seq (sa.seq hta)⟩, fun D hD => ?_⟩
          refine lc_it walk_list (Z.LcP K D _ F0 H Fa (ts.map tabTD)) (Z.lc0 Wa hD) (fun i H' hi ⟨F', vs, W', s', _⟩ => ((sa.trans s').trans W'.fh).seq hta) ?_ ?_
          · rintro i x H1 H2 hi ⟨F1, vs, W1, s1, ha⟩ ⟨rfl, hx⟩
            obtain ⟨d, e1, e2⟩ := Z.dpa_ix htx hx
            rw [List.getElem?_map] at e1
            obtain ⟨t, hti, rfl⟩ := Option.map_eq_some_iff.mp e1
            have e2 := Z.dp_same (sa.trans s1) e2
            refine Z.gtupD e2 W1.fh fun ys hys => ?_
            obtain ⟨x1, x2, rfl, hx1, hx2⟩ := Z.dpa2 hys
            cases Z.dp_str hx1
            obtain ⟨ca, cx, rfl, hca, hcx⟩ := Z.dp_lst hx2
            walk_at "z"
            refine ⟨rfl, ?_⟩
            walk_at "z"
            refine ⟨ca, cx, rfl, .inl ⟨W1.fh.seq hca, fun l hl => ?_⟩⟩
            have W2 := W1.dat (o := .tup cx) hl
            have s2 := Z.same_new (o := .tup cx) (W1.freeF hl)
            have g2 : upd F1 l (.tup cx) l = _ := upd_same
            generalize upd H2 l (.tup cx) = H3 at W2 ⊢
            generalize upd F1 l (.tup cx) = F2 at W2 s2 g2
            walk_at "z"
            refine Z.tupD (K := K) W2 (.cons (.str t.1) (.cons (.tup (SqT.of g2) (Z.dpa_same s2 hcx)) .nil)) fun r F3 H3 W3 s3 hr => ?_
            exact Z.lcS W3 (s1.trans (s2.trans s3)) (Z.dpa_same (s2.trans s3) ha) (by rw [List.getElem?_map, hti]; rfl) hr (by rw [List.length_map]; omega)
          · rintro H1 ⟨F1, vs, W1, s1, ha⟩
            rw [htl, ← List.length_map (f := tabTD), List.take_length] at ha
            walk_at "z"
            refine ⟨D, vs, rfl, .inl ⟨SqL.of (W1.at 0 rfl), fun p hp => ?_⟩⟩
            have W2 := W1.dat (o := .tup vs) hp
            have s2 := Z.same_new (o := .tup vs) (W1.freeF hp)
            have hd2 : Dp K (upd F1 p (.tup vs)) (.ref p) (.tuple (ts.map tabTD)) := .tup (SqT.of upd_same) (Z.dpa_same s2 ha)
            generalize upd H1 p (.tup vs) = H2 at W2 ⊢
            generalize upd F1 p (.tup vs) = F2 at W2 s2 hd2
            walk_at "z"
            intro x dx nx ndx ne
            have M0 := ws_make (C := A.Schema) W2.fh nx ndx ne
            generalize upd (upd H2 dx (.own x)) x (.ins A.Schema dx []) = H7 at M0 ⊢
            refine ⟨F2, H2, x, dx, .ref p, .non, ts, [], rfl, M0, handT_TD hd2 W2.fh, tk, ok, .inl ⟨rfl, rfl⟩, fun F8 H8 d kvs ko M8 s8 kv hk => ?_⟩
            obtain ⟨F9, W9, s9, hsch⟩ := isSch_frz (W2.join M8) kv hk tk ok
            refine ⟨rfl, ?_⟩
            exact k F9 H8 _ W9.g hsch
        · walk_at "z"
          refine Z.lstD (K := K) Wa .nil fun rb Fb Hb Wb sb hb' => ?_
          refine ⟨_, _, Z.dp_same ((sa.trans sb).trans Wb.fh) ho, Z.dp_same Wb.fh hb', shaped_pairsL okp, shaped_pairsL (os := []) (fun o h => nomatch h), ?_⟩
          rw [eqv_nil]
          rw [decide_eq_true rfl]
          walk_at "z"
          intro x dx nx ndx ne
          have M0 := ws_make (C := A.Schema) Wb.fh nx ndx ne
          generalize upd (upd Hb dx (.own x)) x (.ins A.Schema dx []) = H7 at M0 ⊢
          refine ⟨Fb, Hb, x, dx, .ref ta, .non, ts, [], rfl, M0, (handT_D (Z.dp_same (sa.trans sb) ht) Wb.fh), tk, ok, .inl ⟨rfl, rfl⟩, fun F8 H8 d kvs ko M8 s8 kv hk => ?_⟩
          obtain ⟨F9, W9, s9, hsch⟩ := isSch_frz (Wb.join M8) kv hk tk ok
          refine ⟨rfl, ?_⟩
          exact k F9 H8 _ W9.g hsch
      · rw [decide_eq_false eo]
        walk_at "z"
        refine Z.lstD (K := K) Wa .nil fun rb Fb Hb Wb sb hb' => ?_
        refine ⟨_, _, Z.dp_same ((sa.trans sb).trans Wb.fh) ho, Z.dp_same Wb.fh hb', shaped_pairsL okp, shaped_pairsL (os := []) (fun o h => nomatch h), ?_⟩
        rw [eqv_nil]
        rw [decide_eq_false eo]
        walk_at "z"
        refine ⟨ta, rfl, ⟨_, Wb.fh.seq ((sa.trans sb).seq hta)⟩, fun D hD => ?_⟩
        refine lc_it walk_list (Z.LcP K D _ F0 H Fb (ts.map tabTD)) (Z.lc0 Wb hD) (fun i H' hi ⟨F', vs, W', s', _⟩ => (((sa.trans sb).trans s').trans W'.fh).seq hta) ?_ ?_
        · rintro i x H1 H2 hi ⟨F1, vs, W1, s1, ha⟩ ⟨rfl, hx⟩
          obtain ⟨d, e1, e2⟩ := Z.dpa_ix htx hx
          rw [List.getElem?_map] at e1
          obtain ⟨t, hti, rfl⟩ := Option.map_eq_some_iff.mp e1
          have e2 := Z.dp_same ((sa.trans sb).trans s1) e2
          refine Z.gtupD e2 W1.fh fun ys hys => ?_
          obtain ⟨x1, x2, rfl, hx1, hx2⟩ := Z.dpa2 hys
          cases Z.dp_str hx1
          obtain ⟨ca, cx, rfl, hca, hcx⟩ := Z.dp_lst hx2
          walk_at "z"
          refine ⟨rfl, ?_⟩
          walk_at "z"
          refine ⟨ca, cx, rfl, .inl ⟨W1.fh.seq hca, fun l hl => ?_⟩⟩
          have W2 := W1.dat (o := .tup cx) hl
          have s2 := Z.same_new (o := .tup cx) (W1.freeF hl)
          have g2 : upd F1 l (.tup cx) l = _ := upd_same
          generalize upd H2 l (.tup cx) = H3 at W2 ⊢
          generalize upd F1 l (.tup cx) = F2 at W2 s2 g2
          walk_at "z"
          refine Z.tupD (K := K) W2 (.cons (.str t.1) (.cons (.tup (SqT.of g2) (Z.dpa_same s2 hcx)) .nil)) fun r F3 H3 W3 s3 hr => ?_
          exact Z.lcS W3 (s1.trans (s2.trans s3)) (Z.dpa_same (s2.trans s3) ha) (by rw [List.getElem?_map, hti]; rfl) hr (by rw [List.length_map]; omega)
        · rintro H1 ⟨F1, vs, W1, s1, ha⟩
          rw [htl, ← List.length_map (f := tabTD), List.take_length] at ha
          walk_at "z"
          refine ⟨D, vs, rfl, .inl ⟨SqL.of (W1.at 0 rfl), fun p hp => ?_⟩⟩
          have W2 := W1.dat (o := .tup vs) hp
          have s2 := Z.same_new (o := .tup vs) (W1.freeF hp)
          have hd2 : Dp K (upd F1 p (.tup vs)) (.ref p) (.tuple (ts.map tabTD)) := .tup (SqT.of upd_same) (Z.dpa_same s2 ha)
          generalize upd H1 p (.tup vs) = H2 at W2 ⊢
          generalize upd F1 p (.tup vs) = F2 at W2 s2 hd2
          walk_at "z"
          refine ⟨oa, ox, rfl, .inl ⟨W2.fh.seq ((sa.trans (sb.trans (s1.trans s2))).seq hoa), fun q hq => ?_⟩⟩
          have W3 := W2.dat (o := .tup ox) hq
          have s3 := Z.same_new (o := .tup ox) (W2.freeF hq)
          have hd3 : Dp K (upd F2 q (.tup ox)) (.ref q) (.tuple (os.map pairD)) := .tup (SqT.of upd_same) (Z.dpa_same (sa.trans (sb.trans (s1.trans (s2.trans s3)))) hox)
          generalize upd H2 q (.tup ox) = H3 at W3 ⊢
          generalize upd F2 q (.tup ox) = F3 at W3 s3 hd3
          walk_at "z"
          intro x dx nx ndx ne
          have M0 := ws_make (C := A.Schema) W3.fh nx ndx ne
          generalize upd (upd H3 dx (.own x)) x (.ins A.Schema dx []) = H7 at M0 ⊢
          refine ⟨F3, H3, x, dx, .ref p, .ref q, ts, os, rfl, M0, handT_TD (Z.dp_same s3 hd2) W3.fh, tk, ok, .inr ⟨.inr hd3, fun e => by cases e⟩, fun F8 H8 d kvs ko M8 s8 kv hk => ?_⟩
          obtain ⟨F9, W9, s9, hsch⟩ := isSch_frz (W3.join M8) kv hk tk ok
          refine ⟨rfl, ?_⟩
          exact k F9 H8 _ W9.g hsch

/-! ### what a schema tells -/
theorem lay_str {z : Str} (h : PyData.strOk z = true) : PyData.canLay0 (.str z) = true := by rw [PyData.canLay0]; exact h
theorem lay_tabTD {t : Tab} (h1 : PyData.strOk t.1 = true) (h2 : ∀ c ∈ t.2, PairOk c) : PyData.canLay0 (tabTD t) = true := by
  simp only [tabTD, PyData.canLay0, PyData.canLayAll0, h1, lay_pairs h2, Bool.and_true]
theorem lay_tabsTD : ∀ {ts : List Tab}, (∀ t ∈ ts, PyData.strOk t.1 = true ∧ ∀ c ∈ t.2, PairOk c) → PyData.canLayAll0 (ts.map tabTD) = true
  | [], _ => by simp [PyData.canLayAll0]
  | t :: r, h => by
    obtain ⟨h1, h2⟩ := h t List.mem_cons_self
    rw [List.map_cons, PyData.canLayAll0, lay_tabTD h1 h2, lay_tabsTD fun x hx => h x (List.mem_cons_of_mem _ hx)]
    rfl
theorem depth_tabsTD : ∀ ts : List Tab, PyData.depthAll (ts.map tabTD) ≤ 3
  | [] => by simp [PyData.depthAll]
  | t :: r => by
    rw [List.map_cons, PyData.depthAll]
    have h1 := depth_tabsTD r
    have h2 := depth_pairs t.2
    have : PyData.depth (tabTD t) ≤ 3 := by
      simp only [tabTD, PyData.depth, PyData.depthAll]
      omega
    omega
theorem kind_ok {z : Str} (h : Kind z) : PyData.strOk z = true := by
  rcases h with rfl | rfl <;> decide +kernel
theorem ColsOk.pair {cs : List Col} (h : ColsOk cs) : ∀ c ∈ cs, PairOk c := fun c hc => ⟨(h.nm c hc).1.ok, kind_ok (h.nm c hc).2⟩
theorem shaped_told {ts : List Tab} {os : List (Str × Str)} (tk : TabsOk ts) (ok : OrdsOk ts os) : SeqAt.shaped (.tuple [.tuple (ts.map tabTD), .tuple (os.map pairD)]) = true := by
  have h1 := lay_tabsTD (ts := ts) fun t ht => ⟨(tk.nm t ht).1.ok, (tk.nm t ht).2.pair⟩
  have h2 := lay_pairs (os := os) fun o ho => pairOk_of (ok.pair tk o ho)
  have h3 := depth_tabsTD ts
  have h4 := depth_pairs os
  unfold SeqAt.shaped
  rw [Bool.and_eq_true]
  refine ⟨by simp only [PyData.canLay0, PyData.canLayAll0, h1, h2, Bool.and_true], decide_eq_true ?_⟩
  simp only [PyData.depth, PyData.depthAll]
  omega
theorem eqv_self {d : PyData} (h : SeqAt.shaped d = true) : PyData.eqv d d = true := SeqAt.eqv_refl d (SeqAt.canLay_of_shaped h)
theorem ord_col {t : Tab} {os : List (Str × Str)} {c : Col} {i : Nat} (ok : ColsOk t.2) (h : t.2[i]? = some c) : ordAns t os (.str c.1) = (decide (i = 0) || decide ((t.1, c.1) ∈ os)) := by
  have hn := (ok.nm c (List.mem_of_getElem? h)).1
  show (decide (Name c.1) && (decide (some c.1 = t.2.head?.map (·.1)) || decide ((t.1, c.1) ∈ os))) = _
  rw [decide_eq_true hn, Bool.true_and]
  congr 1
  refine decide_eq_decide.mpr ⟨fun e => ?_, fun e => ?_⟩
  · have h1 : (t.2.map (·.1))[i]? = some c.1 := by rw [List.getElem?_map, h]; rfl
    have h2 : (t.2.map (·.1))[0]? = some c.1 := by rw [List.getElem?_map, ← List.head?_eq_getElem?, ← e]
    exact nd_ix ok.nd h1 h2
  · subst e
    rw [List.head?_eq_getElem?, h]
    rfl
theorem ord_no {t : Tab} {os : List (Str × Str)} {z : Str} (h : ¬ Name z) : ordAns t os (.str z) = false := by
  show (decide (Name z) && _) = false
  rw [decide_eq_false h]
  rfl
def sp_law_told (K : PySem.W.Frag) (A : Adr) : Sp := fun vs H Q _ => ∃ (F : Hp) (sv tv ov : V) (ts : List Tab) (os : List (Str × Str)), vs = [sv, tv, ov] ∧ Same F H ∧ IsSch K A F sv ts os ∧ Dp K F tv (.list (ts.map tabD)) ∧ Dp K F ov (.list (os.map pairD)) ∧ ∀ H', Same H H' → Q (.bl true) H'
theorem ok_law_told (T : Txt K mg A) : ∃ fd, FnOk P w K mg base CX0 4 A.f_law_told fd ["_law_schema_here", "_law_tables", "_law_orders"] (sp_law_told K A) ∧ Binds K fd ["_law_schema_here", "_law_tables", "_law_orders"] [] := by
  have ⟨fd, F, b⟩ := T.d_law_told
  refine ⟨fd, F.ok sc_law_told (fun vs H Q E h => ?_) (fun cdv Ar outer s H vs Q E hr h => ?_), b⟩
  · obtain ⟨F0, sv, tv, ov, ts, os, rfl, _⟩ := h
    rfl
  · obtain ⟨F0, sv, tv, ov, ts, os, rfl, sm, hs, ht, ho, k⟩ := h
    have nd := sc_law_told.nd
    have hu := hu_of hr
    have ⟨fd_Schema_table_names, G_Schema_table_names, b_Schema_table_names⟩ := ok_Schema_table_names (P := P) (w := w) (base := base) T
    have ⟨fd_Schema_columns_of, G_Schema_columns_of, b_Schema_columns_of⟩ := ok_Schema_columns_of (P := P) (w := w) (base := base) T
    have ⟨fd_Schema_kind_of, G_Schema_kind_of, b_Schema_kind_of⟩ := ok_Schema_kind_of (P := P) (w := w) (base := base) T
    have ⟨fd_Schema_has_order, G_Schema_has_order, b_Schema_has_order⟩ := ok_Schema_has_order (P := P) (w := w) (base := base) T
    have ⟨fd_Schema_told, G_Schema_told, b_Schema_told⟩ := ok_Schema_told (P := P) (w := w) (base := base) T
    refine ⟨_, (pss_cons (ps_set (i := 3) nd rfl (Or.inl rfl) (pe_meth0 (pv 0) T.c_Schema T.m_Schema_table_names G_Schema_table_names (hr.mono (by decide)) b_Schema_table_names .nil pass0))
      (pss_cons (ps_if (PW.pt (pw_or (pt_not (pt_val (pe_callB call_isi (by rfl) T.b_isinstance (by decide +kernel) (pa_cons (pv 3) (pa_cons (pe_bltn (v := .ty "list") (u := .type "list") (by rfl) T.b_list (by decide +kernel) rfl) pa_nil))))) (pw_or1 (pt_cmpR (op_neD hr.units) (pv 3) (pe_lc (own := [("_law_name", 4), ("_law_columns", 5)]) rfl nd (pi_list (pv 1)) (blkOk_by (own := [("_law_name", 4), ("_law_columns", 5)]) (N := ["_law_schema_here", "_law_tables", "_law_orders", "_law_names_here", "_law_name", "_law_columns", "_law_found", "_law_k", "_law_column", "_law_kind", "_law_told_here", "_law_thing"]) (sc := defScope s_law_told) (by decide +kernel)) (fun _ _ _ _ _ => (pg_tupK (K := K) (n := 2) rfl rfl (pgs_cons (pg_name (i := 4) nd rfl (Or.inl rfl)) (pgs_cons (pg_name (i := 5) nd rfl (Or.inl rfl)) pgs_nil)))) (fun _ _ _ _ _ => pts_nil) (fun _ _ _ _ _ => (pv 4))) (nomark _))))) (pss_one (ps_ret pe_bl)) pss_nil)
      (pss_cons (ps_expr (pe_bm0 PySem.F.plainAttrs_list PySem.F.slot_list_clear PySem.F.type_list_clear mt_clear (pv 3)))
      (pss_cons (ps_for PassesOwn.never rfl (pi_list (pv 1)) (pg_tup rfl (pgs_cons (pg_name (i := 4) nd rfl (Or.inl rfl)) (pgs_cons (pg_name (i := 5) nd rfl (Or.inl rfl)) pgs_nil))) (pss_cons (ps_set (i := 6) nd rfl (Or.inl rfl) (pe_meth (pv 0) T.c_Schema T.m_Schema_columns_of G_Schema_columns_of (hr.mono (by decide)) b_Schema_columns_of .nil pass0 (pa_cons (pv 4) pa_nil)))
      (pss_cons (ps_if (PW.pt (pw_or (pt_not (pt_val (pe_callB call_isi (by rfl) T.b_isinstance (by decide +kernel) (pa_cons (pv 6) (pa_cons (pe_bltn (v := .ty "list") (u := .type "list") (by rfl) T.b_list (by decide +kernel) rfl) pa_nil))))) (pw_or1 (pt_cmpR (op_neD hr.units) (pv 6) (pv 5) (nomark _))))) (pss_one (ps_ret pe_bl)) pss_nil)
      (pss_cons (ps_expr (pe_bm0 PySem.F.plainAttrs_list PySem.F.slot_list_clear PySem.F.type_list_clear mt_clear (pv 6)))
      (pss_cons (ps_for PassesOwn.never rfl (pi_enum (by rfl) T.b_enumerate (pa_cons (pv 5) pa_nil)) (pg_tup rfl (pgs_cons (pg_name (i := 7) nd rfl (Or.inl rfl)) (pgs_cons (pg_tup rfl (pgs_cons (pg_name (i := 8) nd rfl (Or.inl rfl)) (pgs_cons (pg_name (i := 9) nd rfl (Or.inl rfl)) pgs_nil))) pgs_nil))) (pss_cons (ps_if (pt_cmpR op_ne (pe_meth (pv 0) T.c_Schema T.m_Schema_kind_of G_Schema_kind_of (hr.mono (by decide)) b_Schema_kind_of .nil pass0 (pa_cons (pv 4) (pa_cons (pv 8) pa_nil))) (pv 9) (nomark _)) (pss_one (ps_ret pe_bl)) pss_nil)
      (pss_cons (ps_set (i := 10) nd rfl (Or.inl rfl) (pe_meth (pv 0) T.c_Schema T.m_Schema_has_order G_Schema_has_order (hr.mono (by decide)) b_Schema_has_order .nil pass0 (pa_cons (pv 4) (pa_cons (pv 8) pa_nil))))
      (pss_one (ps_if (PW.pt (pw_or (pt_not (pt_val (pe_callB call_isi (by rfl) T.b_isinstance (by decide +kernel) (pa_cons (pv 10) (pa_cons (pe_bltn (v := .ty "bool") (u := .type "bool") (by rfl) T.b_bool (by decide +kernel) rfl) pa_nil))))) (pw_or1 (pt_cmpR op_ne (pv 10) (pe_or (pe_cmpR op_eq (pv 7) pe_int (nomark _)) (pe_one (pe_cmpR (op_inD (Z.hu65 hr)) (pe_tup (pa_cons (pv 4) (pa_cons (pv 8) pa_nil))) (pv 2) (by rfl)))) (nomark _))))) (pss_one (ps_ret pe_bl)) pss_nil)))))
      (pss_one (ps_for PassesOwn.never rfl (pi_list (pe_lst (pa_cons pe_str (pa_cons pe_non (pa_cons pe_int (pa_cons (pe_tup (pa_cons (pe_ix ix_tup (pe_ix ix_list (pv 5) pe_int (fun _ _ => rfl)) pe_int (fun _ _ => rfl)) pa_nil)) (pa_cons (pe_lst (pa_cons (pe_ix ix_tup (pe_ix ix_list (pv 5) pe_int (fun _ _ => rfl)) pe_int (fun _ _ => rfl)) pa_nil)) (pa_cons (pe_op op_add_str (pe_ix ix_tup (pe_ix ix_list (pv 5) pe_int (fun _ _ => rfl)) pe_int (fun _ _ => rfl)) pe_str) pa_nil)))))))) (pg_name (i := 11) nd rfl (Or.inl rfl)) (pss_one (ps_if (pt_cmpR op_isnot_bl (pe_meth (pv 0) T.c_Schema T.m_Schema_has_order G_Schema_has_order (hr.mono (by decide)) b_Schema_has_order .nil pass0 (pa_cons (pv 4) (pa_cons (pv 11) pa_nil))) pe_bl (nomark _)) (pss_one (ps_ret pe_bl)) pss_nil)))))))))
      (pss_one (ps_ret (pe_cmpR (op_eqD hr.units) (pe_meth0 (pv 0) T.c_Schema T.m_Schema_told G_Schema_told (hr.mono (by decide)) b_Schema_told .nil pass0) (pe_tup (pa_cons (pe_callTy call_tuple_of (by rfl) T.b_tuple (by decide +kernel) (pa_cons (pe_lc (own := [("_law_name", 4), ("_law_columns", 5)]) rfl nd (pi_list (pv 1)) (blkOk_by (own := [("_law_name", 4), ("_law_columns", 5)]) (N := ["_law_schema_here", "_law_tables", "_law_orders", "_law_names_here", "_law_name", "_law_columns", "_law_found", "_law_k", "_law_column", "_law_kind", "_law_told_here", "_law_thing"]) (sc := defScope s_law_told) (by decide +kernel)) (fun _ _ _ _ _ => (pg_tupK (K := K) (n := 2) rfl rfl (pgs_cons (pg_name (i := 4) nd rfl (Or.inl rfl)) (pgs_cons (pg_name (i := 5) nd rfl (Or.inl rfl)) pgs_nil)))) (fun _ _ _ _ _ => pts_nil) (fun _ _ _ _ _ => (pe_tup (pa_cons (pv 4) (pa_cons (pe_callTy (call_tuple_ofK (K := K) rfl) (by rfl) T.b_tuple (by decide +kernel) (pa_cons (pv 5) pa_nil)) pa_nil))))) pa_nil)) (pa_cons (pe_callTy call_tuple_of (by rfl) T.b_tuple (by decide +kernel) (pa_cons (pv 2) pa_nil)) pa_nil))) (nomark _)))))))), ?_⟩
    simp only [cxOf, Cx.nox, L2.start, List.map_cons, List.map_nil, List.length_cons, List.length_nil, Nat.reduceAdd, Nat.reduceSub, List.replicate, List.cons_append, List.nil_append]
    obtain ⟨sx, sdx, sd, skvs, sko, esv, hsx, hsd, skv, hsk, tk, ok⟩ := id hs
    have thi := tk.hi
    have okp : ∀ o ∈ os, PairOk o := fun o h => pairOk_of (ok.pair tk o h)
    obtain ⟨ta, tx, rfl, hta, htx⟩ := Z.dp_lst ht
    obtain ⟨oa, ox, rfl, hoa, hox⟩ := Z.dp_lst ho
    have htl := Z.dpa_len htx
    rw [List.length_map] at htl
    have hxx := sm _ _ hsx
    subst esv
    walk_at "z"
    refine ⟨F0, _, ts, os, rfl, sm, hs, fun H1 p W1 => ?_⟩
    walk_at "z"
    refine isiL (SqL.of (W1.at 0 rfl)) ?_
    walk_at "z"
    refine ⟨ta, rfl, ⟨_, W1.fh.seq hta⟩, fun D hD => ?_⟩
    refine lc_it walk_list (fun i H' => Z.Ws [(D, .lst (((ts.take i).map (·.1)).map .str)), (p, .lst (ts.map fun t => .str t.1))] F0 H F0 H') (W1.new hD) (fun i H' hi W => W.fh.seq hta) ?_ ?_
    · rintro i x H2 H3 hi W2 ⟨rfl, hx⟩
      obtain ⟨d, e1, e2⟩ := Z.dpa_ix htx hx
      rw [List.getElem?_map] at e1
      obtain ⟨t, hti, rfl⟩ := Option.map_eq_some_iff.mp e1
      refine Z.gtupD e2 W2.fh fun ys hys => ?_
      obtain ⟨x1, x2, rfl, hx1, hx2⟩ := Z.dpa2 hys
      cases Z.dp_str hx1
      walk_at "z"
      refine ⟨rfl, ?_⟩
      walk_at "z"
      refine ⟨_, W2.at 0 rfl, by simp; exact Nat.lt_of_le_of_lt (show min i ts.length ≤ 1000 by omega) (by decide), ?_⟩
      rw [List.take_add_one, hti, List.map_append, List.map_append]
      exact W2.set 0 rfl _
    · rintro H2 W2
      rw [htl, List.take_length] at W2
      walk_at "z"
      have ep : (ts.map fun t => V.str t.1) = ((ts.map (·.1)).map .str) := by rw [List.map_map]; rfl
      rw [ep] at W2
      refine Z.neStrs (SqL.of (W2.at 1 rfl)) (SqL.of (W2.at 0 rfl)) (fun z hz => by obtain ⟨t, ht, rfl⟩ := List.mem_map.mp hz; exact (tk.nm t ht).1.ok) ?_
      walk_at "z"
      refine ⟨.inl ⟨rfl, _, SqL.of (W2.at 1 rfl)⟩, ?_⟩
      refine ⟨p, _, rfl, rfl, W2.at 1 rfl, ?_⟩
      have W3 := (W2.set 1 rfl (.lst [])).pick [] (L' := []) List.nodup_nil rfl
      generalize upd H2 p (.lst []) = H3 at W3 ⊢
      walk_at "z"
      refine ⟨ta, rfl, ⟨_, W3.fh.seq hta⟩, for_list (xs := tx) (fun i σ H' => (∃ v4 v5 v6 v7 v8 v9 v10 v11, σ = [some (.ref sx), some (.ref ta), some (.ref oa), some (.ref p), v4, v5, v6, v7, v8, v9, v10, v11]) ∧ Z.Ws [] F0 H F0 H') ⟨⟨_, _, _, _, _, _, _, _, rfl⟩, W3⟩ (fun i σ H' hi P => P.2.fh.seq hta) ?_ ?_⟩
      · rintro i x σ H4 hx ⟨⟨v4, v5, v6, v7, v8, v9, v10, v11, rfl⟩, W4⟩
        obtain ⟨d, e1, e2⟩ := Z.dpa_ix htx hx
        rw [List.getElem?_map] at e1
        obtain ⟨t, hti, rfl⟩ := Option.map_eq_some_iff.mp e1
        have htm := List.mem_of_getElem? hti
        obtain ⟨tn, cok⟩ := tk.nm t htm
        have clo := cok.lo
        have chi := cok.hi
        refine Z.gtupD e2 W4.fh fun ys hys => ?_
        obtain ⟨x1, x2, rfl, hx1, hx2⟩ := Z.dpa2 hys
        cases Z.dp_str hx1
        obtain ⟨ca, cx, rfl, hca, hcx⟩ := Z.dp_lst hx2
        have hcl := Z.dpa_len hcx
        rw [List.length_map] at hcl
        have hx4 := W4.fh _ _ hsx
        walk_at "z"
        refine ⟨F0, _, ts, os, t, rfl, W4.fh, hs, htm, fun H5 q fx W5 hfx => ?_⟩
        have W5 := W4.join W5
        walk_at "z"
        refine isiL (SqL.of (W5.at 0 rfl)) ?_
        walk_at "z"
        refine ⟨_, _, .lst (SqL.of (W5.at 0 rfl)) (Z.dpa_same W5.fh hfx), .lst (W5.fh.seq hca) (Z.dpa_same W5.fh hcx), shaped_pairsL cok.pair, shaped_pairsL cok.pair, ?_⟩
        rw [eqv_self (shaped_pairsL cok.pair)]
        walk_at "z"
        refine ⟨.inl ⟨rfl, _, SqL.of (W5.at 0 rfl)⟩, ?_⟩
        refine ⟨q, _, rfl, rfl, W5.at 0 rfl, ?_⟩
        have W6 := (W5.set 0 rfl (.lst [])).pick [] (L' := []) List.nodup_nil rfl
        generalize upd H5 q (.lst []) = H6 at W6 ⊢
        walk_at "z"
        refine Z.forE ?_
        walk_at "z"
        refine ⟨ca, _, rfl, W6.fh.seq hca, ?_⟩
        refine for_it walk_enum (fun i σ H' => (∃ v7 v8 v9 v10 v11, σ = [some (.ref sx), some (.ref ta), some (.ref oa), some (.ref p), some (.str t.1), some (.ref ca), some (.ref q), v7, v8, v9, v10, v11]) ∧ Z.Ws [] F0 H F0 H') ⟨⟨_, _, _, _, _, rfl⟩, W6⟩ (fun i σ H' hi P => P.2.fh.seq hca) ?_ ?_
        · rintro j y σ H7 H8 hj ⟨⟨v7, v8, v9, v10, v11, rfl⟩, W7⟩ ⟨T1, y1, y2, rfl, hT, rfl, f1, f2⟩
          cases f1
          have f2 : cx[j]? = some y2 := f2
          have W8 := W7.exts (Z.same_new (o := .tup [.int (j : Nat), y2]) hT)
          have gT : upd H7 T1 (.tup [.int (j : Nat), y2]) T1 = _ := upd_same
          generalize upd H7 T1 (.tup [.int (j : Nat), y2]) = H8 at W8 gT ⊢
          obtain ⟨d2, g1, g2⟩ := Z.dpa_ix hcx f2
          rw [List.getElem?_map] at g1
          obtain ⟨c, hcj, rfl⟩ := Option.map_eq_some_iff.mp g1
          have hcm := List.mem_of_getElem? hcj
          obtain ⟨cn, ck⟩ := cok.nm c hcm
          refine ⟨T1, _, rfl, SqT.of gT, rfl, ?_⟩
          walk_at "z"
          refine Z.gtupD g2 W8.fh fun zs hzs => ?_
          obtain ⟨z1, z2, rfl, hz1, hz2⟩ := Z.dpa2 hzs
          cases Z.dp_str hz1
          cases Z.dp_str hz2
          have hx8 := W8.fh _ _ hsx
          walk_at "z"
          refine ⟨F0, _, ts, os, t, c, rfl, W8.fh, hs, htm, hcm, ?_⟩
          walk_at "z"
          refine ⟨F0, _, _, .str c.1, ts, os, t, rfl, W8.fh, hs, htm, .str c.1, by have := cn.2.1; show c.1.length ≤ 10000; omega, fun H9 s9 => ?_⟩
          rw [ord_col cok hcj]
          have W9 := W8.exts s9
          walk_at "z"
          refine Z.isiD (F := H9) (.bl _) (Same.refl _) (by simp) ?_
          rw [show Z.isTy "bool" (.bool (decide (j = 0) || decide ((t.1, c.1) ∈ os))) = true from rfl]
          walk_at "z"
          by_cases ej : j = 0
          · subst ej
            rw [decide_eq_true (show V.int ((0 : Nat) : Int) = V.int 0 from rfl)]
            walk_at "z"
            exact ⟨⟨_, _, _, _, _, rfl⟩, W9⟩
          · rw [decide_eq_false (show ¬ V.int (j : Int) = V.int 0 from fun e => ej (by have := V.int.inj e; omega))]
            walk_at "z"
            refine Z.tupD (K := K) W9 (.cons (.str _) (.cons (.str _) .nil)) fun r F10 H10 W10 s10 hr => ?_
            walk_at "z"
            refine ⟨pairD (t.1, c.1), _, Z.dp_same W10.fh hr, Z.dp_same (s10.trans W10.fh) ho, shaped_pair (pairOk_of ⟨tn, cn⟩), shaped_pairsL okp, ?_⟩
            rw [any_pair, decide_eq_false ej, Bool.false_or]
            walk_at "z"
            refine ⟨⟨_, _, _, _, _, rfl⟩, ?_⟩
            exact (Z.Ws.init sm).exts W10.same
        · rintro σ H7 ⟨⟨v7, v8, v9, v10, v11, rfl⟩, W7⟩
          obtain ⟨c0, rr, ec⟩ : ∃ c0 rr, t.2 = c0 :: rr := by
            cases h : t.2 with
            | nil => rw [h] at clo; exact absurd clo (by decide)
            | cons c r => exact ⟨c, r, rfl⟩
          have n0 := (cok.nm c0 (by rw [ec]; exact List.mem_cons_self)).1
          have n08 := n0.2.1
          have n01 := n0.1
          have ix0 : (t.2.map pairD)[0]? = some (pairD c0) := by rw [ec]; rfl
          walk_at "z"
          refine Z.ixD hx2 W7.fh 0 ix0 fun w1 hw1 => ?_
          walk_at "z"
          refine Z.ixT hw1 W7.fh 0 rfl fun w2 hw2 => ?_
          cases Z.dp_str hw2
          walk_at "z"
          refine Z.tupD (K := K) W7 (.cons (.str _) .nil) fun r1 F8 H8 W8 s8 hr1 => ?_
          walk_at "z"
          refine Z.ixD (Z.dp_same s8 hx2) W8.fh 0 ix0 fun w1 hw1 => ?_
          walk_at "z"
          refine Z.ixT hw1 W8.fh 0 rfl fun w2 hw2 => ?_
          cases Z.dp_str hw2
          walk_at "z"
          refine Z.lstD (K := K) W8 (.cons (.str _) .nil) fun r2 F9 H9 W9 s9 hr2 => ?_
          walk_at "z"
          refine Z.ixD (Z.dp_same (s8.trans s9) hx2) W9.fh 0 ix0 fun w1 hw1 => ?_
          walk_at "z"
          refine Z.ixT hw1 W9.fh 0 rfl fun w2 hw2 => ?_
          cases Z.dp_str hw2
          walk_at "z"
          have l8 : ("abcdefgh" : Str).length = 8 := by decide +kernel
          refine Z.addS (by rw [l8]; omega) ?_
          walk_at "z"
          refine Z.lstD (K := K) W9 (.cons (.str _) (.cons .non (.cons (.int _) (.cons (Z.dp_same s9 hr1) (.cons hr2 (.cons (.str _) .nil)))))) fun r3 F10 H10 W10 s10 hr3 => ?_
          obtain ⟨la, lx, rfl, hla, hlx⟩ := Z.dp_lst hr3
          refine ⟨la, rfl, ⟨_, W10.fh.seq hla⟩, for_list (xs := lx) (fun i σ H' => (∃ v11, σ = [some (.ref sx), some (.ref ta), some (.ref oa), some (.ref p), some (.str t.1), some (.ref ca), some (.ref q), v7, v8, v9, v10, v11]) ∧ Same H10 H') ⟨⟨_, rfl⟩, Same.refl _⟩ (fun i σ H' hi P => (W10.fh.trans P.2).seq hla) ?_ ?_⟩
          · rintro i' x' σ H11 hx' ⟨⟨v11, rfl⟩, s11⟩
            obtain ⟨d3, g3, hd3⟩ := Z.dpa_ix hlx hx'
            have hm3 := List.mem_of_getElem? g3
            have ha : ordAns t os d3 = false ∧ SmallS d3 := by
              simp only [List.mem_cons, List.not_mem_nil, or_false] at hm3
              rcases hm3 with rfl | rfl | rfl | rfl | rfl | rfl
              · exact ⟨ord_no (by decide +kernel), by show ("" : Str).length ≤ 10000; decide +kernel⟩
              · exact ⟨rfl, trivial⟩
              · exact ⟨rfl, trivial⟩
              · exact ⟨rfl, trivial⟩
              · exact ⟨rfl, trivial⟩
              · have al : (c0.1 ++ ("abcdefgh" : Str)).length = c0.1.length + 8 := by
                  show (c0.1.cps ++ ("abcdefgh" : Str).cps).size = _
                  rw [Array.size_append, ← l8]
                  rfl
                exact ⟨ord_no (fun n => by have := n.2.1; omega), by show (c0.1 ++ ("abcdefgh" : Str)).length ≤ 10000; omega⟩
            have hx11 := s11 _ _ (W10.same _ _ hxx)
            walk_at "z"
            refine ⟨F10, _, x', d3, ts, os, t, rfl, W10.fh.trans s11, hs.same (s8.trans (s9.trans s10)), htm, hd3, ha.2, fun H12 s12 => ?_⟩
            rw [ha.1]
            walk_at "z"
            refine ⟨_, _, rfl, rfl, ?_⟩
            walk_at "z"
            exact ⟨⟨_, rfl⟩, s11.trans s12⟩
          · rintro σ H11 ⟨⟨v11, rfl⟩, s11⟩
            walk_at "z"
            exact ⟨⟨_, _, _, _, _, _, _, _, rfl⟩, (Z.Ws.init sm).exts (W10.same.trans s11)⟩
      · rintro σ H4 ⟨⟨v4, v5, v6, v7, v8, v9, v10, v11, rfl⟩, W4⟩
        have hx4 := W4.fh _ _ hsx
        walk_at "z"
        refine ⟨F0, _, ts, os, rfl, W4.fh, hs, fun F5 H5 r1 g5 hr1 => ?_⟩
        have W5 := W4.ext g5
        walk_at "z"
        refine ⟨ta, rfl, ⟨_, W5.fh.seq (g5.f.seq hta)⟩, fun D hD => ?_⟩
        refine lc_it walk_list (Z.LcP K D _ F0 H F5 (ts.map tabTD)) (Z.lc0 W5 hD) (fun i H' hi ⟨F', vs, W', s', _⟩ => ((g5.f.trans s').trans W'.fh).seq hta) ?_ ?_
        · rintro i x H1 H2 hi ⟨F1, vs, W1, s1, ha⟩ ⟨rfl, hx⟩
          obtain ⟨d, e1, e2⟩ := Z.dpa_ix htx hx
          rw [List.getElem?_map] at e1
          obtain ⟨t, hti, rfl⟩ := Option.map_eq_some_iff.mp e1
          have e2 := Z.dp_same (g5.f.trans s1) e2
          refine Z.gtupD e2 W1.fh fun ys hys => ?_
          obtain ⟨x1, x2, rfl, hx1, hx2⟩ := Z.dpa2 hys
          cases Z.dp_str hx1
          obtain ⟨ca, cx, rfl, hca, hcx⟩ := Z.dp_lst hx2
          walk_at "z"
          refine ⟨rfl, ?_⟩
          walk_at "z"
          refine ⟨ca, cx, rfl, .inl ⟨W1.fh.seq hca, fun l hl => ?_⟩⟩
          have W2 := W1.dat (o := .tup cx) hl
          have s2 := Z.same_new (o := .tup cx) (W1.freeF hl)
          have g2 : upd F1 l (.tup cx) l = _ := upd_same
          generalize upd H2 l (.tup cx) = H3 at W2 ⊢
          generalize upd F1 l (.tup cx) = F2 at W2 s2 g2
          walk_at "z"
          refine Z.tupD (K := K) W2 (.cons (.str t.1) (.cons (.tup (SqT.of g2) (Z.dpa_same s2 hcx)) .nil)) fun r F3 H3 W3 s3 hr => ?_
          exact Z.lcS W3 (s1.trans (s2.trans s3)) (Z.dpa_same (s2.trans s3) ha) (by rw [List.getElem?_map, hti]; rfl) hr (by rw [List.length_map]; omega)
        · rintro H1 ⟨F1, vs, W1, s1, ha⟩
          rw [htl, ← List.length_map (f := tabTD), List.take_length] at ha
          walk_at "z"
          refine ⟨D, vs, rfl, .inl ⟨SqL.of (W1.at 0 rfl), fun p hp => ?_⟩⟩
          have W2 := W1.dat (o := .tup vs) hp
          have s2 := Z.same_new (o := .tup vs) (W1.freeF hp)
          have hd2 : Dp K (upd F1 p (.tup vs)) (.ref p) (.tuple (ts.map tabTD)) := .tup (SqT.of upd_same) (Z.dpa_same s2 ha)
          generalize upd H1 p (.tup vs) = H2 at W2 ⊢
          generalize upd F1 p (.tup vs) = F2 at W2 s2 hd2
          walk_at "z"
          refine ⟨oa, ox, rfl, .inl ⟨W2.fh.seq ((g5.f.trans (s1.trans s2)).seq hoa), fun q hq => ?_⟩⟩
          have W3 := W2.dat (o := .tup ox) hq
          have s3 := Z.same_new (o := .tup ox) (W2.freeF hq)
          have hd3 : Dp K (upd F2 q (.tup ox)) (.ref q) (.tuple (os.map pairD)) := .tup (SqT.of upd_same) (Z.dpa_same (g5.f.trans (s1.trans (s2.trans s3))) hox)
          generalize upd H2 q (.tup ox) = H3 at W3 ⊢
          generalize upd F2 q (.tup ox) = F3 at W3 s3 hd3
          walk_at "z"
          refine Z.tupD (K := K) W3 (.cons (Z.dp_same s3 hd2) (.cons hd3 .nil)) fun r4 F4 H4 W4 s4 hr4 => ?_
          refine Z.eqD (Z.dp_same (s1.trans (s2.trans (s3.trans s4))) hr1) hr4 W4.fh (shaped_told tk ok) (shaped_told tk ok) ?_
          rw [eqv_self (shaped_told tk ok)]
          exact k _ W4.same

/-! ### rows -/
theorem ixDa {K : PySem.W.Frag} {F H : Hp} {Q : VK} {v : V} {ds : List PyData} {z : Int} (h : Dp K F v (.list ds)) (s : Same F H) (h0 : 0 ≤ z) (h1 : z < ds.length) (k : ∀ w d, d ∈ ds → ds[z.toNat]? = some d → Dp K F w d → Q w H) : rIxL K v (.int z) H Q := by
  have e : ds[z.toNat]? = some (ds[z.toNat]'(by omega)) := List.getElem?_eq_getElem _
  have := Z.ixD h s z.toNat e fun w hw => k w _ (List.getElem_mem _) e hw
  rwa [show ((z.toNat : Nat) : Int) = z by omega] at this
theorem ixTa {K : PySem.W.Frag} {F H : Hp} {Q : VK} {v : V} {ds : List PyData} {z : Int} (h : Dp K F v (.tuple ds)) (s : Same F H) (h0 : 0 ≤ z) (h1 : z < ds.length) (k : ∀ w d, d ∈ ds → Dp K F w d → Q w H) : rIxT K v (.int z) H Q := by
  have e : ds[z.toNat]? = some (ds[z.toNat]'(by omega)) := List.getElem?_eq_getElem _
  have := Z.ixT h s z.toNat e fun w hw => k w _ (List.getElem_mem _) hw
  rwa [show ((z.toNat : Nat) : Int) = z by omega] at this
def RowOk (cs : List Col) (ds : List PyData) : Prop := ds.length = cs.length ∧ ∀ (j : Nat) (c : Col) (d : PyData), cs[j]? = some c → ds[j]? = some d → ValD c.2 d
theorem ValD.ok {kd : Str} {d : PyData} (h : ValD kd d) : valOk kd d = true := by
  rcases h with ⟨rfl, z, rfl, n⟩ | ⟨rfl, i, rfl, h0, h1⟩
  · show (if _ then named _ else _) = true
    rw [if_pos rfl]
    exact decide_eq_true n
  · show (if _ then _ else numb _) = true
    rw [if_neg (by decide +kernel)]
    exact decide_eq_true ⟨h0, h1⟩
theorem RowOk.fits {cs : List Col} {ds : List PyData} (h : RowOk cs ds) : fitsD cs (.tuple ds) = true := by
  show (decide (ds.length = cs.length) && ((cs.zip ds).all fun p => valOk p.1.2 p.2)) = true
  rw [decide_eq_true h.1, Bool.true_and, List.all_eq_true]
  rintro ⟨c, d⟩ hm
  obtain ⟨j, hj⟩ := List.mem_iff_getElem?.mp hm
  rw [List.getElem?_zip_eq_some] at hj
  exact (h.2 j c d hj.1 hj.2).ok
/-- what stands in a row -/
def Item0 (d : PyData) : Prop := (∃ i, d = .int i) ∨ (∃ b, d = .bool b) ∨ d = .none ∨ ∃ z, d = .str z ∧ z.length ≤ 1000 ∧ PyData.strOk z = true
def Item (d : PyData) : Prop := Item0 d ∨ ∃ es, d = .tuple es
def Thing (d : PyData) : Prop := (∃ ds, d = .tuple ds ∧ ds.length ≤ 100 ∧ ∀ e ∈ ds, Item e) ∨ Item0 d ∨ ∃ ds, d = .list ds
theorem ValD.item {kd : Str} {d : PyData} (h : ValD kd d) : Item0 d := by
  rcases h with ⟨rfl, z, rfl, n⟩ | ⟨rfl, i, rfl, h0, h1⟩
  · exact .inr (.inr (.inr ⟨z, rfl, by have := n.2.1; omega, n.ok⟩))
  · exact .inl ⟨i, rfl⟩
theorem RowOk.items {cs : List Col} {ds : List PyData} (h : RowOk cs ds) : ∀ e ∈ ds, Item0 e := fun e he => by
  obtain ⟨j, hj⟩ := List.mem_iff_getElem?.mp he
  have hl := (List.getElem?_eq_some_iff.mp hj).1
  have := h.1
  exact (h.2 j _ e (List.getElem?_eq_getElem (by omega)) hj).item
theorem Item.small {d : PyData} (h : Item d) : SmallS d := by
  rcases h with (⟨i, rfl⟩ | ⟨b, rfl⟩ | rfl | ⟨z, rfl, hz, _⟩) | ⟨es, rfl⟩
  · trivial
  · trivial
  · trivial
  · show z.length ≤ 10000
    omega
  · trivial
theorem Thing.small {d : PyData} (h : Thing d) : AllSmall d := by
  rcases h with ⟨ds, rfl, hl, hi⟩ | (⟨i, rfl⟩ | ⟨b, rfl⟩ | rfl | ⟨z, rfl, hz, _⟩) | ⟨es, rfl⟩
  · exact ⟨by omega, fun d hd => (hi d hd).small⟩
  all_goals trivial
def sp_law_row (K : PySem.W.Frag) (A : Adr) : Sp := fun vs H Q _ => ∃ (F : Hp) (cv dv : V) (cs : List Col) (xs : List Int), vs = [cv, dv] ∧ Same F H ∧ Dp K F cv (.list (cs.map pairD)) ∧ ColsOk cs ∧ Dp K F dv (.list (xs.map .int)) ∧ cs.length ≤ xs.length ∧ (∀ x ∈ xs, 0 ≤ x) ∧
  ∀ F' H' r ds, Z.Gr F H F' H' → Dp K F' r (.tuple ds) → RowOk cs ds → Q r H'
theorem ok_law_row (T : Txt K mg A) : ∃ fd, FnOk P w K mg base CX0 4 A.f_law_row fd ["_law_columns", "_law_draws_here"] (sp_law_row K A) ∧ Binds K fd ["_law_columns", "_law_draws_here"] [] := by
  have ⟨fd, F, b⟩ := T.d_law_row
  refine ⟨fd, F.ok sc_law_row (fun vs H Q E h => ?_) (fun cdv Ar outer s H vs Q E hr h => ?_), b⟩
  · obtain ⟨F0, cv, dv, cs, xs, rfl, _⟩ := h
    rfl
  · obtain ⟨F0, cv, dv, cs, xs, rfl, sm, hc, ok, hd, hl, pos, k⟩ := h
    have nd := sc_law_row.nd
    have hu := hu_of hr
    have ⟨fd_law_value, G_law_value, b_law_value⟩ := ok_law_value (P := P) (w := w) (base := base) T
    refine ⟨_, (pss_one (ps_ret (pe_callTy call_tuple_of (by rfl) T.b_tuple (by decide +kernel) (pa_cons (pe_lc (own := [("_law_k", 2), ("_law_name", 3), ("_law_kind", 4)]) rfl nd (pi_enum (by rfl) T.b_enumerate (pa_cons (pv 0) pa_nil)) (blkOk_by (own := [("_law_k", 2), ("_law_name", 3), ("_law_kind", 4)]) (N := ["_law_columns", "_law_draws_here", "_law_k", "_law_name", "_law_kind"]) (sc := defScope s_law_row) (by decide +kernel)) (fun _ _ _ _ _ => (pg_tupK (K := K) (n := 2) rfl rfl (pgs_cons (pg_name (i := 2) nd rfl (Or.inl rfl)) (pgs_cons (pg_tupK (K := K) (n := 2) rfl rfl (pgs_cons (pg_name (i := 3) nd rfl (Or.inl rfl)) (pgs_cons (pg_name (i := 4) nd rfl (Or.inl rfl)) pgs_nil))) pgs_nil)))) (fun _ _ _ _ _ => pts_nil) (fun _ _ _ _ _ => (pe_call G_law_value (hr.mono (by decide)) (by rfl) T.g_law_value T.d_law_value.kp b_law_value .nil pass0 (pa_cons (pv 4) (pa_cons (pe_ix (ix_listK (K := K) rfl) (pv 1) (pv 2) (fun _ _ => rfl)) pa_nil))))) pa_nil)))), ?_⟩
    simp only [cxOf, Cx.nox, L2.start, List.map_cons, List.map_nil, List.length_cons, List.length_nil, Nat.reduceAdd, Nat.reduceSub, List.replicate, List.cons_append, List.nil_append]
    have chi := ok.hi
    obtain ⟨ca, cx, rfl, hca, hcx⟩ := Z.dp_lst hc
    have hcl := Z.dpa_len hcx
    rw [List.length_map] at hcl
    walk_at "z"
    refine ⟨ca, _, rfl, sm.seq hca, fun D hD => ?_⟩
    refine lc_it walk_enum (fun i H' => ∃ F' vs ds, Z.Ws [(D, .lst vs)] F0 H F' H' ∧ Same F0 F' ∧ DpAll K F' vs ds ∧ ds.length = i ∧ ∀ (j : Nat) (c : Col) (d : PyData), cs[j]? = some c → ds[j]? = some d → ValD c.2 d) ⟨F0, [], [], (Z.Ws.init sm).new hD, Same.refl _, .nil, rfl, fun j c d _ h => by simp at h⟩ (fun i H' hi ⟨_, _, _, W, s, _⟩ => (s.trans W.fh).seq hca) ?_ ?_
    · rintro i x H1 H2 hi ⟨F1, vs, ds, W1, s1, ha, hdl, hv⟩ ⟨T1, x1, x2, rfl, hT, rfl, e1, e2⟩
      cases e1
      have e2 : cx[i]? = some x2 := e2
      have W2 := W1.exts (Z.same_new (o := .tup [.int (i : Nat), x2]) hT)
      have gT : upd H1 T1 (.tup [.int (i : Nat), x2]) T1 = _ := upd_same
      generalize upd H1 T1 (.tup [.int (i : Nat), x2]) = H2 at W2 gT ⊢
      obtain ⟨d2, g1, g2⟩ := Z.dpa_ix hcx e2
      rw [List.getElem?_map] at g1
      obtain ⟨c, hci, rfl⟩ := Option.map_eq_some_iff.mp g1
      have ck := (ok.nm c (List.mem_of_getElem? hci)).2
      refine ⟨T1, _, rfl, SqT.of gT, rfl, ?_⟩
      walk_at "z"
      refine Z.gtupD (Z.dp_same s1 g2) W2.fh fun zs hzs => ?_
      obtain ⟨z1, z2, rfl, hz1, hz2⟩ := Z.dpa2 hzs
      cases Z.dp_str hz1
      cases Z.dp_str hz2
      walk_at "z"
      refine ⟨rfl, ?_⟩
      walk_at "z"
      have ex : xs[i]? = some (xs[i]'(by omega)) := List.getElem?_eq_getElem _
      have px := pos _ (List.mem_of_getElem? ex)
      refine Z.ixD (Z.dp_same s1 hd) W2.fh i (d := .int (xs[i]'(by omega))) (by rw [List.getElem?_map, ex]; rfl) fun w hw => ?_
      cases Z.dp_int hw
      walk_at "z"
      refine ⟨F1, c.2, _, rfl, W2.fh, ck, px, fun F3 H3 v d g3 hv3 hd3 => ?_⟩
      have W3 := W2.ext g3
      have hvl := Z.dpa_len ha
      refine ⟨vs, W3.at 0 rfl, Nat.lt_of_le_of_lt (show vs.length ≤ 1000 by omega) (by decide), F3, vs ++ [v], ds ++ [d], W3.set 0 rfl _, s1.trans g3.f, Z.dpa_snoc (Z.dpa_same g3.f ha) hv3, by rw [List.length_append, hdl]; rfl, fun j c' d' hc' hd' => ?_⟩
      by_cases e : j < i
      · rw [List.getElem?_append_left (by omega)] at hd'
        exact hv j c' d' hc' hd'
      · have hjl := (List.getElem?_eq_some_iff.mp hd').1
        rw [List.length_append, hdl] at hjl
        have hj : j = i := by simp at hjl; omega
        subst hj
        rw [hci] at hc'
        cases hc'
        rw [List.getElem?_append_right (by omega), hdl, Nat.sub_self] at hd'
        cases hd'
        exact hd3
    · rintro H1 ⟨F1, vs, ds, W1, s1, ha, hdl, hv⟩
      walk_at "z"
      refine ⟨D, vs, rfl, .inl ⟨SqL.of (W1.at 0 rfl), fun p hp => ?_⟩⟩
      have W2 := W1.dat (o := .tup vs) hp
      exact k _ _ _ ds W2.g (.tup (SqT.of upd_same) (Z.dpa_same (Z.same_new (W1.freeF hp)) ha)) ⟨by omega, hv⟩
def sp_law_spoilt (K : PySem.W.Frag) (A : Adr) : Sp := fun vs H Q _ => ∃ (F : Hp) (rv dv : V) (ds : List PyData) (x y : Int), vs = [rv, dv] ∧ Same F H ∧ Dp K F rv (.tuple ds) ∧ 1 ≤ ds.length ∧ ds.length ≤ 4 ∧ (∀ e ∈ ds, Item0 e) ∧ Dp K F dv (.list ([x, y].map .int)) ∧ 0 ≤ x ∧ 0 ≤ y ∧
  ∀ F' H' p vs es, Z.Ws [(p, .lst vs)] F H F' H' → DpAll K F' vs es → es.length ≤ 10 → (∀ e ∈ es, Thing e) → Q (.ref p) H'
theorem cutD_in {ds : List PyData} {lo hi : Option Int} : (Z.cutD ds lo hi).length ≤ ds.length ∧ ∀ e ∈ Z.cutD ds lo hi, e ∈ ds := by
  unfold Z.cutD
  exact ⟨by rw [List.length_take, List.length_drop]; omega, fun e he => List.mem_of_mem_drop (List.mem_of_mem_take he)⟩
theorem ok_law_spoilt (T : Txt K mg A) : ∃ fd, FnOk P w K mg base CX0 1 A.f_law_spoilt fd ["_law_row_here", "_law_draws_here"] (sp_law_spoilt K A) ∧ Binds K fd ["_law_row_here", "_law_draws_here"] [] := by
  have ⟨fd, F, b⟩ := T.d_law_spoilt
  refine ⟨fd, F.ok sc_law_spoilt (fun vs H Q E h => ?_) (fun cdv Ar outer s H vs Q E hr h => ?_), b⟩
  · obtain ⟨F0, rv, dv, ds, x, y, rfl, _⟩ := h
    rfl
  · obtain ⟨F0, rv, dv, ds, x, y, rfl, sm, hrow, lo, hi, it, hd, x0, y0, k⟩ := h
    have nd := sc_law_spoilt.nd
    have hu := hu_of hr
    refine ⟨_, (pss_cons (ps_set (i := 2) nd rfl (Or.inl rfl) (pe_op op_mod (pe_ix ix_list (pv 1) pe_int (fun _ _ => rfl)) (pe_callB call_len_seq (by rfl) T.b_len PySem.boot_len (pa_cons (pv 0) pa_nil))))
      (pss_cons (ps_set (i := 3) nd rfl (Or.inl rfl) (pe_ix ix_list (pe_lst (pa_cons pe_str (pa_cons pe_int (pa_cons (pe_op op_add (pe_op op_pow pe_int pe_int) pe_int) (pa_cons (pe_op op_sub (pe_op op_sub pe_int (pe_op op_pow pe_int pe_int)) pe_int) (pa_cons pe_bl (pa_cons pe_non (pa_cons pe_str (pa_cons pe_str (pa_cons pe_str (pa_cons (pe_tup (pa_cons pe_int pa_nil)) pa_nil))))))))))) (pe_op op_mod (pe_ix ix_list (pv 1) pe_int (fun _ _ => rfl)) pe_int) (fun _ _ => rfl)))
      (pss_one (ps_ret (pe_lst (pa_cons (pe_op op_catA (pe_op op_catA (pe_slice sl_tupA (pv 0) po_none (po_some (pv 2))) (pe_tup (pa_cons (pv 3) pa_nil))) (pe_slice sl_tupA (pv 0) (po_some (pe_op op_add (pv 2) pe_int)) po_none)) (pa_cons (pe_op op_catA (pe_slice sl_tupA (pv 0) po_none (po_some (pv 2))) (pe_slice sl_tupA (pv 0) (po_some (pe_op op_add (pv 2) pe_int)) po_none)) (pa_cons (pe_op op_catA (pv 0) (pe_tup (pa_cons (pe_ix ix_tup (pv 0) (pv 2) (fun _ _ => rfl)) pa_nil))) (pa_cons (pe_callTy call_list_of (by rfl) T.b_list (by decide +kernel) (pa_cons (pv 0) pa_nil)) (pa_cons (pe_ix ix_tup (pv 0) (pv 2) (fun _ _ => rfl)) (pa_cons pe_non pa_nil))))))))))), ?_⟩
    simp only [cxOf, Cx.nox, L2.start, List.map_cons, List.map_nil, List.length_cons, List.length_nil, Nat.reduceAdd, Nat.reduceSub, List.replicate, List.cons_append, List.nil_append]
    obtain ⟨ra, rx, erv, hra, hrx⟩ := Z.dp_tup hrow
    have hrl := Z.dpa_len hrx
    walk_at "z"
    refine Z.ixD hd sm 0 rfl fun w hw => ?_
    cases Z.dp_int hw
    walk_at "z"
    rw [erv]
    refine seqOf_len (Q := Q) (.inr (Z.seqT sm hra)) ?_
    rw [← erv]
    walk_at "z"
    obtain ⟨n, hn, hn4⟩ : ∃ n : Nat, x % (rx.length : Int) = (n : Int) ∧ n < ds.length := ⟨(x % (rx.length : Int)).toNat, by have := Int.emod_nonneg x (show (rx.length : Int) ≠ 0 by omega); omega, by have := Int.emod_lt_of_pos x (show (0 : Int) < rx.length by omega); have := Int.emod_nonneg x (show (rx.length : Int) ≠ 0 by omega); omega⟩
    rw [hn]
    refine Z.tupD (K := K) (Z.Ws.init sm) (.cons (.int 1) .nil) fun r1 F1 H1 W1 s1 hr1 => ?_
    walk_at "z"
    refine Z.lstD (K := K) W1 (.cons (.str _) (.cons (.int _) (.cons (.int _) (.cons (.int _) (.cons (.bl _) (.cons .non (.cons (.str _) (.cons (.str _) (.cons (.str _) (.cons hr1 .nil)))))))))) fun r2 F2 H2 W2 s2 hr2 => ?_
    walk_at "z"
    refine Z.ixD (Z.dp_same (s1.trans s2) hd) W2.fh 1 rfl fun w hw => ?_
    cases Z.dp_int hw
    walk_at "z"
    refine ixDa hr2 W2.fh (by omega) (by simp only [List.length_cons, List.length_nil]; omega) fun ov od hod _ hov => ?_
    have iod : Item od := by
      simp only [List.mem_cons, List.not_mem_nil, or_false] at hod
      rcases hod with rfl | rfl | rfl | rfl | rfl | rfl | rfl | rfl | rfl | rfl
      · exact .inl (.inr (.inr (.inr ⟨_, rfl, by decide +kernel, by decide +kernel⟩)))
      · exact .inl (.inl ⟨_, rfl⟩)
      · exact .inl (.inl ⟨_, rfl⟩)
      · exact .inl (.inl ⟨_, rfl⟩)
      · exact .inl (.inr (.inl ⟨_, rfl⟩))
      · exact .inl (.inr (.inr (.inl rfl)))
      · exact .inl (.inr (.inr (.inr ⟨_, rfl, by decide +kernel, by decide +kernel⟩)))
      · exact .inl (.inr (.inr (.inr ⟨_, rfl, by decide +kernel, by decide +kernel⟩)))
      · exact .inl (.inr (.inr (.inr ⟨_, rfl, by decide +kernel, by decide +kernel⟩)))
      · exact .inr ⟨_, rfl⟩
    have hr2' := Z.dp_same (s1.trans s2) hrow
    walk_at "z"
    refine Z.slT W2 hr2' fun a1 F3 H3 W3 s3 h1 => ?_
    walk_at "z"
    refine Z.tupD (K := K) W3 (.cons (Z.dp_same s3 hov) .nil) fun a2 F4 H4 W4 s4 h2 => ?_
    walk_at "z"
    have L1 := cutD_in (ds := ds) (lo := none) (hi := some (n : Int))
    refine Z.catD W4 (Z.dp_same s4 h1) h2 (by simp only [List.length_cons, List.length_nil]; omega) fun a3 F5 H5 W5 s5 h3 => ?_
    walk_at "z"
    refine Z.slT W5 (Z.dp_same (s3.trans (s4.trans s5)) hr2') fun a4 F6 H6 W6 s6 h4 => ?_
    have L2 := cutD_in (ds := ds) (lo := some ((n : Int) + 1)) (hi := none)
    refine Z.catD W6 (Z.dp_same s6 h3) h4 (by rw [List.length_append]; simp only [List.length_cons, List.length_nil]; omega) fun a5 F7 H7 W7 s7 h5 => ?_
    have s27 : Same F2 F7 := s3.trans (s4.trans (s5.trans (s6.trans s7)))
    walk_at "z"
    refine Z.slT W7 (Z.dp_same s27 hr2') fun a6 F8 H8 W8 s8 h6 => ?_
    walk_at "z"
    refine Z.slT W8 (Z.dp_same (s27.trans s8) hr2') fun a7 F9 H9 W9 s9 h7 => ?_
    refine Z.catD W9 (Z.dp_same s9 h6) h7 (by omega) fun a8 F10 H10 W10 s10 h8 => ?_
    have s210 : Same F2 F10 := s27.trans (s8.trans (s9.trans s10))
    walk_at "z"
    have en : ds[n]? = some ds[n] := List.getElem?_eq_getElem hn4
    refine Z.ixT (Z.dp_same s210 hr2') W10.fh n en fun w1 hw1 => ?_
    walk_at "z"
    refine Z.tupD (K := K) W10 (.cons hw1 .nil) fun a9 F11 H11 W11 s11 h9 => ?_
    walk_at "z"
    refine Z.catD W11 (Z.dp_same (s210.trans s11) hr2') h9 (by simp only [List.length_cons, List.length_nil]; omega) fun a10 F12 H12 W12 s12 h10 => ?_
    have s212 : Same F2 F12 := s210.trans (s11.trans s12)
    walk_at "z"
    obtain ⟨ra2, rx2, erv2, hra2, hrx2⟩ := Z.dp_tup (Z.dp_same s212 hr2')
    rw [erv2]
    refine ⟨ra2, rx2, rfl, .inr (Z.seqT W12.fh hra2), fun l hl => ?_⟩
    rw [← erv2]
    have W13 := W12.dat (o := .lst rx2) hl
    have s13 := Z.same_new (o := .lst rx2) (W12.freeF hl)
    have h11 : Dp K (upd F12 l (.lst rx2)) (.ref l) (.list ds) := .lst (SqL.of upd_same) (Z.dpa_same s13 hrx2)
    generalize upd H12 l (.lst rx2) = H13 at W13 ⊢
    generalize upd F12 l (.lst rx2) = F13 at W13 s13 h11
    walk_at "z"
    refine Z.ixT (Z.dp_same (s212.trans s13) hr2') W13.fh n en fun w2 hw2 => ?_
    walk_at "z"
    refine Z.lstW W13 fun p H14 W14 => ?_
    have idn : ∀ e ∈ ds, Item e := fun e he => .inl (it e he)
    refine k F13 H14 p _ [.tuple (Z.cutD ds none (some (n : Int)) ++ [od] ++ Z.cutD ds (some ((n : Int) + 1)) none), .tuple (Z.cutD ds none (some (n : Int)) ++ Z.cutD ds (some ((n : Int) + 1)) none), .tuple (ds ++ [ds[n]]), .list ds, ds[n], .none] W14
      (.cons (Z.dp_same (s8.trans (s9.trans (s10.trans (s11.trans (s12.trans s13))))) h5) (.cons (Z.dp_same (s11.trans (s12.trans s13)) h8) (.cons (Z.dp_same s13 h10) (.cons h11 (.cons hw2 (.cons .non .nil)))))) (by simp only [List.length_cons, List.length_nil]; omega) fun e he => ?_
    simp only [List.mem_cons, List.not_mem_nil, or_false] at he
    rcases he with rfl | rfl | rfl | rfl | rfl | rfl
    · refine .inl ⟨_, rfl, by simp only [List.length_append, List.length_cons, List.length_nil]; omega, fun e he => ?_⟩
      rcases List.mem_append.mp he with h | h
      · rcases List.mem_append.mp h with h | h
        · exact idn e (L1.2 e h)
        · rw [List.mem_singleton.mp h]; exact iod
      · exact idn e (L2.2 e h)
    · refine .inl ⟨_, rfl, by rw [List.length_append]; omega, fun e he => ?_⟩
      rcases List.mem_append.mp he with h | h
      · exact idn e (L1.2 e h)
      · exact idn e (L2.2 e h)
    · refine .inl ⟨_, rfl, by simp only [List.length_append, List.length_cons, List.length_nil]; omega, fun e he => ?_⟩
      rcases List.mem_append.mp he with h | h
      · exact idn e h
      · rw [List.mem_singleton.mp h]; exact idn _ (List.getElem_mem _)
    · exact .inr (.inr ⟨_, rfl⟩)
    · exact .inr (.inl (it _ (List.getElem_mem _)))
    · exact .inr (.inl (.inr (.inr (.inl rfl))))

/-! ### zip(a list, a tuple) -/
namespace ZM
open PySem PySem.Spec L2 PyProof.Rows RZ
section
variable {prog : Program} {w : World} {A : Around} {E : Value → Shared → Prop} {s : Shared}
abbrev it1 (h : Heap) (a : Addr) : Heap := h.push { cls := .type "list_iterator", data := .fields #[.ref a, .int 0 0] }
abbrev it2 (h : Heap) (a b : Addr) : Heap := (it1 h a).push { cls := .type "tuple_iterator", data := .fields #[.ref b, .int 0 0] }
abbrev it3 (h : Heap) (a b : Addr) : Heap := (it2 h a b).push { cls := .type "tuple", data := .seq #[.ref h.objs.size, .ref (it1 h a).objs.size] }
abbrev it4 (h : Heap) (a b : Addr) : Heap := (it3 h a b).push { cls := .type "tuple", data := .seq #[.none, .none] }
abbrev it5 (h : Heap) (a b : Addr) : Heap := (it4 h a b).push { cls := .type "zip", data := .fields #[.none, .bool false, .bool false, .ref (it2 h a b).objs.size, .ref (it3 h a b).objs.size] }
theorem made (a b : Addr) (xs ys : Array Value) :
    Meets (Builtin.«zip.__new__» ⟨[.type "zip", .ref a, .ref b], []⟩) (fun _ R s => (s.heap.IsList a xs ∧ s.heap.IsTuple b ys) ∧ R (.ok (.ret (.ref (it4 s.heap a b).objs.size))) { s with heap := it5 s.heap a b }) := by
  refine .of_wp fun prog w A R s k => ?_
  obtain ⟨hp, g, d, tk, os⟩ := s
  obtain ⟨⟨ka, kb⟩, k⟩ := k
  have z0 := sub_zip
  have la : Heap.IsList (Shared.heap ⟨hp, g, d, tk, os⟩) a xs := ka
  have lb : Heap.IsTuple (Shared.heap ⟨it1 hp a, g, d, tk, os⟩) b ys := Heap.IsTuple.push kb _
  wp_walk using wpAny_pyIter_list la, wpAny_pyIter_tuple lb
  exact ⟨_, rfl, k⟩
/-- what stands behind the call -/
structure Born (h h' : Heap) (a b : Addr) : Prop where
  z : IsZip h' (h.objs.size + 4) (h.objs.size + 2) (h.objs.size + 3) .none
  ti : IsPair h' (h.objs.size + 2) (.ref h.objs.size) (.ref (h.objs.size + 1))
  to : IsPair h' (h.objs.size + 3) .none .none
  i1 : h'.IsListIter h.objs.size a 0
  i2 : h'.IsTupleIter (h.objs.size + 1) b 0
  sz : h'.objs.size = h.objs.size + 5
  kp : ∀ c o, h.get? c = some o → h'.get? c = some o
theorem born (h : Heap) (a b : Addr) : (it4 h a b).objs.size = h.objs.size + 4 ∧ Born h (it5 h a b) a b := by
  have n1 : (it1 h a).objs.size = h.objs.size + 1 := Heap.size_push ..
  have n2 : (it2 h a b).objs.size = h.objs.size + 2 := by rw [Heap.size_push, n1]
  have n3 : (it3 h a b).objs.size = h.objs.size + 3 := by rw [Heap.size_push, n2]
  have n4 : (it4 h a b).objs.size = h.objs.size + 4 := by rw [Heap.size_push, n3]
  have up : ∀ {c : Addr} {o : Obj} (u : Obj) {k : Heap}, k.get? c = some o → (k.push u).get? c = some o := fun u _ e => Heap.get?_push_of_some u e
  have e5 : (it5 h a b).get? (it4 h a b).objs.size = some _ := Heap.get?_push_size _ rfl
  have e4 : (it4 h a b).get? (it3 h a b).objs.size = some _ := Heap.get?_push_size _ rfl
  have e3 : (it3 h a b).get? (it2 h a b).objs.size = some _ := Heap.get?_push_size _ rfl
  have e2 : (it2 h a b).get? (it1 h a).objs.size = some _ := Heap.get?_push_size _ rfl
  have e1 : (it1 h a).get? h.objs.size = some _ := Heap.get?_push_size _ rfl
  have f4 := up { cls := .type "zip", data := .fields #[.none, .bool false, .bool false, .ref (it2 h a b).objs.size, .ref (it3 h a b).objs.size] } e4
  have f3 := up { cls := .type "zip", data := .fields #[.none, .bool false, .bool false, .ref (it2 h a b).objs.size, .ref (it3 h a b).objs.size] } (up { cls := .type "tuple", data := .seq #[.none, .none] } e3)
  have g2 : (it5 h a b).get? (h.objs.size + 1) = some { cls := .type "tuple_iterator", data := .fields #[.ref b, .int 0 0] } := by
    rw [← n1]
    exact up _ (up _ (up _ e2))
  refine ⟨n4, by show _ = _; rw [← n2, ← n3, ← n4]; exact e5, by show _ = _; rw [← n2, ← n1]; exact f3, by show _ = _; rw [← n3]; exact f4, ⟨_, up _ (up _ (up _ (up _ e1))), rfl, rfl⟩, ⟨_, g2, rfl, rfl⟩, by rw [Heap.size_push, n4], fun c o e => up _ (up _ (up _ (up _ (up _ e))))⟩
theorem callM {a b : Addr} {xs ys : Array Value} {Q : Value → Shared → Prop} (ha : s.heap.IsList a xs) (hb : s.heap.IsTuple b ys)
    (k : ∀ h', Born s.heap h' a b → Q (.ref (s.heap.objs.size + 4)) { s with heap := h' }) : wpAny (model prog w) A (PySem.call (.type "zip") [.ref a, .ref b]) Q E s := by
  obtain ⟨n4, B⟩ := born s.heap a b
  refine callType_new F.called_zip (by decide) (F.typeCall_zip_2 _ _) (F.newCall_zip_2 _ _) (fun o => F.args_object_init_3 o _ _) F.entry_zip_new (made a b xs ys) ⟨⟨ha, hb⟩, ?_⟩
  show _ ∧ _
  rw [n4]
  exact ⟨⟨_, B.z, rfl⟩, k _ B⟩
end
/-- the list at a, the tuple at b, the items in new pairs -/
def It2 (K : PySem.W.Frag) (a b : Addr) : It :=
  ⟨fun i H => ∃ (xs ys : List V), SqL K H a xs ∧ SqT K H b ys ∧ i < xs.length ∧ i < ys.length,
    fun i H v H' => ∃ T x y, v = .ref T ∧ H T = none ∧ H' = upd H T (.tup [x, y]) ∧ (∀ xs, SqL K H a xs → xs[i]? = some x) ∧ ∀ ys, SqT K H b ys → ys[i]? = some y,
    fun i H => ∃ xs ys : List V, SqL K H a xs ∧ SqT K H b ys ∧ i ≤ xs.length ∧ i ≤ ys.length ∧ (i = xs.length ∨ i = ys.length)⟩
theorem sep {z TI TO i1 i2 a b : Addr} (D : ZipApart z TI TO i1 i2 a b) : ZipSep2 z TI TO i1 i2 [i1, a] [i2, b] where
  TIz := D.TIz
  TOz := D.TOz
  TITO := D.TITO
  TIi1 := D.TIi1
  mem1 := by simp
  zf1 := by simp [Ne.symm D.i1z, Ne.symm D.l1z]
  Tf1 := by simp [D.TOi1, Ne.symm D.l1TO]
  TIi2 := D.TIi2
  mem2 := by simp
  zf2 := by simp [Ne.symm D.i2z, Ne.symm D.l2z]
  Tf2 := by simp [D.TOi2, Ne.symm D.l2TO]
  sep1_2 := by simp [D.i12, Ne.symm D.l2i1]
  sep2_1 := by simp [Ne.symm D.i12, Ne.symm D.l1i2]
theorem turnM {P : Program} {w : World} {K : PySem.W.Frag} {elts : List Expr} {kk : Nat} {tpos : Pos} {a b z TI TO i1 i2 : Addr} (D : ZipApart z TI TO i1 i2 a b) :
    Turn P w K (.Tuple elts kk tpos) (It2 K a b) [z, TI, TO, i1, i2] z (fun i h => IsZip h z TI TO .none ∧ IsPair h TI (.ref i1) (.ref i2) ∧ (∃ x y, IsPair h TO x y) ∧ h.IsListIter i1 a i ∧ h.IsTupleIter i2 b i) where
  mem := List.mem_cons_self
  obj := by
    rintro i h ⟨hz, hi, ⟨x, y, ho⟩, ⟨o1, p1, _, d1⟩, ⟨o2, p2, _, d2⟩⟩ c hc
    simp only [List.mem_cons, List.not_mem_nil, or_false] at hc
    rcases hc with rfl | rfl | rfl | rfl | rfl
    · exact ⟨_, hz, fun v q => nomatch q⟩
    · exact ⟨_, hi, fun v q => nomatch q⟩
    · exact ⟨_, ho, fun v q => nomatch q⟩
    · exact ⟨o1, p1, fun v q => by rw [d1] at q; cases q⟩
    · exact ⟨o2, p2, fun v q => by rw [d2] at q; cases q⟩
  keep := by
    rintro i h h' ⟨hz, hi, ⟨x, y, ho⟩, p1, p2⟩ kp
    have m : ∀ c ∈ [z, TI, TO, i1, i2], ∀ o, h.get? c = some o → h'.get? c = some o := kp
    simp only [List.forall_mem_cons] at m
    obtain ⟨mz, mi, mo, m1, m2, _⟩ := m
    exact ⟨mz _ hz, mi _ hi, ⟨x, y, mo _ ho⟩, p1.at fun o e => m1 o e, p2.at fun o e => m2 o e⟩
  item := by
    intro X hP hw hK hc i pins s σ H E I hf st hg
    subst hP hw hK
    obtain ⟨hz, hti, ⟨x0, y0, hto⟩, p1, p2⟩ := st
    obtain ⟨xs, ys, qx, qy, lx, ly⟩ := hg
    obtain ⟨us, ru, pu, _⟩ := I.list qx
    obtain ⟨ws, rw', pw, _⟩ := I.tuple qy
    have nu := ru.length
    have nw := rw'.length
    have hzl : z < s.heap.objs.size := Heap.lt_size hz
    have hd : X.A.in1.handled = none := I.ok.hd hc
    refine wpAny_pyNext_zipD2_item (sep D) (Draws.list hd i1 a D.l1i1 us.toArray) (Draws.tuple hd i2 b D.l2i2 ws.toArray) hz hti hto ⟨p1, pu.isList⟩ ⟨p2, pw⟩ (by simp; omega) (by simp; omega) ?_
    intro u1 u2 h' tk e1 e2 z' to' s1 s2 hT hsz hk
    refine ⟨_, rfl, wpAny_letOwnedTupleGo_zip (s := { s with heap := h', toks := tk }) z' fun h'' z'' sb => ?_⟩
    have hT2 : h''.get? s.heap.objs.size = some { cls := .type "tuple", data := .seq #[u1, u2] } := (sb.2 _ (Nat.ne_of_gt hzl)).trans hT
    have ex : xs[i]? = some (xs[i]'lx) := List.getElem?_eq_getElem _
    have ey : ys[i]? = some (ys[i]'ly) := List.getElem?_eq_getElem _
    obtain ⟨v1, g1, r1⟩ := ru.get ex
    obtain ⟨v2, g2, r2⟩ := rw'.get ey
    have f1 : us[i]? = some u1 := by simpa using e1
    have f2 : ws[i]? = some u2 := by simpa using e2
    rw [f1] at g1
    rw [f2] at g2
    cases g1
    cases g2
    have new : ObjOk X.prog X.w (upd H s.heap.objs.size (.tup [xs[i]'lx, ys[i]'ly])) h'' s.heap.objs.size (.tup [xs[i]'lx, ys[i]'ly]) := ⟨by show 2 ≤ sizeLine; decide, [u1, u2], .cons r1 (.cons r2 .nil), ⟨_, hT2, rfl, _, rfl⟩⟩
    have off : ∀ c, c ∉ [z, TI, TO, i1, i2] → c ≠ z ∧ c ≠ TO ∧ c ≠ i1 ∧ c ≠ i2 := fun c hn => by
      simp only [List.mem_cons, List.not_mem_nil, or_false, not_or] at hn
      exact ⟨hn.1, hn.2.2.1, hn.2.2.2.1, hn.2.2.2.2⟩
    have J : Inv X pins σ (upd H s.heap.objs.size (.tup [xs[i]'lx, ys[i]'ly])) { s with heap := h'', toks := tk } :=
      I.turnedNew (t' := tk) (ch := [z, TI, TO, i1, i2]) (fun c o hn q => by
        obtain ⟨a1, a2, a3, a4⟩ := off c hn
        exact (sb.2 c a1).trans (hk c o a1 a2 a3 a4 q)) hf (Nat.le_refl _) new
    refine ⟨.ref s.heap.objs.size, _, J, rfl, ⟨_, _, _, rfl, I.hok.fresh (Nat.le_refl _), rfl, fun l hl => by rw [I.list_inj hl qx]; exact ex, fun l hl => by rw [I.tuple_inj hl qy]; exact ey⟩,
      ⟨z'', (sb.2 _ D.TIz).trans (hk _ _ D.TIz D.TITO D.TIi1 D.TIi2 hti), ⟨u1, u2, (sb.2 _ D.TOz).trans to'⟩, s1.1.at fun o q => (sb.2 _ D.i1z).trans q, s2.1.at fun o q => (sb.2 _ D.i2z).trans q⟩, fun c hcm => ?_⟩
    have hlt : c < s.heap.objs.size := by
      obtain ⟨o1, p1, _⟩ := p1
      obtain ⟨o2, p2, _⟩ := p2
      simp only [List.mem_cons, List.not_mem_nil, or_false] at hcm
      rcases hcm with rfl | rfl | rfl | rfl | rfl
      · exact hzl
      · exact Heap.lt_size hti
      · exact Heap.lt_size hto
      · exact Heap.lt_size p1
      · exact Heap.lt_size p2
    rw [upd_ne (Nat.ne_of_lt hlt)]
    exact (hf c hcm).1
  done := by
    intro X hP hw hK hc i pins s σ H E I hf st hg
    subst hP hw hK
    obtain ⟨hz, hti, ⟨x0, y0, hto⟩, p1, p2⟩ := st
    obtain ⟨xs, ys, qx, qy, lx, ly, lend⟩ := hg
    obtain ⟨us, ru, pu, _⟩ := I.list qx
    obtain ⟨ws, rw', pw, _⟩ := I.tuple qy
    have nu := ru.length
    have nw := rw'.length
    have hd : X.A.in1.handled = none := I.ok.hd hc
    refine wpAny_pyNext_zipD2_end (sep D) (Draws.list hd i1 a D.l1i1 us.toArray) (Draws.tuple hd i2 b D.l2i2 ws.toArray) hz hti hto ⟨p1, pu.isList⟩ ⟨p2, pw⟩ (by simp; omega) (by simp; omega) (lend.imp (fun e => by simp; omega) (fun e => by simp; omega)) ?_
    intro h' tk hk
    refine ⟨rfl, I.turnedL (t' := tk) (ch := [z, TI, TO, i1, i2]) (fun c o hn q => ?_) hf⟩
    simp only [List.mem_cons, List.not_mem_nil, or_false, not_or] at hn
    exact hk c o hn.1 hn.2.2.1 hn.2.2.2.1 hn.2.2.2.2 q
  self := fun A i s Q E st h => wpAny_pyIter_zip st.1 h
def iZipM (K : PySem.W.Frag) (ta : TA) : TI := fun σ H R => ta σ H fun vs H1 => ∃ a b xs ys, vs = [.ref a, .ref b] ∧ SqL K H1 a xs ∧ SqT K H1 b ys ∧ R (It2 K a b) H1
theorem pi_zipM {X : Cx} {e e2 : Expr} {ta : TA} {p pos tpos : Pos} {elts : List Expr} {kk : Nat} (hg : Gl X "zip") (hm : X.mg "zip" = none) (ha : PA X [e, e2] ta) (hs : starEach [e, e2] X.env = (false, eval e X.env) :: starEach [e2] X.env := by rfl)
    (hpl : (backTo pos (starEach [e2] X.env)).any (·.1) = false := by rfl) : PI X (.Tuple elts kk tpos) (.Call (.Name "zip" p) [e, e2] [] pos) (iZipM X.K ta) := by
  refine ⟨fun pins s σ H R I h => ?_⟩
  refine Call_ (ld_blt I hg hm PyProof.Rows.boot_zip (PyProof.Rows.callWith_type1 (thn (ha.run pos pins s σ H _ I h) fun us s1 ⟨vs, H1, I1, r1, q1⟩ => ?_) hs hpl))
  obtain ⟨a, b, xs, ys, rfl, qx, qy, q⟩ := q1
  obtain ⟨u1, u2, rfl, c1, c2⟩ := vals2 r1
  cases (show u1 = Value.ref a from c1)
  cases (show u2 = Value.ref b from c2)
  obtain ⟨us, ru, pu, _⟩ := I1.list qx
  obtain ⟨ws, rw', pw, _⟩ := I1.tuple qy
  obtain ⟨o2, ho2, _⟩ := id pw
  refine callM pu.isList pw fun h' B => wpAny_pyIter_zip B.z ?_
  have J : Inv X pins σ H1 { s1 with heap := h' } := I1.kept (t' := s1.toks) B.kp
  refine ⟨s1.heap.objs.size + 4, [s1.heap.objs.size + 4, s1.heap.objs.size + 2, s1.heap.objs.size + 3, s1.heap.objs.size, s1.heap.objs.size + 1], _, _, H1, rfl, J, turnM (PySem.W.ktu_apart s1.heap.objs.size a b pu.lt (Heap.lt_size ho2)), ⟨B.z, B.ti, ⟨_, _, B.to⟩, B.i1, B.i2⟩, fun c hcm => ?_, q⟩
  have hle : s1.heap.objs.size ≤ c := by
    simp only [List.mem_cons, List.not_mem_nil, or_false] at hcm
    rcases hcm with rfl | rfl | rfl | rfl | rfl
    · exact Nat.le_add_right _ _
    · exact Nat.le_add_right _ _
    · exact Nat.le_add_right _ _
    · exact Nat.le_refl _
    · exact Nat.le_add_right _ _
  exact I1.fpOk hle (I1.hok.fresh hle)
/-- a loop over zip of a list and a tuple of one length -/
theorem for_zipM {K : PySem.W.Frag} {a b : Addr} {xs ys : List V} {g : TG} {tb : TS} {D : Ends} {σ : L2.St} {H : Hp} (hl : xs.length = ys.length) (Pv : Nat → L2.St → Hp → Prop) (h0 : Pv 0 σ H) (hq : ∀ i σ H, Pv i σ H → SqL K H a xs ∧ SqT K H b ys)
    (hs : ∀ (i : Nat) (x y : V) (T : Addr) (σ : L2.St) (H : Hp), xs[i]? = some x → ys[i]? = some y → Pv i σ H → H T = none → g (.ref T) σ (upd H T (.tup [x, y])) fun σ2 H2 => tb { D with nx := Pv (i + 1), ct := Pv (i + 1), bk := D.nx } σ2 H2) (hd : ∀ σ H, Pv xs.length σ H → D.nx σ H) :
    ∃ W : Nat → Nat → L2.St → Hp → Prop, (∃ m, W 0 m σ H) ∧ ∀ i m σ H, W i m σ H →
      ((It2 K a b).stop i H ∧ D.nx σ H) ∨ ((It2 K a b).go i H ∧ ∃ N : L2.St → Hp → Prop, (∀ σ' H', N σ' H' → ∃ m', m' < m ∧ W (i + 1) m' σ' H') ∧ ∀ v H', (It2 K a b).yld i H v H' → g v σ H' fun σ2 H2 => tb { D with nx := N, ct := N, bk := D.nx } σ2 H2) :=
  for_it (J := It2 K a b) (n := xs.length) (G := fun H => SqL K H a xs ∧ SqT K H b ys) (Y := YPair (fun i => xs[i]?) (fun i => ys[i]?))
    ⟨fun i H hi q => ⟨xs, ys, q.1, q.2, hi, by omega⟩, fun H q => ⟨xs, ys, q.1, q.2, Nat.le_refl _, by omega, .inl rfl⟩, fun i H x H' hi q ⟨T, x', y', e, hT, e2, f1, f2⟩ => ⟨T, x', y', e, hT, e2, f1 xs q.1, f2 ys q.2⟩⟩
    Pv h0 (fun i σ H _ p => hq i σ H p) (fun i x σ H H' hi p ⟨T, x', y', e, hT, e2, f1, f2⟩ => by subst e e2; exact hs i x' y' T σ H f1 f2 p hT) hd
end ZM

theorem len_toList (z : Str) : z.cps.toList.length = z.length := Array.length_toList
/-- the signs of a text that are not of S, each a text, up to a place -/
def outs (S z : Str) (n : Nat) : List Str := ((z.cps.toList.take n).filter (fun c => !decide (c ∈ S.cps.toList))).map (fun c => ⟨#[c]⟩)
theorem outs_len (S z : Str) (n : Nat) : (outs S z n).length ≤ z.length := by
  unfold outs
  rw [List.length_map, ← len_toList]
  exact Nat.le_trans (List.length_filter_le _ _) (by rw [List.length_take]; omega)
theorem outs_in {S z : Str} {i c : Nat} (h : z.cps[i]? = some c) (hc : c ∈ S.cps.toList) : outs S z (i + 1) = outs S z i := by
  have e : z.cps.toList[i]? = some c := by rw [Array.getElem?_toList]; exact h
  unfold outs
  have hc' : c ∈ S.cps := by simpa using hc
  rw [List.take_add_one, e, List.filter_append]
  simp [hc']
theorem outs_out {S z : Str} {i c : Nat} (h : z.cps[i]? = some c) (hc : ¬ c ∈ S.cps.toList) : outs S z (i + 1) = outs S z i ++ [⟨#[c]⟩] := by
  have e : z.cps.toList[i]? = some c := by rw [Array.getElem?_toList]; exact h
  unfold outs
  have hc' : ¬ c ∈ S.cps := by simpa using hc
  rw [List.take_add_one, e, List.filter_append, List.map_append]
  simp [hc']
theorem outs_nil {S z : Str} : outs S z z.cps.size = [] ↔ InS S z := by
  unfold outs
  rw [List.map_eq_nil_iff, List.filter_eq_nil_iff, List.take_of_length_le (by simp)]
  exact ⟨fun h c hc => by simpa using h c hc, fun h c hc => by simpa using h c hc⟩
theorem outs_ok {S z : Str} {n : Nat} (h : PyData.strOk z = true) : ∀ x ∈ outs S z n, PyData.strOk x = true := fun x hx => by
  obtain ⟨c, hc, rfl⟩ := List.mem_map.mp hx
  have hz : c ∈ z.cps.toList := List.mem_of_mem_take (List.mem_filter.mp hc).1
  unfold PyData.strOk at *
  rw [Array.all_eq_true_iff_forall_mem] at h
  have := h c (by simpa using hz)
  simpa using this
theorem neNil {K : PySem.W.Frag} {H : Hp} {Q : VK} {a b : Addr} {xs : List Str} (ha : SqL K H a (xs.map V.str)) (hb : SqL K H b []) (h : ∀ x ∈ xs, PyData.strOk x = true) (hx : xs ≠ []) (k : Q (.bl true) H) : rNeD K (.ref a) (.ref b) H Q := by
  refine ⟨_, _, .lst ha (Z.dp_strs xs), .lst hb .nil, Z.shaped_strs h, Z.shaped_strs (xs := []) (fun x h => nomatch h), ?_⟩
  cases xs with
  | nil => exact (hx rfl).elim
  | cons x r =>
    rw [show PyData.eqv (.list ((x :: r).map PyData.str)) (.list []) = false by rw [PyData.eqv, List.map_cons, PyData.eqvAll]]
    exact k

theorem iZipME {K : PySem.W.Frag} {σ : L2.St} {H : Hp} {ta : TA} {R : It → Hp → Prop} (h : ta σ H fun vs H1 => ∃ a b xs ys, vs = [.ref a, .ref b] ∧ SqL K H1 a xs ∧ SqT K H1 b ys ∧ R (ZM.It2 K a b) H1) : ZM.iZipM K ta σ H R := h
theorem iStrE {σ : L2.St} {H : Hp} {te : TE} {R : It → Hp → Prop} (h : te σ H fun v H1 => ∃ x, v = .str x ∧ R (Its x) H1) : iStr te σ H R := h
local macro_rules | `(tactic| walk_at "z1") => `(tactic| first | (with_reducible refine iZipME ?_) | (with_reducible refine iStrE ?_))
theorem all_no {cs : List Col} {ds : List PyData} {i : Nat} {c : Col} {d : PyData} (h : (cs.zip ds)[i]? = some (c, d)) (hv : valOk c.2 d = false) : ((cs.zip ds).all fun p => valOk p.1.2 p.2) = false := by
  rw [Bool.eq_false_iff]
  intro h'
  have := List.all_eq_true.mp h' _ (List.mem_of_getElem? h)
  simp only [hv] at this
  cases this
theorem all_yes {cs : List Col} {ds : List PyData} {i : Nat} {c : Col} {d : PyData} (h : (cs.zip ds)[i]? = some (c, d)) (hv : valOk c.2 d = true) (hall : ((cs.zip ds).take i).all (fun p => valOk p.1.2 p.2) = true) : ((cs.zip ds).take (i + 1)).all (fun p => valOk p.1.2 p.2) = true := by
  rw [List.take_add_one, h, List.all_append, hall]
  simp [hv]
def sp_law_fits (K : PySem.W.Frag) (A : Adr) : Sp := fun vs H Q _ => ∃ (F : Hp) (cv rv : V) (cs : List Col) (d : PyData), vs = [cv, rv] ∧ Same F H ∧ Dp K F cv (.list (cs.map pairD)) ∧ ColsOk cs ∧ Dp K F rv d ∧ Thing d ∧ ∀ H', Same H H' → Q (.bl (fitsD cs d)) H'
theorem ok_law_fits (T : Txt K mg A) : ∃ fd, FnOk P w K mg base CX0 1 A.f_law_fits fd ["_law_columns", "_law_row_here"] (sp_law_fits K A) ∧ Binds K fd ["_law_columns", "_law_row_here"] [] := by
  have ⟨fd, F, b⟩ := T.d_law_fits
  refine ⟨fd, F.ok sc_law_fits (fun vs H Q E h => ?_) (fun cdv Ar outer s H vs Q E hr h => ?_), b⟩
  · obtain ⟨F0, cv, rv, cs, d, rfl, _⟩ := h
    rfl
  · obtain ⟨F0, cv, rv, cs, d, rfl, sm, hc, ok, hrw, th, k⟩ := h
    have nd := sc_law_fits.nd
    have hu := hu_of hr
    refine ⟨_, (pss_cons (ps_if (PW.pt (pw_or (pt_not (pt_val (pe_callB call_isi (by rfl) T.b_isinstance (by decide +kernel) (pa_cons (pv 1) (pa_cons (pe_bltn (v := .ty "tuple") (u := .type "tuple") (by rfl) T.b_tuple (by decide +kernel) rfl) pa_nil))))) (pw_or1 (pt_cmpR op_ne (pe_callB call_len_seq (by rfl) T.b_len PySem.boot_len (pa_cons (pv 1) pa_nil)) (pe_callB call_len_seq (by rfl) T.b_len PySem.boot_len (pa_cons (pv 0) pa_nil)) (nomark _))))) (pss_one (ps_ret pe_bl)) pss_nil)
      (pss_cons (ps_for PassesOwn.never rfl (ZM.pi_zipM (by rfl) T.b_zip (pa_cons (pv 0) (pa_cons (pv 1) pa_nil))) (pg_tup rfl (pgs_cons (pg_tup rfl (pgs_cons (pg_name (i := 2) nd rfl (Or.inl rfl)) (pgs_cons (pg_name (i := 3) nd rfl (Or.inl rfl)) pgs_nil))) (pgs_cons (pg_name (i := 4) nd rfl (Or.inl rfl)) pgs_nil))) (pss_one (ps_if (pt_cmpR op_eq (pv 3) pe_str (nomark _)) (pss_cons (ps_if (PW.pt (pw_or (pt_not (pt_val (pe_callB call_isi (by rfl) T.b_isinstance (by decide +kernel) (pa_cons (pv 4) (pa_cons (pe_bltn (v := .ty "str") (u := .type "str") (by rfl) T.b_str (by decide +kernel) rfl) pa_nil))))) (pw_or1 (pt_not (pt_chain op_le op_le pe_int (pe_callB call_len_str (by rfl) T.b_len PySem.boot_len (pa_cons (pv 4) pa_nil)) pe_int))))) (pss_one (ps_ret pe_bl)) pss_nil)
      (pss_one (ps_if (pt_cmpR (op_neD hr.units) (pe_lc (own := [("_law_sign", 5)]) rfl nd (pi_str (pv 4)) (blkOk_by (own := [("_law_sign", 5)]) (N := ["_law_columns", "_law_row_here", "_law_name", "_law_kind", "_law_value_here", "_law_sign"]) (sc := defScope s_law_fits) (by decide +kernel)) (fun _ _ _ _ _ => pg_name (i := 5) nd rfl (Or.inl rfl)) (fun _ _ _ _ _ => pts_one (pt_cmpR op_notIn_sign (pv 5) pe_str (by rfl))) (fun _ _ _ _ _ => (pv 5))) (pe_lst pa_nil) (nomark _)) (pss_one (ps_ret pe_bl)) pss_nil))) (pss_one (ps_if (PW.pt (pw_or (pt_not (pt_val (pe_callB call_isi (by rfl) T.b_isinstance (by decide +kernel) (pa_cons (pv 4) (pa_cons (pe_bltn (v := .ty "int") (u := .type "int") (by rfl) T.b_int (by decide +kernel) rfl) pa_nil))))) (pw_or (pt_val (pe_callB call_isi (by rfl) T.b_isinstance (by decide +kernel) (pa_cons (pv 4) (pa_cons (pe_bltn (v := .ty "bool") (u := .type "bool") (by rfl) T.b_bool (by decide +kernel) rfl) pa_nil)))) (pw_or1 (pt_cmpR op_gt (pe_callB call_abs (by rfl) T.b_abs (by decide +kernel) (pa_cons (pv 4) pa_nil)) (pe_op op_pow pe_int pe_int) (nomark _)))))) (pss_one (ps_ret pe_bl)) pss_nil)))))
      (pss_one (ps_ret pe_bl)))), ?_⟩
    simp only [cxOf, Cx.nox, L2.start, List.map_cons, List.map_nil, List.length_cons, List.length_nil, Nat.reduceAdd, Nat.reduceSub, List.replicate, List.cons_append, List.nil_append]
    obtain ⟨ca, cx, rfl, hca, hcx⟩ := Z.dp_lst hc
    have hcl := Z.dpa_len hcx
    rw [List.length_map] at hcl
    walk_at "z"
    refine Z.isiD hrw sm (by simp) ?_
    walk_at "z"
    cases hty : Z.isTy "tuple" d with
    | false =>
      rw [notTup hty] at k
      walk_at "z"
      exact k _ (Same.refl _)
    | true =>
      obtain ⟨ds, rfl⟩ := isTup hty
      have hit : ∀ e ∈ ds, Item e := by
        rcases th with ⟨ds', e, _, h⟩ | (⟨i, e⟩ | ⟨b, e⟩ | e | ⟨z, e, _⟩) | ⟨es, e⟩
        · cases e; exact h
        all_goals cases e
      obtain ⟨b, ys, rfl, g1, g2⟩ := Z.dp_tup hrw
      have glen := Z.dpa_len g2
      walk_at "z"
      refine seqOf_len (Q := Q) (.inr (Z.seqT sm g1)) ?_
      walk_at "z"
      refine seqOf_len (Q := Q) (.inl (sm.seq hca)) ?_
      walk_at "z"
      have ef : fitsD cs (.tuple ds) = (decide (ds.length = cs.length) && ((cs.zip ds).all fun p => valOk p.1.2 p.2)) := rfl
      refine Z.iteN (fun hne => ?_) (fun heq => ?_)
      · walk_at "z"
        rw [ef, decide_eq_false (fun e => hne (by rw [glen, hcl, e]))] at k
        exact k _ (Same.refl _)
      · have heq : ys.length = cx.length := by have := V.int.inj heq; omega
        rw [ef, decide_eq_true (show ds.length = cs.length by omega)] at k
        walk_at "z"
        refine Z.forE ?_
        walk_at "z"
        refine ⟨ca, b, cx, ys, rfl, sm.seq hca, Z.seqT sm g1, ?_⟩
        refine ZM.for_zipM heq.symm (fun i σ H' => (∃ v2 v3 v4 v5, σ = [some (.ref ca), some (.ref b), v2, v3, v4, v5]) ∧ Same H H' ∧ ((cs.zip ds).take i).all (fun p => valOk p.1.2 p.2) = true) ⟨⟨_, _, _, _, rfl⟩, Same.refl _, rfl⟩ (fun i σ H' P => ⟨(sm.trans P.2.1).seq hca, Z.seqT (sm.trans P.2.1) g1⟩) ?_ ?_
        · rintro i x1 y1 T σ H1 hx1 hy1 ⟨⟨v2, v3, v4, v5, rfl⟩, s1, hall⟩ hT
          have s2 := Z.same_new (o := .tup [x1, y1]) hT
          have gT : upd H1 T (.tup [x1, y1]) T = _ := upd_same
          generalize upd H1 T (.tup [x1, y1]) = H2 at s2 gT ⊢
          have s12 := s1.trans s2
          have s02 := sm.trans s12
          refine ⟨T, _, rfl, SqT.of gT, rfl, ?_⟩
          obtain ⟨c0, e1, hx2⟩ := Z.dpa_ix hcx hx1
          rw [List.getElem?_map] at e1
          obtain ⟨c, hc, rfl⟩ := Option.map_eq_some_iff.mp e1
          have ck := (ok.nm c (List.mem_of_getElem? hc)).2
          obtain ⟨d1, e2, hy2⟩ := Z.dpa_ix g2 hy1
          have hzip : (cs.zip ds)[i]? = some (c, d1) := by
            rw [List.getElem?_zip_eq_some]
            exact ⟨hc, e2⟩
          have hi1 := hit d1 (List.mem_of_getElem? e2)
          have knot : ∀ H', Same H2 H' → valOk c.2 d1 = false → Q (.bl false) H' := fun H' s hv => by
            have := k H' (s12.trans s)
            rw [all_no hzip hv] at this
            exact this
          have kyes : ∀ (hv : valOk c.2 d1 = true), ((cs.zip ds).take (i + 1)).all (fun p => valOk p.1.2 p.2) = true := fun hv => all_yes hzip hv hall
          walk_at "z"
          refine Z.gtupD hx2 s02 fun zs hzs => ?_
          obtain ⟨z1, z2, rfl, hz1, hz2⟩ := Z.dpa2 hzs
          cases Z.dp_str hz1
          cases Z.dp_str hz2
          walk_at "z"
          refine Z.iteD (fun hk => ?_) (fun hk => ?_)
          · have ek : c.2 = "word" := V.str.inj hk
            have ev : valOk c.2 d1 = named d1 := by rw [ek]; exact if_pos rfl
            rw [ev] at knot kyes
            walk_at "z"
            refine Z.isiD hy2 s02 (by simp) ?_
            walk_at "z"
            cases hts : Z.isTy "str" d1 with
            | false =>
              walk_at "z"
              exact knot _ (Same.refl _) (named_no hts)
            | true =>
              obtain ⟨z, rfl⟩ := isStr hts
              obtain ⟨hzl, hzo⟩ : z.length ≤ 1000 ∧ PyData.strOk z = true := by
                rcases hi1 with (⟨i, e⟩ | ⟨b, e⟩ | e | ⟨z', e, h1, h2⟩) | ⟨es, e⟩ <;> first | (cases e; exact ⟨h1, h2⟩) | cases e
              cases Z.dp_str hy2
              walk_at "z"
              refine ⟨z, rfl, Nat.le_trans hzl (by decide), ?_⟩
              walk_at "z"
              refine Z.iteD (fun h1 => ?_) (fun h1 => ?_)
              · walk_at "z"
                refine Z.iteN (fun h2 => ?_) (fun h2 => ?_)
                · walk_at "z"
                  exact knot _ (Same.refl _) (decide_eq_false fun n => h2 (by have := n.2.1; omega))
                · walk_at "z"
                  refine ⟨z, rfl, fun D hD => ?_⟩
                  refine lc_it walk_str (fun i H' => Z.Hs [(D, .lst ((outs LET z i).map .str))] H2 H') (Z.Hs.nil.new hD) (fun _ _ _ _ => True.intro) ?_ ?_
                  · rintro j x H3 H4 hj S ⟨rfl, cc, hcc, rfl⟩
                    refine ⟨rfl, ?_⟩
                    walk_at "z"
                    refine ⟨cc, _, rfl, rfl, ?_⟩
                    walk_at "z"
                    refine Z.iteN (fun h3 => ?_) (fun h3 => ?_)
                    · walk_at "z"
                      refine ⟨_, S.at 0 rfl, by rw [List.length_map]; exact Nat.lt_of_le_of_lt (Nat.le_trans (outs_len _ _ _) hzl) (by decide), ?_⟩
                      rw [outs_out (S := LET) hcc h3, List.map_append]
                      exact S.set 0 rfl _
                    · rw [outs_in (S := LET) hcc h3]
                      exact S
                  · rintro H3 S
                    walk_at "z"
                    refine ⟨Nat.zero_le _, fun p hp => ?_⟩
                    have S5 := S.new (o := .lst []) hp
                    by_cases hS : InS LET z
                    · have eo := outs_nil.mpr hS
                      have a5 := S5.at 1 rfl
                      rw [eo] at a5
                      refine Z.neStrs (xs := []) (SqL.of a5) (SqL.of (S5.at 0 rfl)) (fun x h => nomatch h) ?_
                      walk_at "z"
                      exact ⟨⟨_, _, _, _, rfl⟩, s12.trans S5.same, kyes (decide_eq_true ⟨by omega, by omega, hS⟩)⟩
                    · refine neNil (SqL.of (S5.at 1 rfl)) (SqL.of (S5.at 0 rfl)) (outs_ok hzo) (fun e => hS (outs_nil.mp e)) ?_
                      walk_at "z"
                      exact knot _ S5.same (decide_eq_false fun n => hS n.2.2)
              · walk_at "z"
                exact knot _ (Same.refl _) (decide_eq_false fun n => h1 (by have := n.1; omega))
          · have ek : c.2 ≠ "word" := fun e => hk (by rw [e])
            have ev : valOk c.2 d1 = numb d1 := if_neg ek
            rw [ev] at knot kyes
            walk_at "z"
            refine Z.isiD hy2 s02 (by simp) ?_
            rcases hi1 with (⟨n, rfl⟩ | ⟨bb, rfl⟩ | rfl | ⟨z', rfl, h1, h2⟩) | ⟨es, rfl⟩
            · cases Z.dp_int hy2
              rw [show Z.isTy "int" (.int n) = true from rfl]
              walk_at "z"
              refine Z.isiD (F := H2) (.int n) (Same.refl _) (by simp) ?_
              rw [show Z.isTy "bool" (.int n) = false from rfl]
              walk_at "z"
              refine ⟨n, rfl, ?_⟩
              walk_at "z"
              have e9 : (10 : Int) ^ Int.toNat 9 = 10 ^ 9 := rfl
              refine Z.iteD (fun h => ?_) (fun h => ?_)
              · walk_at "z"
                exact knot _ (Same.refl _) (decide_eq_false fun hh => by rw [e9] at h; split at h <;> omega)
              · walk_at "z"
                exact ⟨⟨_, _, _, _, rfl⟩, s12, kyes (decide_eq_true (by rw [e9] at h; split at h <;> omega))⟩
            · cases Z.dp_bool hy2
              rw [show Z.isTy "int" (.bool bb) = true from rfl]
              walk_at "z"
              refine Z.isiD (F := H2) (.bl bb) (Same.refl _) (by simp) ?_
              rw [show Z.isTy "bool" (.bool bb) = true from rfl]
              walk_at "z"
              exact knot _ (Same.refl _) rfl
            · rw [show Z.isTy "int" .none = false from rfl]
              walk_at "z"
              exact knot _ (Same.refl _) rfl
            · rw [show Z.isTy "int" (.str z') = false from rfl]
              walk_at "z"
              exact knot _ (Same.refl _) rfl
            · rw [show Z.isTy "int" (.tuple es) = false from rfl]
              walk_at "z"
              exact knot _ (Same.refl _) rfl
        · rintro σ H1 ⟨⟨v2, v3, v4, v5, rfl⟩, s1, hall⟩
          rw [List.take_of_length_le (by rw [List.length_zip]; omega)] at hall
          rw [hall] at k
          walk_at "z"
          exact k _ s1

def sp_law_rows (K : PySem.W.Frag) (A : Adr) : Sp := fun vs H Q _ => ∃ (F : Hp) (sv tv : V) (c : Int) (ts : List Tab) (os : List (Str × Str)), vs = [sv, tv, .int c] ∧ Same F H ∧ IsSch K A F sv ts os ∧ Dp K F tv (.list (ts.map tabD)) ∧ ∀ H', Same H H' → Q (.bl true) H'
theorem ok_law_rows (T : Txt K mg A) : ∃ fd, FnOk P w K mg base CX0 5 A.f_law_rows fd ["_law_schema_here", "_law_tables", "_law_cell_here"] (sp_law_rows K A) ∧ Binds K fd ["_law_schema_here", "_law_tables", "_law_cell_here"] [] := by
  have ⟨fd, F, b⟩ := T.d_law_rows
  refine ⟨fd, F.ok sc_law_rows (fun vs H Q E h => ?_) (fun cdv Ar outer s H vs Q E hr h => ?_), b⟩
  · obtain ⟨F0, sv, tv, c, ts, os, rfl, _⟩ := h
    rfl
  · obtain ⟨F0, sv, tv, c, ts, os, rfl, sm, hs, ht, k⟩ := h
    have nd := sc_law_rows.nd
    have hu := hu_of hr
    have ⟨fd_law_draws, G_law_draws, b_law_draws⟩ := ok_law_draws (P := P) (w := w) (base := base) T
    have ⟨fd_law_row, G_law_row, b_law_row⟩ := ok_law_row (P := P) (w := w) (base := base) T
    have ⟨fd_Schema_fits, G_Schema_fits, b_Schema_fits⟩ := ok_Schema_fits (P := P) (w := w) (base := base) T
    have ⟨fd_law_spoilt, G_law_spoilt, b_law_spoilt⟩ := ok_law_spoilt (P := P) (w := w) (base := base) T
    have ⟨fd_law_fits, G_law_fits, b_law_fits⟩ := ok_law_fits (P := P) (w := w) (base := base) T
    refine ⟨_, (pss_cons (ps_set (i := 3) nd rfl (Or.inl rfl) (pe_call G_law_draws (hr.mono (by decide)) (by rfl) T.g_law_draws T.d_law_draws.kp b_law_draws .nil pass0 (pa_cons (pv 2) (pa_cons pe_int pa_nil))))
      (pss_cons (ps_asg (pe_ix ix_list (pv 1) (pe_op op_mod (pe_ix ix_list (pv 3) pe_int (fun _ _ => rfl)) (pe_callB call_len_seq (by rfl) T.b_len PySem.boot_len (pa_cons (pv 1) pa_nil))) (fun _ _ => rfl)) (pg_tup rfl (pgs_cons (pg_name (i := 4) nd rfl (Or.inl rfl)) (pgs_cons (pg_name (i := 5) nd rfl (Or.inl rfl)) pgs_nil))))
      (pss_cons (ps_set (i := 6) nd rfl (Or.inl rfl) (pe_call G_law_row (hr.mono (by decide)) (by rfl) T.g_law_row T.d_law_row.kp b_law_row .nil pass0 (pa_cons (pv 5) (pa_cons (pe_slice sl_list (pv 3) (po_some pe_int) (po_some pe_int)) pa_nil))))
      (pss_cons (ps_if (pt_cmpR op_isnot_bl (pe_meth (pv 0) T.c_Schema T.m_Schema_fits G_Schema_fits (hr.mono (by decide)) b_Schema_fits .nil pass0 (pa_cons (pv 4) (pa_cons (pv 6) pa_nil))) pe_bl (nomark _)) (pss_one (ps_ret pe_bl)) pss_nil)
      (pss_cons (ps_set (i := 7) nd rfl (Or.inl rfl) (pe_call G_law_row (hr.mono (by decide)) (by rfl) T.g_law_row T.d_law_row.kp b_law_row .nil pass0 (pa_cons (pe_ix ix_tup (pe_ix ix_list (pv 1) (pe_op op_mod (pe_ix ix_list (pv 3) pe_int (fun _ _ => rfl)) (pe_callB call_len_seq (by rfl) T.b_len PySem.boot_len (pa_cons (pv 1) pa_nil))) (fun _ _ => rfl)) pe_int (fun _ _ => rfl)) (pa_cons (pe_slice sl_list (pv 3) (po_some pe_int) (po_some pe_int)) pa_nil))))
      (pss_cons (ps_for PassesOwn.never rfl (pi_list (pe_op op_cat (pe_call G_law_spoilt (hr.mono (by decide)) (by rfl) T.g_law_spoilt T.d_law_spoilt.kp b_law_spoilt .nil pass0 (pa_cons (pv 6) (pa_cons (pe_slice sl_list (pv 3) (po_some pe_int) (po_some pe_int)) pa_nil))) (pe_lst (pa_cons (pv 7) pa_nil)))) (pg_name (i := 8) nd rfl (Or.inl rfl)) (pss_cons (ps_set (i := 9) nd rfl (Or.inl rfl) (pe_meth (pv 0) T.c_Schema T.m_Schema_fits G_Schema_fits (hr.mono (by decide)) b_Schema_fits .nil pass0 (pa_cons (pv 4) (pa_cons (pv 8) pa_nil))))
      (pss_one (ps_if (PW.pt (pw_or (pt_not (pt_val (pe_callB call_isi (by rfl) T.b_isinstance (by decide +kernel) (pa_cons (pv 9) (pa_cons (pe_bltn (v := .ty "bool") (u := .type "bool") (by rfl) T.b_bool (by decide +kernel) rfl) pa_nil))))) (pw_or1 (pt_cmpR op_ne (pv 9) (pe_call G_law_fits (hr.mono (by decide)) (by rfl) T.g_law_fits T.d_law_fits.kp b_law_fits .nil pass0 (pa_cons (pv 5) (pa_cons (pv 8) pa_nil))) (nomark _))))) (pss_one (ps_ret pe_bl)) pss_nil))))
      (pss_one (ps_ret pe_bl)))))))), ?_⟩
    simp only [cxOf, Cx.nox, L2.start, List.map_cons, List.map_nil, List.length_cons, List.length_nil, Nat.reduceAdd, Nat.reduceSub, List.replicate, List.cons_append, List.nil_append]
    obtain ⟨sx, sdx, sd, skvs, sko, esv, hsx, hsd, skv, hsk, tk, ok⟩ := id hs
    have tlo := tk.lo
    have thi := tk.hi
    obtain ⟨ta, tx, rfl, hta, htx⟩ := Z.dp_lst ht
    have htl := Z.dpa_len htx
    rw [List.length_map] at htl
    subst esv
    walk_at "z"
    refine ⟨F0, c, 9, rfl, sm, by decide, fun F1 H1 dv xs hxl pos g1 hdv => ?_⟩
    have W1 := (Z.Ws.init sm).ext g1
    obtain ⟨d0, d1, d2, d3, d4, d5, d6, d7, d8, rfl⟩ : ∃ a b c d e f g h i, xs = [a, b, c, d, e, f, g, h, i] := by
      match xs, hxl with
      | [a, b, c, d, e, f, g, h, i], _ => exact ⟨a, b, c, d, e, f, g, h, i, rfl⟩
    have p0 := (pos d0 (by simp)).1
    have p1 := (pos d1 (by simp)).1
    have p2 := (pos d2 (by simp)).1
    have p3 := (pos d3 (by simp)).1
    have p4 := (pos d4 (by simp)).1
    have p5 := (pos d5 (by simp)).1
    have p6 := (pos d6 (by simp)).1
    have p7 := (pos d7 (by simp)).1
    have ht1 := Z.dp_same g1.f ht
    walk_at "z"
    refine Z.ixD hdv W1.fh 0 rfl fun w hw => ?_
    cases Z.dp_int hw
    walk_at "z"
    refine Z.lenSeq (W1.fh.seq (g1.f.seq hta)) ?_
    rw [htl]
    walk_at "z"
    refine ixDa ht1 W1.fh (Int.emod_nonneg _ (by omega)) (by rw [List.length_map]; exact Int.emod_lt_of_pos _ (by omega)) fun w d hd _ hw => ?_
    obtain ⟨t, htm, rfl⟩ := List.mem_map.mp hd
    obtain ⟨tn, cok⟩ := tk.nm t htm
    refine Z.gtupD hw W1.fh fun zs hzs => ?_
    obtain ⟨z1, z2, rfl, hz1, hz2⟩ := Z.dpa2 hzs
    cases Z.dp_str hz1
    walk_at "z"
    refine Z.slD W1 hdv fun r2 F2 H2 W2 s2 hr2 => ?_
    have hr2 : Dp K F2 r2 (.list ([d1, d2, d3, d4].map .int)) := hr2
    walk_at "z"
    refine ⟨F2, z2, r2, t.2, [d1, d2, d3, d4], rfl, W2.fh, Z.dp_same s2 hz2, cok, hr2, cok.hi, by simp [p1, p2, p3, p4], fun F3 H3 rv ds g3 hrv hrow => ?_⟩
    have W3 := W2.ext g3
    have s03 : Same F0 F3 := g1.f.trans (s2.trans g3.f)
    have s13 : Same F1 F3 := s2.trans g3.f
    have hx3 := W3.fh _ _ (s03 _ _ hsx)
    have rit := hrow.items
    have rlen := hrow.1
    have clo := cok.lo
    have chi := cok.hi
    walk_at "z"
    refine ⟨F3, _, rv, .tuple ds, ts, os, t, rfl, W3.fh, hs.same s03, htm, hrv, ⟨by omega, fun d hd => Item.small (.inl (rit d hd))⟩, fun H4 s4 => ?_⟩
    rw [hrow.fits]
    have W4 := W3.exts s4
    walk_at "z"
    refine ⟨_, _, rfl, rfl, ?_⟩
    walk_at "z"
    refine Z.ixD (Z.dp_same s13 hdv) W4.fh 5 rfl fun w hw => ?_
    cases Z.dp_int hw
    walk_at "z"
    refine Z.lenSeq (W4.fh.seq (s03.seq hta)) ?_
    rw [htl]
    walk_at "z"
    refine ixDa (Z.dp_same s03 ht) W4.fh (Int.emod_nonneg _ (by omega)) (by rw [List.length_map]; exact Int.emod_lt_of_pos _ (by omega)) fun w5 d' hd' _ hw5 => ?_
    obtain ⟨t5, htm5, rfl⟩ := List.mem_map.mp hd'
    obtain ⟨tn5, cok5⟩ := tk.nm t5 htm5
    walk_at "z"
    refine Z.ixT hw5 W4.fh 1 rfl fun w6 hw6 => ?_
    walk_at "z"
    refine Z.slD W4 (Z.dp_same s13 hdv) fun r5 F5 H5 W5 s5 hr5 => ?_
    have hr5 : Dp K F5 r5 (.list ([d1, d2, d3, d4].map .int)) := hr5
    walk_at "z"
    refine ⟨F5, w6, r5, t5.2, [d1, d2, d3, d4], rfl, W5.fh, Z.dp_same s5 hw6, cok5, hr5, cok5.hi, by simp [p1, p2, p3, p4], fun F6 H6 ov os6 g6 hov horow => ?_⟩
    have W6 := W5.ext g6
    walk_at "z"
    refine Z.slD W6 (Z.dp_same (s13.trans (s5.trans g6.f)) hdv) fun r7 F7 H7 W7 s7 hr7 => ?_
    have hr7 : Dp K F7 r7 (.list ([d6, d7].map .int)) := hr7
    have s37 : Same F3 F7 := s5.trans (g6.f.trans s7)
    walk_at "z"
    refine ⟨F7, rv, r7, ds, d6, d7, rfl, W7.fh, Z.dp_same s37 hrv, by omega, by omega, rit, hr7, p6, p7, fun F8 H8 p8 v8 e8 W8 ha8 hl8 hth8 => ?_⟩
    have W9 := W7.join W8
    have s38 : Same F3 F8 := s37.trans W8.f0
    have hvl := Z.dpa_len ha8
    walk_at "z"
    refine Z.lstW W9 fun p10 H10 W10 => ?_
    refine ⟨p8, p10, _, _, rfl, rfl, W10.at 1 rfl, W10.at 0 rfl, Nat.le_trans (show v8.length + 1 ≤ 1000 by omega) (by decide), fun p11 hp11 => ?_⟩
    have W11 := W10.new (o := .lst (v8 ++ [ov])) hp11
    generalize upd H10 p11 (.lst (v8 ++ [ov])) = H11 at W11 ⊢
    obtain ⟨F12, W12, s12, g12⟩ := W11.frz 0 rfl
    have hall : DpAll K F12 (v8 ++ [ov]) (e8 ++ [.tuple os6]) := Z.dpa_snoc (Z.dpa_same s12 ha8) (Z.dp_same (s7.trans (W8.f0.trans s12)) hov)
    have hthall : ∀ e ∈ e8 ++ [.tuple os6], Thing e := fun e he => by
      rcases List.mem_append.mp he with h | h
      · exact hth8 e h
      · rw [List.mem_singleton.mp h]
        exact .inl ⟨os6, rfl, by have := horow.1; have := cok5.hi; omega, fun x hx => .inl (horow.items x hx)⟩
    have W13 : Z.Ws [] F0 H F12 H11 := W12.pick [] (L' := []) List.nodup_nil rfl
    have s012 : Same F0 F12 := s03.trans (s38.trans s12)
    have hz12 : Dp K F12 z2 (.list (t.2.map pairD)) := Z.dp_same (s2.trans (g3.f.trans (s38.trans s12))) hz2
    refine ⟨p11, rfl, ⟨_, SqL.of (W13.fh _ _ g12)⟩, for_list (xs := v8 ++ [ov]) (fun i σ H' => (∃ v8 v9, σ = [some (.ref sx), some (.ref ta), some (.int c), some dv, some (.str t.1), some z2, some rv, some ov, v8, v9]) ∧ Same H11 H') ⟨⟨_, _, rfl⟩, Same.refl _⟩ (fun i σ H' hi P => SqL.of (P.2 _ _ (W13.fh _ _ g12))) ?_ ?_⟩
    · rintro i x σ H14 hx ⟨⟨v8, v9, rfl⟩, s14⟩
      obtain ⟨e, ee, he⟩ := Z.dpa_ix hall hx
      have hth := hthall e (List.mem_of_getElem? ee)
      have hx14 := s14 _ _ (W13.fh _ _ (s012 _ _ hsx))
      walk_at "z"
      refine ⟨F12, _, x, e, ts, os, t, rfl, W13.fh.trans s14, hs.same s012, htm, he, hth.small, fun H15 s15 => ?_⟩
      walk_at "z"
      refine Z.isiD (F := H15) (.bl _) (Same.refl _) (by simp) ?_
      rw [show Z.isTy "bool" (.bool (fitsD t.2 e)) = true from rfl]
      walk_at "z"
      refine ⟨F12, z2, x, t.2, e, rfl, W13.fh.trans (s14.trans s15), hz12, cok, he, hth, fun H16 s16 => ?_⟩
      walk_at "z"
      exact ⟨⟨_, _, rfl⟩, s14.trans (s15.trans s16)⟩
    · rintro σ H14 ⟨⟨v8, v9, rfl⟩, s14⟩
      walk_at "z"
      exact k _ (W13.same.trans s14)
theorem cutV_int (xs : List Int) (lo hi : Option Int) : ∃ ys : List Int, cutV (xs.map V.int) lo hi = ys.map V.int ∧ ys.length ≤ xs.length := by
  refine ⟨(xs.drop (HT.sIx xs.length 0 lo)).take (HT.sIx xs.length xs.length hi - HT.sIx xs.length 0 lo), ?_, ?_⟩
  · unfold cutV
    rw [List.length_map, List.map_take, List.map_drop]
  · rw [List.length_take, List.length_drop]
    omega
def spLaw (K : PySem.W.Frag) : Sp := fun vs H Q _ => ∃ (a : Addr) (ns : List Int), vs = [.ref a] ∧ SqL K H a (ns.map V.int) ∧ ns.length ≤ 63 ∧ ∀ H', Q (.bl true) H'
theorem ok_law {f : Addr} {fd : FuncData} (F : Fun K "law" "law" s_law f fd) (T : Txt K mg A) : FnOk P w K mg base CX0 7 f fd ["_law_script"] (spLaw K) := by
  refine F.ok sc_law (fun vs H Q E h => ?_) (fun cdv Ar outer s H vs Q E hr h => ?_)
  · obtain ⟨a, ns, rfl, _⟩ := h
    rfl
  · obtain ⟨a, ns, rfl, hS, hlen, k⟩ := h
    have nd := sc_law.nd
    have hu := hu_of hr
    have ⟨fd_law_schema, G_law_schema, b_law_schema⟩ := ok_law_schema (P := P) (w := w) (base := base) T
    have ⟨fd_law_cell, G_law_cell, b_law_cell⟩ := ok_law_cell (P := P) (w := w) (base := base) T
    have ⟨fd_law_made, G_law_made, b_law_made⟩ := ok_law_made (P := P) (w := w) (base := base) T
    have ⟨fd_law_told, G_law_told, b_law_told⟩ := ok_law_told (P := P) (w := w) (base := base) T
    have ⟨fd_law_rows, G_law_rows, b_law_rows⟩ := ok_law_rows (P := P) (w := w) (base := base) T
    refine ⟨_, (pss_cons (ps_asg (pe_call G_law_schema (hr.mono (by decide)) (by rfl) T.g_law_schema T.d_law_schema.kp b_law_schema .nil pass0 (pa_cons (pe_call G_law_cell (hr.mono (by decide)) (by rfl) T.g_law_cell T.d_law_cell.kp b_law_cell .nil pass0 (pa_cons (pv 0) (pa_cons pe_int pa_nil))) pa_nil)) (pg_tup rfl (pgs_cons (pg_name (i := 1) nd rfl (Or.inl rfl)) (pgs_cons (pg_name (i := 2) nd rfl (Or.inl rfl)) pgs_nil))))
      (pss_cons (ps_set (i := 3) nd rfl (Or.inl rfl) (pe_call G_law_schema (hr.mono (by decide)) (by rfl) T.g_law_schema T.d_law_schema.kp b_law_schema .nil pass0 (pa_cons (pe_call G_law_cell (hr.mono (by decide)) (by rfl) T.g_law_cell T.d_law_cell.kp b_law_cell .nil pass0 (pa_cons (pv 0) (pa_cons pe_int pa_nil))) pa_nil)))
      (pss_cons (ps_set (i := 4) nd rfl (Or.inl rfl) (pe_call G_law_made (hr.mono (by decide)) (by rfl) T.g_law_made T.d_law_made.kp b_law_made .nil pass0 (pa_cons (pv 1) (pa_cons (pv 2) (pa_cons (pe_call G_law_cell (hr.mono (by decide)) (by rfl) T.g_law_cell T.d_law_cell.kp b_law_cell .nil pass0 (pa_cons (pv 0) (pa_cons pe_int pa_nil))) pa_nil)))))
      (pss_cons (ps_set (i := 5) nd rfl (Or.inl rfl) (pe_call G_law_made (hr.mono (by decide)) (by rfl) T.g_law_made T.d_law_made.kp b_law_made .nil pass0 (pa_cons (pe_ix ix_tup (pv 3) pe_int (fun _ _ => rfl)) (pa_cons (pe_ix ix_tup (pv 3) pe_int (fun _ _ => rfl)) (pa_cons (pe_call G_law_cell (hr.mono (by decide)) (by rfl) T.g_law_cell T.d_law_cell.kp b_law_cell .nil pass0 (pa_cons (pv 0) (pa_cons pe_int pa_nil))) pa_nil)))))
      (pss_cons (ps_for PassesOwn.never rfl (pi_range1 rfl T.b_range (pa_cons pe_int pa_nil)) (pg_name (i := 6) nd rfl (Or.inl rfl)) (pss_one (ps_if (PW.pt (pw_or (pt_not (pt_val (pe_call G_law_told (hr.mono (by decide)) (by rfl) T.g_law_told T.d_law_told.kp b_law_told .nil pass0 (pa_cons (pv 4) (pa_cons (pv 1) (pa_cons (pv 2) pa_nil)))))) (pw_or1 (pt_not (pt_val (pe_call G_law_told (hr.mono (by decide)) (by rfl) T.g_law_told T.d_law_told.kp b_law_told .nil pass0 (pa_cons (pv 5) (pa_cons (pe_ix ix_tup (pv 3) pe_int (fun _ _ => rfl)) (pa_cons (pe_ix ix_tup (pv 3) pe_int (fun _ _ => rfl)) pa_nil))))))))) (pss_one (ps_ret pe_bl)) pss_nil)))
      (pss_cons (ps_for PassesOwn.never rfl (pi_list (pe_op op_cat (pe_lst (pa_cons (pe_call G_law_cell (hr.mono (by decide)) (by rfl) T.g_law_cell T.d_law_cell.kp b_law_cell .nil pass0 (pa_cons (pv 0) (pa_cons pe_int pa_nil))) pa_nil)) (pe_slice sl_list (pv 0) (po_some pe_int) (po_some pe_int)))) (pg_name (i := 7) nd rfl (Or.inl rfl)) (pss_one (ps_if (pt_not (pt_val (pe_call G_law_rows (hr.mono (by decide)) (by rfl) T.g_law_rows T.d_law_rows.kp b_law_rows .nil pass0 (pa_cons (pv 4) (pa_cons (pv 1) (pa_cons (pv 7) pa_nil)))))) (pss_one (ps_ret pe_bl)) pss_nil)))
      (pss_one (ps_ret (pe_call G_law_told (hr.mono (by decide)) (by rfl) T.g_law_told T.d_law_told.kp b_law_told .nil pass0 (pa_cons (pv 4) (pa_cons (pv 1) (pa_cons (pv 2) pa_nil)))))))))))), ?_⟩
    simp only [cxOf, Cx.nox, L2.start, List.map_cons, List.map_nil, List.length_cons, List.length_nil, Nat.reduceAdd, Nat.reduceSub, List.replicate, List.cons_append, List.nil_append]
    have W0 := Z.Ws.init (Same.refl H)
    walk_at "z"
    refine ⟨a, ns, 0, rfl, hS, hlen, by decide, fun c0 => ?_⟩
    walk_at "z"
    refine ⟨H, c0, rfl, Same.refl _, fun F1 H1 r1 ts os tk ok g1 hr1 => ?_⟩
    have W1 := W0.ext g1
    walk_at "z"
    refine Z.gtupD hr1 W1.fh fun zs hzs => ?_
    obtain ⟨tv, ov, rfl, ht, ho⟩ := Z.dpa2 hzs
    walk_at "z"
    refine ⟨a, ns, 1, rfl, W1.same.seq hS, hlen, by decide, fun c1 => ?_⟩
    walk_at "z"
    refine ⟨F1, c1, rfl, W1.fh, fun F2 H2 r2 ts2 os2 tk2 ok2 g2 hr2 => ?_⟩
    have W2 := W1.ext g2
    walk_at "z"
    refine ⟨a, ns, 2, rfl, W2.same.seq hS, hlen, by decide, fun c2 => ?_⟩
    walk_at "z"
    refine ⟨F2, tv, ov, c2, ts, os, rfl, W2.fh, tk, ok, Z.dp_same g2.f ht, Z.dp_same g2.f ho, fun F3 H3 sv g3 hsv => ?_⟩
    have W3 := W2.ext g3
    obtain ⟨oa, ox, eo, hoa, hox⟩ := Z.dp_tup hr2
    obtain ⟨tv2, ov2, rfl, ht2, ho2⟩ := Z.dpa2 hox
    subst eo
    walk_at "z"
    refine ixTv (i := 0) (Z.seqT (g3.f.trans W3.fh) hoa) rfl ?_
    walk_at "z"
    refine ixTv (i := 1) (Z.seqT (g3.f.trans W3.fh) hoa) rfl ?_
    walk_at "z"
    refine ⟨a, ns, 3, rfl, W3.same.seq hS, hlen, by decide, fun c3 => ?_⟩
    walk_at "z"
    refine ⟨F3, tv2, ov2, c3, ts2, os2, rfl, W3.fh, tk2, ok2, Z.dp_same g3.f ht2, Z.dp_same g3.f ho2, fun F4 H4 sv2 g4 hsv2 => ?_⟩
    have W4 := W3.ext g4
    have s14 : Same F1 F4 := g2.f.trans (g3.f.trans g4.f)
    have s24 : Same F2 F4 := g3.f.trans g4.f
    have ht4 := Z.dp_same s14 ht
    have ho4 := Z.dp_same s14 ho
    have ht24 := Z.dp_same s24 ht2
    have ho24 := Z.dp_same s24 ho2
    have hsv4 := hsv.same g4.f
    have hoa4 := Z.seqT s24 hoa
    walk_at "z"
    refine ⟨2, rfl, by decide, by decide, ?_⟩
    refine (for_range (lo := 0) (n := 2) (fun i σ H' => (∃ v6 v7, σ = [some (.ref a), some tv, some ov, some (.ref oa), some sv, some sv2, v6, v7]) ∧ Same H4 H') ⟨⟨_, _, rfl⟩, Same.refl _⟩ ?_ ?_)
    · rintro i σ H5 hi ⟨⟨v6, v7, rfl⟩, s5⟩
      walk_at "z"
      refine ⟨F4, sv, tv, ov, ts, os, rfl, W4.fh.trans s5, hsv4, ht4, ho4, fun H6 s6 => ?_⟩
      walk_at "z"
      refine ixTv (i := 0) (Z.seqT ((W4.fh.trans s5).trans s6) hoa4) rfl ?_
      walk_at "z"
      refine ixTv (i := 1) (Z.seqT ((W4.fh.trans s5).trans s6) hoa4) rfl ?_
      walk_at "z"
      refine ⟨F4, sv2, tv2, ov2, ts2, os2, rfl, (W4.fh.trans s5).trans s6, hsv2, ht24, ho24, fun H7 s7 => ?_⟩
      walk_at "z"
      exact ⟨⟨_, _, rfl⟩, s5.trans (s6.trans s7)⟩
    · rintro σ H5 ⟨⟨v6, v7, rfl⟩, s5⟩
      have W5 := W4.exts s5
      walk_at "z"
      refine ⟨a, ns, 4, rfl, W5.same.seq hS, hlen, by decide, fun c4 => ?_⟩
      walk_at "z"
      refine Z.lstW W5 fun p6 H6 W6 => ?_
      walk_at "z"
      refine ⟨a, _, rfl, W6.same.seq hS, fun p7 hp7 => ?_⟩
      obtain ⟨cs, ec, hcl⟩ := cutV_int ns (some 5) (some 35)
      rw [ec]
      have W7 := W6.new (o := .lst (cs.map V.int)) hp7
      generalize upd H6 p7 (.lst (cs.map V.int)) = H7 at W7 ⊢
      refine ⟨p6, p7, _, _, rfl, rfl, W7.at 1 rfl, W7.at 0 rfl, Nat.le_trans (show 1 + (cs.map V.int).length ≤ 1000 by rw [List.length_map]; omega) (by decide), fun p8 hp8 => ?_⟩
      have W8 := W7.new (o := .lst ([.int c4] ++ cs.map V.int)) hp8
      generalize upd H7 p8 (.lst ([.int c4] ++ cs.map V.int)) = H8 at W8 ⊢
      have g8 := W8.at 0 rfl
      refine ⟨p8, rfl, ⟨_, SqL.of g8⟩, for_list (xs := [.int c4] ++ cs.map V.int) (fun i σ H' => (∃ v7, σ = [some (.ref a), some tv, some ov, some (.ref oa), some sv, some sv2, v6, v7]) ∧ Same H8 H') ⟨⟨_, rfl⟩, Same.refl _⟩ (fun i σ H' hi P => SqL.of (P.2 _ _ g8)) ?_ ?_⟩
      · rintro i x σ H9 hx ⟨⟨v7, rfl⟩, s9⟩
        obtain ⟨c, rfl⟩ : ∃ c, x = .int c := by
          rcases List.mem_append.mp (List.mem_of_getElem? hx) with m | m
          · exact ⟨c4, List.mem_singleton.mp m⟩
          · obtain ⟨y, _, rfl⟩ := List.mem_map.mp m
            exact ⟨y, rfl⟩
        walk_at "z"
        refine ⟨F4, sv, tv, c, ts, os, rfl, W8.fh.trans s9, hsv4, ht4, fun H10 s10 => ?_⟩
        walk_at "z"
        exact ⟨⟨_, rfl⟩, s9.trans s10⟩
      · rintro σ H9 ⟨⟨v7, rfl⟩, s9⟩
        walk_at "z"
        refine ⟨F4, sv, tv, ov, ts, os, rfl, W8.fh.trans s9, hsv4, ht4, ho4, fun H10 s10 => ?_⟩
        exact k _

theorem all_mk {l : PySem.W.OpenLaw} {w : World} {K : PySem.W.Frag} {h : Heap} {mg : Str → Option Value} {fa : Addr} (X : K.In h) (G : h.Ns mainGlobals mg) (hfa : mg "law" = some (.ref fa))
    {CSchema f_is_whole f_is_name f_is_kind f_is_value f_is_row_of f_need_pair f_columns_in f_tables_in f_orders_in f_Schema___init__ D_Schema___init__ f_Schema_need_table f_Schema_table_names f_Schema_columns_of f_Schema_kind_of f_Schema_has_order f_Schema_fits f_Schema_told f_law_cell f_law_draws f_law_names f_law_schema f_law_value f_law_made f_law_told f_law_row f_law_spoilt f_law_fits f_law_rows f_law : Addr} {od_is_whole an_is_whole od_is_name an_is_name od_is_kind an_is_kind od_is_value an_is_value od_is_row_of an_is_row_of od_need_pair an_need_pair od_columns_in an_columns_in od_tables_in an_tables_in od_orders_in an_orders_in od_Schema___init__ an_Schema___init__ Dod_Schema___init__ od_Schema_need_table an_Schema_need_table od_Schema_table_names an_Schema_table_names od_Schema_columns_of an_Schema_columns_of od_Schema_kind_of an_Schema_kind_of od_Schema_has_order an_Schema_has_order od_Schema_fits an_Schema_fits od_Schema_told an_Schema_told od_law_cell an_law_cell od_law_draws an_law_draws od_law_names an_law_names od_law_schema an_law_schema od_law_value an_law_value od_law_made an_law_made od_law_told an_law_told od_law_row an_law_row od_law_spoilt an_law_spoilt od_law_fits an_law_fits od_law_rows an_law_rows od_law an_law : Option Addr} {sl_is_whole sl_is_name sl_is_kind sl_is_value sl_is_row_of sl_need_pair sl_columns_in sl_tables_in sl_orders_in sl_Schema___init__ Dsl_Schema___init__ sl_Schema_need_table sl_Schema_table_names sl_Schema_columns_of sl_Schema_kind_of sl_Schema_has_order sl_Schema_fits sl_Schema_told sl_law_cell sl_law_draws sl_law_names sl_law_schema sl_law_value sl_law_made sl_law_told sl_law_row sl_law_spoilt sl_law_fits sl_law_rows sl_law : Array (Option Value)} {oc_is_whole kV_is_whole dc_is_whole pm_is_whole cd_is_whole ct_is_whole oc_is_name kV_is_name dc_is_name pm_is_name cd_is_name ct_is_name oc_is_kind kV_is_kind dc_is_kind pm_is_kind cd_is_kind ct_is_kind oc_is_value kV_is_value dc_is_value pm_is_value cd_is_value ct_is_value oc_is_row_of kV_is_row_of dc_is_row_of pm_is_row_of cd_is_row_of ct_is_row_of oc_need_pair kV_need_pair dc_need_pair pm_need_pair cd_need_pair ct_need_pair oc_columns_in kV_columns_in dc_columns_in pm_columns_in cd_columns_in ct_columns_in oc_tables_in kV_tables_in dc_tables_in pm_tables_in cd_tables_in ct_tables_in oc_orders_in kV_orders_in dc_orders_in pm_orders_in cd_orders_in ct_orders_in oc_Schema___init__ kV_Schema___init__ dc_Schema___init__ pm_Schema___init__ cd_Schema___init__ ct_Schema___init__ Doc_Schema___init__ oc_Schema_need_table kV_Schema_need_table dc_Schema_need_table pm_Schema_need_table cd_Schema_need_table ct_Schema_need_table oc_Schema_table_names kV_Schema_table_names dc_Schema_table_names pm_Schema_table_names cd_Schema_table_names ct_Schema_table_names oc_Schema_columns_of kV_Schema_columns_of dc_Schema_columns_of pm_Schema_columns_of cd_Schema_columns_of ct_Schema_columns_of oc_Schema_kind_of kV_Schema_kind_of dc_Schema_kind_of pm_Schema_kind_of cd_Schema_kind_of ct_Schema_kind_of oc_Schema_has_order kV_Schema_has_order dc_Schema_has_order pm_Schema_has_order cd_Schema_has_order ct_Schema_has_order oc_Schema_fits kV_Schema_fits dc_Schema_fits pm_Schema_fits cd_Schema_fits ct_Schema_fits oc_Schema_told kV_Schema_told dc_Schema_told pm_Schema_told cd_Schema_told ct_Schema_told oc_law_cell kV_law_cell dc_law_cell pm_law_cell cd_law_cell ct_law_cell oc_law_draws kV_law_draws dc_law_draws pm_law_draws cd_law_draws ct_law_draws oc_law_names kV_law_names dc_law_names pm_law_names cd_law_names ct_law_names oc_law_schema kV_law_schema dc_law_schema pm_law_schema cd_law_schema ct_law_schema oc_law_value kV_law_value dc_law_value pm_law_value cd_law_value ct_law_value oc_law_made kV_law_made dc_law_made pm_law_made cd_law_made ct_law_made oc_law_told kV_law_told dc_law_told pm_law_told cd_law_told ct_law_told oc_law_row kV_law_row dc_law_row pm_law_row cd_law_row ct_law_row oc_law_spoilt kV_law_spoilt dc_law_spoilt pm_law_spoilt cd_law_spoilt ct_law_spoilt oc_law_fits kV_law_fits dc_law_fits pm_law_fits cd_law_fits ct_law_fits oc_law_rows kV_law_rows dc_law_rows pm_law_rows cd_law_rows ct_law_rows oc_law kV_law dc_law pm_law cd_law ct_law : Value} {Dn_Schema___init__ : Nat} {t_LETTERS t_MOST_COLUMNS t_MOST_NUMBER t_MOST_ORDERS t_MOST_SIGNS t_MOST_TABLES : Tok}
    (a_Schema : PySem.W.nsIn K mainGlobals "Schema" = some (some (.ref CSchema)))
    (pg_Schema : PySem.W.plainGet K CSchema Str.empty = true)
    (hd_Schema : PySem.W.hasDictIn K CSchema = true)
    (po_Schema : PySem.W.plainOver K CSchema = true)
    (sa_Schema : PySem.W.findIn K (.ref CSchema) "__setattr__" = some (some (.builtin "object.__setattr__")))
    (mk_Schema : PySem.W.makesIn K CSchema = true)
    (kc_Schema : PySem.W.keepIn K (.ref CSchema) = true)
    (n_Schema_columns : PySem.W.findIn K (.ref CSchema) "columns" = some none)
    (n_Schema_kept_orders : PySem.W.findIn K (.ref CSchema) "kept_orders" = some none)
    (a_is_whole : PySem.W.nsIn K mainGlobals "is_whole" = some (some (.ref f_is_whole)))
    (l_is_whole : K.lookup f_is_whole = some ⟨oc_is_whole, od_is_whole, .func (PySem.W.fnOf "is_whole" "is_whole" (defArgs s_is_whole) (defBody s_is_whole) (defScope s_is_whole) .none kV_is_whole dc_is_whole pm_is_whole an_is_whole cd_is_whole ct_is_whole), sl_is_whole⟩)
    (c_is_whole : PySem.W.codeIn K cd_is_whole "is_whole" = true)
    (k_is_whole : PySem.W.keepIn K (.ref f_is_whole) = true)
    (a_is_name : PySem.W.nsIn K mainGlobals "is_name" = some (some (.ref f_is_name)))
    (l_is_name : K.lookup f_is_name = some ⟨oc_is_name, od_is_name, .func (PySem.W.fnOf "is_name" "is_name" (defArgs s_is_name) (defBody s_is_name) (defScope s_is_name) .none kV_is_name dc_is_name pm_is_name an_is_name cd_is_name ct_is_name), sl_is_name⟩)
    (c_is_name : PySem.W.codeIn K cd_is_name "is_name" = true)
    (k_is_name : PySem.W.keepIn K (.ref f_is_name) = true)
    (a_is_kind : PySem.W.nsIn K mainGlobals "is_kind" = some (some (.ref f_is_kind)))
    (l_is_kind : K.lookup f_is_kind = some ⟨oc_is_kind, od_is_kind, .func (PySem.W.fnOf "is_kind" "is_kind" (defArgs s_is_kind) (defBody s_is_kind) (defScope s_is_kind) .none kV_is_kind dc_is_kind pm_is_kind an_is_kind cd_is_kind ct_is_kind), sl_is_kind⟩)
    (c_is_kind : PySem.W.codeIn K cd_is_kind "is_kind" = true)
    (k_is_kind : PySem.W.keepIn K (.ref f_is_kind) = true)
    (a_is_value : PySem.W.nsIn K mainGlobals "is_value" = some (some (.ref f_is_value)))
    (l_is_value : K.lookup f_is_value = some ⟨oc_is_value, od_is_value, .func (PySem.W.fnOf "is_value" "is_value" (defArgs s_is_value) (defBody s_is_value) (defScope s_is_value) .none kV_is_value dc_is_value pm_is_value an_is_value cd_is_value ct_is_value), sl_is_value⟩)
    (c_is_value : PySem.W.codeIn K cd_is_value "is_value" = true)
    (k_is_value : PySem.W.keepIn K (.ref f_is_value) = true)
    (a_is_row_of : PySem.W.nsIn K mainGlobals "is_row_of" = some (some (.ref f_is_row_of)))
    (l_is_row_of : K.lookup f_is_row_of = some ⟨oc_is_row_of, od_is_row_of, .func (PySem.W.fnOf "is_row_of" "is_row_of" (defArgs s_is_row_of) (defBody s_is_row_of) (defScope s_is_row_of) .none kV_is_row_of dc_is_row_of pm_is_row_of an_is_row_of cd_is_row_of ct_is_row_of), sl_is_row_of⟩)
    (c_is_row_of : PySem.W.codeIn K cd_is_row_of "is_row_of" = true)
    (k_is_row_of : PySem.W.keepIn K (.ref f_is_row_of) = true)
    (a_need_pair : PySem.W.nsIn K mainGlobals "need_pair" = some (some (.ref f_need_pair)))
    (l_need_pair : K.lookup f_need_pair = some ⟨oc_need_pair, od_need_pair, .func (PySem.W.fnOf "need_pair" "need_pair" (defArgs s_need_pair) (defBody s_need_pair) (defScope s_need_pair) .none kV_need_pair dc_need_pair pm_need_pair an_need_pair cd_need_pair ct_need_pair), sl_need_pair⟩)
    (c_need_pair : PySem.W.codeIn K cd_need_pair "need_pair" = true)
    (k_need_pair : PySem.W.keepIn K (.ref f_need_pair) = true)
    (a_columns_in : PySem.W.nsIn K mainGlobals "columns_in" = some (some (.ref f_columns_in)))
    (l_columns_in : K.lookup f_columns_in = some ⟨oc_columns_in, od_columns_in, .func (PySem.W.fnOf "columns_in" "columns_in" (defArgs s_columns_in) (defBody s_columns_in) (defScope s_columns_in) .none kV_columns_in dc_columns_in pm_columns_in an_columns_in cd_columns_in ct_columns_in), sl_columns_in⟩)
    (c_columns_in : PySem.W.codeIn K cd_columns_in "columns_in" = true)
    (k_columns_in : PySem.W.keepIn K (.ref f_columns_in) = true)
    (a_tables_in : PySem.W.nsIn K mainGlobals "tables_in" = some (some (.ref f_tables_in)))
    (l_tables_in : K.lookup f_tables_in = some ⟨oc_tables_in, od_tables_in, .func (PySem.W.fnOf "tables_in" "tables_in" (defArgs s_tables_in) (defBody s_tables_in) (defScope s_tables_in) .none kV_tables_in dc_tables_in pm_tables_in an_tables_in cd_tables_in ct_tables_in), sl_tables_in⟩)
    (c_tables_in : PySem.W.codeIn K cd_tables_in "tables_in" = true)
    (k_tables_in : PySem.W.keepIn K (.ref f_tables_in) = true)
    (a_orders_in : PySem.W.nsIn K mainGlobals "orders_in" = some (some (.ref f_orders_in)))
    (l_orders_in : K.lookup f_orders_in = some ⟨oc_orders_in, od_orders_in, .func (PySem.W.fnOf "orders_in" "orders_in" (defArgs s_orders_in) (defBody s_orders_in) (defScope s_orders_in) .none kV_orders_in dc_orders_in pm_orders_in an_orders_in cd_orders_in ct_orders_in), sl_orders_in⟩)
    (c_orders_in : PySem.W.codeIn K cd_orders_in "orders_in" = true)
    (k_orders_in : PySem.W.keepIn K (.ref f_orders_in) = true)
    (a_Schema___init__ : PySem.W.findIn K (.ref CSchema) "__init__" = some (some (.ref f_Schema___init__)))
    (i_Schema___init__ : PySem.W.isFn K (.ref f_Schema___init__) = true)
    (l_Schema___init__ : K.lookup f_Schema___init__ = some ⟨oc_Schema___init__, od_Schema___init__, .func (PySem.W.fnOf "__init__" "Schema.__init__" (defArgs s_Schema___init__) (defBody s_Schema___init__) (defScope s_Schema___init__) (.ref D_Schema___init__) kV_Schema___init__ dc_Schema___init__ pm_Schema___init__ an_Schema___init__ cd_Schema___init__ ct_Schema___init__), sl_Schema___init__⟩)
    (c_Schema___init__ : PySem.W.codeIn K cd_Schema___init__ "Schema.__init__" = true)
    (k_Schema___init__ : PySem.W.keepIn K (.ref f_Schema___init__) = true)
    (lD_Schema___init__ : K.lookup D_Schema___init__ = some ⟨Doc_Schema___init__, Dod_Schema___init__, .seq #[.none] Dn_Schema___init__, Dsl_Schema___init__⟩)
    (a_Schema_need_table : PySem.W.findIn K (.ref CSchema) "need_table" = some (some (.ref f_Schema_need_table)))
    (i_Schema_need_table : PySem.W.isFn K (.ref f_Schema_need_table) = true)
    (l_Schema_need_table : K.lookup f_Schema_need_table = some ⟨oc_Schema_need_table, od_Schema_need_table, .func (PySem.W.fnOf "need_table" "Schema.need_table" (defArgs s_Schema_need_table) (defBody s_Schema_need_table) (defScope s_Schema_need_table) .none kV_Schema_need_table dc_Schema_need_table pm_Schema_need_table an_Schema_need_table cd_Schema_need_table ct_Schema_need_table), sl_Schema_need_table⟩)
    (c_Schema_need_table : PySem.W.codeIn K cd_Schema_need_table "Schema.need_table" = true)
    (k_Schema_need_table : PySem.W.keepIn K (.ref f_Schema_need_table) = true)
    (a_Schema_table_names : PySem.W.findIn K (.ref CSchema) "table_names" = some (some (.ref f_Schema_table_names)))
    (i_Schema_table_names : PySem.W.isFn K (.ref f_Schema_table_names) = true)
    (l_Schema_table_names : K.lookup f_Schema_table_names = some ⟨oc_Schema_table_names, od_Schema_table_names, .func (PySem.W.fnOf "table_names" "Schema.table_names" (defArgs s_Schema_table_names) (defBody s_Schema_table_names) (defScope s_Schema_table_names) .none kV_Schema_table_names dc_Schema_table_names pm_Schema_table_names an_Schema_table_names cd_Schema_table_names ct_Schema_table_names), sl_Schema_table_names⟩)
    (c_Schema_table_names : PySem.W.codeIn K cd_Schema_table_names "Schema.table_names" = true)
    (k_Schema_table_names : PySem.W.keepIn K (.ref f_Schema_table_names) = true)
    (a_Schema_columns_of : PySem.W.findIn K (.ref CSchema) "columns_of" = some (some (.ref f_Schema_columns_of)))
    (i_Schema_columns_of : PySem.W.isFn K (.ref f_Schema_columns_of) = true)
    (l_Schema_columns_of : K.lookup f_Schema_columns_of = some ⟨oc_Schema_columns_of, od_Schema_columns_of, .func (PySem.W.fnOf "columns_of" "Schema.columns_of" (defArgs s_Schema_columns_of) (defBody s_Schema_columns_of) (defScope s_Schema_columns_of) .none kV_Schema_columns_of dc_Schema_columns_of pm_Schema_columns_of an_Schema_columns_of cd_Schema_columns_of ct_Schema_columns_of), sl_Schema_columns_of⟩)
    (c_Schema_columns_of : PySem.W.codeIn K cd_Schema_columns_of "Schema.columns_of" = true)
    (k_Schema_columns_of : PySem.W.keepIn K (.ref f_Schema_columns_of) = true)
    (a_Schema_kind_of : PySem.W.findIn K (.ref CSchema) "kind_of" = some (some (.ref f_Schema_kind_of)))
    (i_Schema_kind_of : PySem.W.isFn K (.ref f_Schema_kind_of) = true)
    (l_Schema_kind_of : K.lookup f_Schema_kind_of = some ⟨oc_Schema_kind_of, od_Schema_kind_of, .func (PySem.W.fnOf "kind_of" "Schema.kind_of" (defArgs s_Schema_kind_of) (defBody s_Schema_kind_of) (defScope s_Schema_kind_of) .none kV_Schema_kind_of dc_Schema_kind_of pm_Schema_kind_of an_Schema_kind_of cd_Schema_kind_of ct_Schema_kind_of), sl_Schema_kind_of⟩)
    (c_Schema_kind_of : PySem.W.codeIn K cd_Schema_kind_of "Schema.kind_of" = true)
    (k_Schema_kind_of : PySem.W.keepIn K (.ref f_Schema_kind_of) = true)
    (a_Schema_has_order : PySem.W.findIn K (.ref CSchema) "has_order" = some (some (.ref f_Schema_has_order)))
    (i_Schema_has_order : PySem.W.isFn K (.ref f_Schema_has_order) = true)
    (l_Schema_has_order : K.lookup f_Schema_has_order = some ⟨oc_Schema_has_order, od_Schema_has_order, .func (PySem.W.fnOf "has_order" "Schema.has_order" (defArgs s_Schema_has_order) (defBody s_Schema_has_order) (defScope s_Schema_has_order) .none kV_Schema_has_order dc_Schema_has_order pm_Schema_has_order an_Schema_has_order cd_Schema_has_order ct_Schema_has_order), sl_Schema_has_order⟩)
    (c_Schema_has_order : PySem.W.codeIn K cd_Schema_has_order "Schema.has_order" = true)
    (k_Schema_has_order : PySem.W.keepIn K (.ref f_Schema_has_order) = true)
    (a_Schema_fits : PySem.W.findIn K (.ref CSchema) "fits" = some (some (.ref f_Schema_fits)))
    (i_Schema_fits : PySem.W.isFn K (.ref f_Schema_fits) = true)
    (l_Schema_fits : K.lookup f_Schema_fits = some ⟨oc_Schema_fits, od_Schema_fits, .func (PySem.W.fnOf "fits" "Schema.fits" (defArgs s_Schema_fits) (defBody s_Schema_fits) (defScope s_Schema_fits) .none kV_Schema_fits dc_Schema_fits pm_Schema_fits an_Schema_fits cd_Schema_fits ct_Schema_fits), sl_Schema_fits⟩)
    (c_Schema_fits : PySem.W.codeIn K cd_Schema_fits "Schema.fits" = true)
    (k_Schema_fits : PySem.W.keepIn K (.ref f_Schema_fits) = true)
    (a_Schema_told : PySem.W.findIn K (.ref CSchema) "told" = some (some (.ref f_Schema_told)))
    (i_Schema_told : PySem.W.isFn K (.ref f_Schema_told) = true)
    (l_Schema_told : K.lookup f_Schema_told = some ⟨oc_Schema_told, od_Schema_told, .func (PySem.W.fnOf "told" "Schema.told" (defArgs s_Schema_told) (defBody s_Schema_told) (defScope s_Schema_told) .none kV_Schema_told dc_Schema_told pm_Schema_told an_Schema_told cd_Schema_told ct_Schema_told), sl_Schema_told⟩)
    (c_Schema_told : PySem.W.codeIn K cd_Schema_told "Schema.told" = true)
    (k_Schema_told : PySem.W.keepIn K (.ref f_Schema_told) = true)
    (a_law_cell : PySem.W.nsIn K mainGlobals "_law_cell" = some (some (.ref f_law_cell)))
    (l_law_cell : K.lookup f_law_cell = some ⟨oc_law_cell, od_law_cell, .func (PySem.W.fnOf "_law_cell" "_law_cell" (defArgs s_law_cell) (defBody s_law_cell) (defScope s_law_cell) .none kV_law_cell dc_law_cell pm_law_cell an_law_cell cd_law_cell ct_law_cell), sl_law_cell⟩)
    (c_law_cell : PySem.W.codeIn K cd_law_cell "_law_cell" = true)
    (k_law_cell : PySem.W.keepIn K (.ref f_law_cell) = true)
    (a_law_draws : PySem.W.nsIn K mainGlobals "_law_draws" = some (some (.ref f_law_draws)))
    (l_law_draws : K.lookup f_law_draws = some ⟨oc_law_draws, od_law_draws, .func (PySem.W.fnOf "_law_draws" "_law_draws" (defArgs s_law_draws) (defBody s_law_draws) (defScope s_law_draws) .none kV_law_draws dc_law_draws pm_law_draws an_law_draws cd_law_draws ct_law_draws), sl_law_draws⟩)
    (c_law_draws : PySem.W.codeIn K cd_law_draws "_law_draws" = true)
    (k_law_draws : PySem.W.keepIn K (.ref f_law_draws) = true)
    (a_law_names : PySem.W.nsIn K mainGlobals "_law_names" = some (some (.ref f_law_names)))
    (l_law_names : K.lookup f_law_names = some ⟨oc_law_names, od_law_names, .func (PySem.W.fnOf "_law_names" "_law_names" (defArgs s_law_names) (defBody s_law_names) (defScope s_law_names) .none kV_law_names dc_law_names pm_law_names an_law_names cd_law_names ct_law_names), sl_law_names⟩)
    (c_law_names : PySem.W.codeIn K cd_law_names "_law_names" = true)
    (k_law_names : PySem.W.keepIn K (.ref f_law_names) = true)
    (a_law_schema : PySem.W.nsIn K mainGlobals "_law_schema" = some (some (.ref f_law_schema)))
    (l_law_schema : K.lookup f_law_schema = some ⟨oc_law_schema, od_law_schema, .func (PySem.W.fnOf "_law_schema" "_law_schema" (defArgs s_law_schema) (defBody s_law_schema) (defScope s_law_schema) .none kV_law_schema dc_law_schema pm_law_schema an_law_schema cd_law_schema ct_law_schema), sl_law_schema⟩)
    (c_law_schema : PySem.W.codeIn K cd_law_schema "_law_schema" = true)
    (k_law_schema : PySem.W.keepIn K (.ref f_law_schema) = true)
    (a_law_value : PySem.W.nsIn K mainGlobals "_law_value" = some (some (.ref f_law_value)))
    (l_law_value : K.lookup f_law_value = some ⟨oc_law_value, od_law_value, .func (PySem.W.fnOf "_law_value" "_law_value" (defArgs s_law_value) (defBody s_law_value) (defScope s_law_value) .none kV_law_value dc_law_value pm_law_value an_law_value cd_law_value ct_law_value), sl_law_value⟩)
    (c_law_value : PySem.W.codeIn K cd_law_value "_law_value" = true)
    (k_law_value : PySem.W.keepIn K (.ref f_law_value) = true)
    (a_law_made : PySem.W.nsIn K mainGlobals "_law_made" = some (some (.ref f_law_made)))
    (l_law_made : K.lookup f_law_made = some ⟨oc_law_made, od_law_made, .func (PySem.W.fnOf "_law_made" "_law_made" (defArgs s_law_made) (defBody s_law_made) (defScope s_law_made) .none kV_law_made dc_law_made pm_law_made an_law_made cd_law_made ct_law_made), sl_law_made⟩)
    (c_law_made : PySem.W.codeIn K cd_law_made "_law_made" = true)
    (k_law_made : PySem.W.keepIn K (.ref f_law_made) = true)
    (a_law_told : PySem.W.nsIn K mainGlobals "_law_told" = some (some (.ref f_law_told)))
    (l_law_told : K.lookup f_law_told = some ⟨oc_law_told, od_law_told, .func (PySem.W.fnOf "_law_told" "_law_told" (defArgs s_law_told) (defBody s_law_told) (defScope s_law_told) .none kV_law_told dc_law_told pm_law_told an_law_told cd_law_told ct_law_told), sl_law_told⟩)
    (c_law_told : PySem.W.codeIn K cd_law_told "_law_told" = true)
    (k_law_told : PySem.W.keepIn K (.ref f_law_told) = true)
    (a_law_row : PySem.W.nsIn K mainGlobals "_law_row" = some (some (.ref f_law_row)))
    (l_law_row : K.lookup f_law_row = some ⟨oc_law_row, od_law_row, .func (PySem.W.fnOf "_law_row" "_law_row" (defArgs s_law_row) (defBody s_law_row) (defScope s_law_row) .none kV_law_row dc_law_row pm_law_row an_law_row cd_law_row ct_law_row), sl_law_row⟩)
    (c_law_row : PySem.W.codeIn K cd_law_row "_law_row" = true)
    (k_law_row : PySem.W.keepIn K (.ref f_law_row) = true)
    (a_law_spoilt : PySem.W.nsIn K mainGlobals "_law_spoilt" = some (some (.ref f_law_spoilt)))
    (l_law_spoilt : K.lookup f_law_spoilt = some ⟨oc_law_spoilt, od_law_spoilt, .func (PySem.W.fnOf "_law_spoilt" "_law_spoilt" (defArgs s_law_spoilt) (defBody s_law_spoilt) (defScope s_law_spoilt) .none kV_law_spoilt dc_law_spoilt pm_law_spoilt an_law_spoilt cd_law_spoilt ct_law_spoilt), sl_law_spoilt⟩)
    (c_law_spoilt : PySem.W.codeIn K cd_law_spoilt "_law_spoilt" = true)
    (k_law_spoilt : PySem.W.keepIn K (.ref f_law_spoilt) = true)
    (a_law_fits : PySem.W.nsIn K mainGlobals "_law_fits" = some (some (.ref f_law_fits)))
    (l_law_fits : K.lookup f_law_fits = some ⟨oc_law_fits, od_law_fits, .func (PySem.W.fnOf "_law_fits" "_law_fits" (defArgs s_law_fits) (defBody s_law_fits) (defScope s_law_fits) .none kV_law_fits dc_law_fits pm_law_fits an_law_fits cd_law_fits ct_law_fits), sl_law_fits⟩)
    (c_law_fits : PySem.W.codeIn K cd_law_fits "_law_fits" = true)
    (k_law_fits : PySem.W.keepIn K (.ref f_law_fits) = true)
    (a_law_rows : PySem.W.nsIn K mainGlobals "_law_rows" = some (some (.ref f_law_rows)))
    (l_law_rows : K.lookup f_law_rows = some ⟨oc_law_rows, od_law_rows, .func (PySem.W.fnOf "_law_rows" "_law_rows" (defArgs s_law_rows) (defBody s_law_rows) (defScope s_law_rows) .none kV_law_rows dc_law_rows pm_law_rows an_law_rows cd_law_rows ct_law_rows), sl_law_rows⟩)
    (c_law_rows : PySem.W.codeIn K cd_law_rows "_law_rows" = true)
    (k_law_rows : PySem.W.keepIn K (.ref f_law_rows) = true)
    (a_law : PySem.W.nsIn K mainGlobals "law" = some (some (.ref f_law)))
    (l_law : K.lookup f_law = some ⟨oc_law, od_law, .func (PySem.W.fnOf "law" "law" (defArgs s_law) (defBody s_law) (defScope s_law) .none kV_law dc_law pm_law an_law cd_law ct_law), sl_law⟩)
    (c_law : PySem.W.codeIn K cd_law "law" = true)
    (k_law : PySem.W.keepIn K (.ref f_law) = true)
    (z_abs : PySem.W.nsIn K mainGlobals "abs" = some none)
    (z_bool : PySem.W.nsIn K mainGlobals "bool" = some none)
    (z_enumerate : PySem.W.nsIn K mainGlobals "enumerate" = some none)
    (z_int : PySem.W.nsIn K mainGlobals "int" = some none)
    (z_isinstance : PySem.W.nsIn K mainGlobals "isinstance" = some none)
    (z_len : PySem.W.nsIn K mainGlobals "len" = some none)
    (z_list : PySem.W.nsIn K mainGlobals "list" = some none)
    (z_range : PySem.W.nsIn K mainGlobals "range" = some none)
    (z_str : PySem.W.nsIn K mainGlobals "str" = some none)
    (z_tuple : PySem.W.nsIn K mainGlobals "tuple" = some none)
    (z_zip : PySem.W.nsIn K mainGlobals "zip" = some none)
    (u_LETTERS : PySem.W.nsIn K mainGlobals "LETTERS" = some (some (.str "abcdefghijklmnopqrstuvwxyz" t_LETTERS)))
    (u_MOST_COLUMNS : PySem.W.nsIn K mainGlobals "MOST_COLUMNS" = some (some (.int (4) t_MOST_COLUMNS)))
    (u_MOST_NUMBER : PySem.W.nsIn K mainGlobals "MOST_NUMBER" = some (some (.int (1000000000) t_MOST_NUMBER)))
    (u_MOST_ORDERS : PySem.W.nsIn K mainGlobals "MOST_ORDERS" = some (some (.int (4) t_MOST_ORDERS)))
    (u_MOST_SIGNS : PySem.W.nsIn K mainGlobals "MOST_SIGNS" = some (some (.int (8) t_MOST_SIGNS)))
    (u_MOST_TABLES : PySem.W.nsIn K mainGlobals "MOST_TABLES" = some (some (.int (4) t_MOST_TABLES)))
    : ∃ fd : FuncData, (∀ (s : Shared) (v : Value), BindsTo s fd ⟨[v], []⟩ [("_law_script", v)]) ∧ ∀ base : Heap, K.In base → base.Ns mainGlobals mg → FnOk l.prog w K mg base CX0 7 fa fd ["_law_script"] (spLaw K) := by
  have e := hfa.symm.trans (PySem.W.mg_of X G a_law)
  cases e
  have T : Txt K mg { Schema := CSchema, f_is_whole := f_is_whole, f_is_name := f_is_name, f_is_kind := f_is_kind, f_is_value := f_is_value, f_is_row_of := f_is_row_of, f_need_pair := f_need_pair, f_columns_in := f_columns_in, f_tables_in := f_tables_in, f_orders_in := f_orders_in, f_Schema___init__ := f_Schema___init__, f_Schema_need_table := f_Schema_need_table, f_Schema_table_names := f_Schema_table_names, f_Schema_columns_of := f_Schema_columns_of, f_Schema_kind_of := f_Schema_kind_of, f_Schema_has_order := f_Schema_has_order, f_Schema_fits := f_Schema_fits, f_Schema_told := f_Schema_told, f_law_cell := f_law_cell, f_law_draws := f_law_draws, f_law_names := f_law_names, f_law_schema := f_law_schema, f_law_value := f_law_value, f_law_made := f_law_made, f_law_told := f_law_told, f_law_row := f_law_row, f_law_spoilt := f_law_spoilt, f_law_fits := f_law_fits, f_law_rows := f_law_rows, f_law := fa } := { c_Schema := ⟨pg_Schema, hd_Schema, po_Schema, sa_Schema⟩, g_Schema := PySem.W.mg_of X G a_Schema, n_Schema_columns := n_Schema_columns, n_Schema_kept_orders := n_Schema_kept_orders, d_is_whole := ⟨_, fun_mk (st := s_is_whole) l_is_whole c_is_whole k_is_whole, (fun_mk (st := s_is_whole) l_is_whole c_is_whole k_is_whole).binds (ps := ["thing"]) fun _ _ _ _ _ _ us hl => match us, hl with | [_], _ => rfl⟩, g_is_whole := PySem.W.mg_of X G a_is_whole, d_is_name := ⟨_, fun_mk (st := s_is_name) l_is_name c_is_name k_is_name, (fun_mk (st := s_is_name) l_is_name c_is_name k_is_name).binds (ps := ["thing"]) fun _ _ _ _ _ _ us hl => match us, hl with | [_], _ => rfl⟩, g_is_name := PySem.W.mg_of X G a_is_name, d_is_kind := ⟨_, fun_mk (st := s_is_kind) l_is_kind c_is_kind k_is_kind, (fun_mk (st := s_is_kind) l_is_kind c_is_kind k_is_kind).binds (ps := ["thing"]) fun _ _ _ _ _ _ us hl => match us, hl with | [_], _ => rfl⟩, g_is_kind := PySem.W.mg_of X G a_is_kind, d_is_value := ⟨_, fun_mk (st := s_is_value) l_is_value c_is_value k_is_value, (fun_mk (st := s_is_value) l_is_value c_is_value k_is_value).binds (ps := ["kind", "thing"]) fun _ _ _ _ _ _ us hl => match us, hl with | [_, _], _ => rfl⟩, g_is_value := PySem.W.mg_of X G a_is_value, d_is_row_of := ⟨_, fun_mk (st := s_is_row_of) l_is_row_of c_is_row_of k_is_row_of, (fun_mk (st := s_is_row_of) l_is_row_of c_is_row_of k_is_row_of).binds (ps := ["thing", "least", "most"]) fun _ _ _ _ _ _ us hl => match us, hl with | [_, _, _], _ => rfl⟩, g_is_row_of := PySem.W.mg_of X G a_is_row_of, d_need_pair := ⟨_, fun_mk (st := s_need_pair) l_need_pair c_need_pair k_need_pair, (fun_mk (st := s_need_pair) l_need_pair c_need_pair k_need_pair).binds (ps := ["thing"]) fun _ _ _ _ _ _ us hl => match us, hl with | [_], _ => rfl⟩, g_need_pair := PySem.W.mg_of X G a_need_pair, d_columns_in := ⟨_, fun_mk (st := s_columns_in) l_columns_in c_columns_in k_columns_in, (fun_mk (st := s_columns_in) l_columns_in c_columns_in k_columns_in).binds (ps := ["thing"]) fun _ _ _ _ _ _ us hl => match us, hl with | [_], _ => rfl⟩, g_columns_in := PySem.W.mg_of X G a_columns_in, d_tables_in := ⟨_, fun_mk (st := s_tables_in) l_tables_in c_tables_in k_tables_in, (fun_mk (st := s_tables_in) l_tables_in c_tables_in k_tables_in).binds (ps := ["thing"]) fun _ _ _ _ _ _ us hl => match us, hl with | [_], _ => rfl⟩, g_tables_in := PySem.W.mg_of X G a_tables_in, d_orders_in := ⟨_, fun_mk (st := s_orders_in) l_orders_in c_orders_in k_orders_in, (fun_mk (st := s_orders_in) l_orders_in c_orders_in k_orders_in).binds (ps := ["thing", "tables"]) fun _ _ _ _ _ _ us hl => match us, hl with | [_, _], _ => rfl⟩, g_orders_in := PySem.W.mg_of X G a_orders_in, d_Schema___init__ := FD.mk (st := s_Schema___init__) l_Schema___init__ c_Schema___init__ k_Schema___init__ lD_Schema___init__ (ps := ["self", "tables", "orders"]) (fun _ _ _ _ _ _ _ us its hl hi => match us, hl, its, hi with | [_, _, _], _, [_], _ => ⟨_, rfl, rfl⟩) (fun _ _ _ _ _ _ _ us its hl hi => match us, hl, its, hi with | [_, _], _, [_], _ => ⟨_, rfl, rfl⟩), mk_Schema := ⟨mk_Schema, a_Schema___init__, i_Schema___init__, kc_Schema⟩, d_Schema_need_table := ⟨_, fun_mk (st := s_Schema_need_table) l_Schema_need_table c_Schema_need_table k_Schema_need_table, (fun_mk (st := s_Schema_need_table) l_Schema_need_table c_Schema_need_table k_Schema_need_table).binds (ps := ["self", "table"]) fun _ _ _ _ _ _ us hl => match us, hl with | [_, _], _ => rfl⟩, m_Schema_need_table := ⟨a_Schema_need_table, i_Schema_need_table, k_Schema_need_table⟩, d_Schema_table_names := ⟨_, fun_mk (st := s_Schema_table_names) l_Schema_table_names c_Schema_table_names k_Schema_table_names, (fun_mk (st := s_Schema_table_names) l_Schema_table_names c_Schema_table_names k_Schema_table_names).binds (ps := ["self"]) fun _ _ _ _ _ _ us hl => match us, hl with | [_], _ => rfl⟩, m_Schema_table_names := ⟨a_Schema_table_names, i_Schema_table_names, k_Schema_table_names⟩, d_Schema_columns_of := ⟨_, fun_mk (st := s_Schema_columns_of) l_Schema_columns_of c_Schema_columns_of k_Schema_columns_of, (fun_mk (st := s_Schema_columns_of) l_Schema_columns_of c_Schema_columns_of k_Schema_columns_of).binds (ps := ["self", "table"]) fun _ _ _ _ _ _ us hl => match us, hl with | [_, _], _ => rfl⟩, m_Schema_columns_of := ⟨a_Schema_columns_of, i_Schema_columns_of, k_Schema_columns_of⟩, d_Schema_kind_of := ⟨_, fun_mk (st := s_Schema_kind_of) l_Schema_kind_of c_Schema_kind_of k_Schema_kind_of, (fun_mk (st := s_Schema_kind_of) l_Schema_kind_of c_Schema_kind_of k_Schema_kind_of).binds (ps := ["self", "table", "column"]) fun _ _ _ _ _ _ us hl => match us, hl with | [_, _, _], _ => rfl⟩, m_Schema_kind_of := ⟨a_Schema_kind_of, i_Schema_kind_of, k_Schema_kind_of⟩, d_Schema_has_order := ⟨_, fun_mk (st := s_Schema_has_order) l_Schema_has_order c_Schema_has_order k_Schema_has_order, (fun_mk (st := s_Schema_has_order) l_Schema_has_order c_Schema_has_order k_Schema_has_order).binds (ps := ["self", "table", "column"]) fun _ _ _ _ _ _ us hl => match us, hl with | [_, _, _], _ => rfl⟩, m_Schema_has_order := ⟨a_Schema_has_order, i_Schema_has_order, k_Schema_has_order⟩, d_Schema_fits := ⟨_, fun_mk (st := s_Schema_fits) l_Schema_fits c_Schema_fits k_Schema_fits, (fun_mk (st := s_Schema_fits) l_Schema_fits c_Schema_fits k_Schema_fits).binds (ps := ["self", "table", "row"]) fun _ _ _ _ _ _ us hl => match us, hl with | [_, _, _], _ => rfl⟩, m_Schema_fits := ⟨a_Schema_fits, i_Schema_fits, k_Schema_fits⟩, d_Schema_told := ⟨_, fun_mk (st := s_Schema_told) l_Schema_told c_Schema_told k_Schema_told, (fun_mk (st := s_Schema_told) l_Schema_told c_Schema_told k_Schema_told).binds (ps := ["self"]) fun _ _ _ _ _ _ us hl => match us, hl with | [_], _ => rfl⟩, m_Schema_told := ⟨a_Schema_told, i_Schema_told, k_Schema_told⟩, d_law_cell := ⟨_, fun_mk (st := s_law_cell) l_law_cell c_law_cell k_law_cell, (fun_mk (st := s_law_cell) l_law_cell c_law_cell k_law_cell).binds (ps := ["_law_script", "_law_k"]) fun _ _ _ _ _ _ us hl => match us, hl with | [_, _], _ => rfl⟩, g_law_cell := PySem.W.mg_of X G a_law_cell, d_law_draws := ⟨_, fun_mk (st := s_law_draws) l_law_draws c_law_draws k_law_draws, (fun_mk (st := s_law_draws) l_law_draws c_law_draws k_law_draws).binds (ps := ["_law_cell_here", "_law_many"]) fun _ _ _ _ _ _ us hl => match us, hl with | [_, _], _ => rfl⟩, g_law_draws := PySem.W.mg_of X G a_law_draws, d_law_names := ⟨_, fun_mk (st := s_law_names) l_law_names c_law_names k_law_names, (fun_mk (st := s_law_names) l_law_names c_law_names k_law_names).binds (ps := ["_law_cell_here", "_law_many"]) fun _ _ _ _ _ _ us hl => match us, hl with | [_, _], _ => rfl⟩, g_law_names := PySem.W.mg_of X G a_law_names, d_law_schema := ⟨_, fun_mk (st := s_law_schema) l_law_schema c_law_schema k_law_schema, (fun_mk (st := s_law_schema) l_law_schema c_law_schema k_law_schema).binds (ps := ["_law_cell_here"]) fun _ _ _ _ _ _ us hl => match us, hl with | [_], _ => rfl⟩, g_law_schema := PySem.W.mg_of X G a_law_schema, d_law_value := ⟨_, fun_mk (st := s_law_value) l_law_value c_law_value k_law_value, (fun_mk (st := s_law_value) l_law_value c_law_value k_law_value).binds (ps := ["_law_kind", "_law_draw"]) fun _ _ _ _ _ _ us hl => match us, hl with | [_, _], _ => rfl⟩, g_law_value := PySem.W.mg_of X G a_law_value, d_law_made := ⟨_, fun_mk (st := s_law_made) l_law_made c_law_made k_law_made, (fun_mk (st := s_law_made) l_law_made c_law_made k_law_made).binds (ps := ["_law_tables", "_law_orders", "_law_way"]) fun _ _ _ _ _ _ us hl => match us, hl with | [_, _, _], _ => rfl⟩, g_law_made := PySem.W.mg_of X G a_law_made, d_law_told := ⟨_, fun_mk (st := s_law_told) l_law_told c_law_told k_law_told, (fun_mk (st := s_law_told) l_law_told c_law_told k_law_told).binds (ps := ["_law_schema_here", "_law_tables", "_law_orders"]) fun _ _ _ _ _ _ us hl => match us, hl with | [_, _, _], _ => rfl⟩, g_law_told := PySem.W.mg_of X G a_law_told, d_law_row := ⟨_, fun_mk (st := s_law_row) l_law_row c_law_row k_law_row, (fun_mk (st := s_law_row) l_law_row c_law_row k_law_row).binds (ps := ["_law_columns", "_law_draws_here"]) fun _ _ _ _ _ _ us hl => match us, hl with | [_, _], _ => rfl⟩, g_law_row := PySem.W.mg_of X G a_law_row, d_law_spoilt := ⟨_, fun_mk (st := s_law_spoilt) l_law_spoilt c_law_spoilt k_law_spoilt, (fun_mk (st := s_law_spoilt) l_law_spoilt c_law_spoilt k_law_spoilt).binds (ps := ["_law_row_here", "_law_draws_here"]) fun _ _ _ _ _ _ us hl => match us, hl with | [_, _], _ => rfl⟩, g_law_spoilt := PySem.W.mg_of X G a_law_spoilt, d_law_fits := ⟨_, fun_mk (st := s_law_fits) l_law_fits c_law_fits k_law_fits, (fun_mk (st := s_law_fits) l_law_fits c_law_fits k_law_fits).binds (ps := ["_law_columns", "_law_row_here"]) fun _ _ _ _ _ _ us hl => match us, hl with | [_, _], _ => rfl⟩, g_law_fits := PySem.W.mg_of X G a_law_fits, d_law_rows := ⟨_, fun_mk (st := s_law_rows) l_law_rows c_law_rows k_law_rows, (fun_mk (st := s_law_rows) l_law_rows c_law_rows k_law_rows).binds (ps := ["_law_schema_here", "_law_tables", "_law_cell_here"]) fun _ _ _ _ _ _ us hl => match us, hl with | [_, _, _], _ => rfl⟩, g_law_rows := PySem.W.mg_of X G a_law_rows, d_law := ⟨_, fun_mk (st := s_law) l_law c_law k_law, (fun_mk (st := s_law) l_law c_law k_law).binds (ps := ["_law_script"]) fun _ _ _ _ _ _ us hl => match us, hl with | [_], _ => rfl⟩, g_law := PySem.W.mg_of X G a_law, b_abs := PySem.W.mg_none_of X G z_abs, b_bool := PySem.W.mg_none_of X G z_bool, b_enumerate := PySem.W.mg_none_of X G z_enumerate, b_int := PySem.W.mg_none_of X G z_int, b_isinstance := PySem.W.mg_none_of X G z_isinstance, b_len := PySem.W.mg_none_of X G z_len, b_list := PySem.W.mg_none_of X G z_list, b_range := PySem.W.mg_none_of X G z_range, b_str := PySem.W.mg_none_of X G z_str, b_tuple := PySem.W.mg_none_of X G z_tuple, b_zip := PySem.W.mg_none_of X G z_zip, v_LETTERS := ⟨t_LETTERS, PySem.W.mg_of X G u_LETTERS⟩, v_MOST_COLUMNS := ⟨t_MOST_COLUMNS, PySem.W.mg_of X G u_MOST_COLUMNS⟩, v_MOST_NUMBER := ⟨t_MOST_NUMBER, PySem.W.mg_of X G u_MOST_NUMBER⟩, v_MOST_ORDERS := ⟨t_MOST_ORDERS, PySem.W.mg_of X G u_MOST_ORDERS⟩, v_MOST_SIGNS := ⟨t_MOST_SIGNS, PySem.W.mg_of X G u_MOST_SIGNS⟩, v_MOST_TABLES := ⟨t_MOST_TABLES, PySem.W.mg_of X G u_MOST_TABLES⟩ }
  exact ⟨_, fun s v => .of_eq rfl, fun base _ _ => ok_law (fun_mk (st := s_law) l_law c_law k_law) T⟩
theorem walk {l : PySem.W.OpenLaw} {q : Program} {loose : List Str} {XP : (Str → Option Value) → Heap → Prop} {YP : World → Heap → Prop} {d : DefRec} {K : Params → PySem.W.Frag} (hn : l.most = some 63) (hdf : d.params.defaults = [])
    (hY : ∀ (w : World) (h : Heap), YP w h → (K w.params).In h)
    (F : ∀ (w : World) (mg : Str → Option Value) (fa : Addr) (h : Heap), (K w.params).In h → h.Ns mainGlobals mg → mg d.name = some (.ref fa) →
      ∃ fd : FuncData, (∀ (s : Shared) (u : Value), BindsTo s fd ⟨[u], []⟩ [("_law_script", u)]) ∧ ∀ base : Heap, (K w.params).In base → base.Ns mainGlobals mg → FnOk l.prog w (K w.params) mg base CX0 7 fa fd ["_law_script"] (spLaw (K w.params))) :
    PySem.W.WalkO q loose XP YP l.row.toRowW d [] (fun f vs => PySem.call f vs) :=
  L2.walk_of (n := 63) (k := 7) (x := "_law_script") (CX := fun _ => CX0) (sp := fun w => spLaw (K w.params)) hn (by decide) hdf ⟨rfl, by decide, by decide⟩ hY F (fun _ _ a ns hl _ hS => ⟨a, ns, rfl, hS, hl, fun _ => rfl⟩) fun _ _ _ _ _ z => z
end
end Toy
open PySem PySem.W PyProof.Rows in
set_option maxRecDepth 100000 in
set_option maxHeartbeats 0 in
theorem PySem.Challenge.cw_planstore_k02_schemas_told_holds : PySem.Challenge.rw_planstore_k02_schemas_told.Holds := by
  w_on; o_law; k_head; (case hw => w_witness2)
  k_fill
  refine Toy.walk (l := PySem.Challenge.rw_planstore_k02_schemas_told) rfl rfl (fun w h Y => PySem.W.kIn_of Y) ?F
  case F =>
    intro w mg fa h KX G hmg
    refine' Toy.all_mk KX G hmg ?a_Schema ?pg_Schema ?hd_Schema ?po_Schema ?sa_Schema ?mk_Schema ?kc_Schema ?n_Schema_columns ?n_Schema_kept_orders ?a_is_whole ?l_is_whole ?c_is_whole ?k_is_whole ?a_is_name ?l_is_name ?c_is_name ?k_is_name ?a_is_kind ?l_is_kind ?c_is_kind ?k_is_kind ?a_is_value ?l_is_value ?c_is_value ?k_is_value ?a_is_row_of ?l_is_row_of ?c_is_row_of ?k_is_row_of ?a_need_pair ?l_need_pair ?c_need_pair ?k_need_pair ?a_columns_in ?l_columns_in ?c_columns_in ?k_columns_in ?a_tables_in ?l_tables_in ?c_tables_in ?k_tables_in ?a_orders_in ?l_orders_in ?c_orders_in ?k_orders_in ?a_Schema___init__ ?i_Schema___init__ ?l_Schema___init__ ?c_Schema___init__ ?k_Schema___init__ ?lD_Schema___init__ ?a_Schema_need_table ?i_Schema_need_table ?l_Schema_need_table ?c_Schema_need_table ?k_Schema_need_table ?a_Schema_table_names ?i_Schema_table_names ?l_Schema_table_names ?c_Schema_table_names ?k_Schema_table_names ?a_Schema_columns_of ?i_Schema_columns_of ?l_Schema_columns_of ?c_Schema_columns_of ?k_Schema_columns_of ?a_Schema_kind_of ?i_Schema_kind_of ?l_Schema_kind_of ?c_Schema_kind_of ?k_Schema_kind_of ?a_Schema_has_order ?i_Schema_has_order ?l_Schema_has_order ?c_Schema_has_order ?k_Schema_has_order ?a_Schema_fits ?i_Schema_fits ?l_Schema_fits ?c_Schema_fits ?k_Schema_fits ?a_Schema_told ?i_Schema_told ?l_Schema_told ?c_Schema_told ?k_Schema_told ?a_law_cell ?l_law_cell ?c_law_cell ?k_law_cell ?a_law_draws ?l_law_draws ?c_law_draws ?k_law_draws ?a_law_names ?l_law_names ?c_law_names ?k_law_names ?a_law_schema ?l_law_schema ?c_law_schema ?k_law_schema ?a_law_value ?l_law_value ?c_law_value ?k_law_value ?a_law_made ?l_law_made ?c_law_made ?k_law_made ?a_law_told ?l_law_told ?c_law_told ?k_law_told ?a_law_row ?l_law_row ?c_law_row ?k_law_row ?a_law_spoilt ?l_law_spoilt ?c_law_spoilt ?k_law_spoilt ?a_law_fits ?l_law_fits ?c_law_fits ?k_law_fits ?a_law_rows ?l_law_rows ?c_law_rows ?k_law_rows ?a_law ?l_law ?c_law ?k_law ?z_abs ?z_bool ?z_enumerate ?z_int ?z_isinstance ?z_len ?z_list ?z_range ?z_str ?z_tuple ?z_zip ?u_LETTERS ?u_MOST_COLUMNS ?u_MOST_NUMBER ?u_MOST_ORDERS ?u_MOST_SIGNS ?u_MOST_TABLES
    (case a_Schema => k_is)
    (case pg_Schema => k_is)
    (case hd_Schema => k_is)
    (case po_Schema => k_is)
    (case sa_Schema => k_is)
    (case mk_Schema => k_is)
    (case kc_Schema => k_is)
    (case n_Schema_columns => k_is)
    (case n_Schema_kept_orders => k_is)
    (case a_is_whole => k_is)
    (case l_is_whole => k_is)
    (case c_is_whole => k_is)
    (case k_is_whole => k_is)
    (case a_is_name => k_is)
    (case l_is_name => k_is)
    (case c_is_name => k_is)
    (case k_is_name => k_is)
    (case a_is_kind => k_is)
    (case l_is_kind => k_is)
    (case c_is_kind => k_is)
    (case k_is_kind => k_is)
    (case a_is_value => k_is)
    (case l_is_value => k_is)
    (case c_is_value => k_is)
    (case k_is_value => k_is)
    (case a_is_row_of => k_is)
    (case l_is_row_of => k_is)
    (case c_is_row_of => k_is)
    (case k_is_row_of => k_is)
    (case a_need_pair => k_is)
    (case l_need_pair => k_is)
    (case c_need_pair => k_is)
    (case k_need_pair => k_is)
    (case a_columns_in => k_is)
    (case l_columns_in => k_is)
    (case c_columns_in => k_is)
    (case k_columns_in => k_is)
    (case a_tables_in => k_is)
    (case l_tables_in => k_is)
    (case c_tables_in => k_is)
    (case k_tables_in => k_is)
    (case a_orders_in => k_is)
    (case l_orders_in => k_is)
    (case c_orders_in => k_is)
    (case k_orders_in => k_is)
    (case a_Schema___init__ => k_is)
    (case i_Schema___init__ => k_is)
    (case l_Schema___init__ => k_is)
    (case c_Schema___init__ => k_is)
    (case k_Schema___init__ => k_is)
    (case lD_Schema___init__ => k_is)
    (case a_Schema_need_table => k_is)
    (case i_Schema_need_table => k_is)
    (case l_Schema_need_table => k_is)
    (case c_Schema_need_table => k_is)
    (case k_Schema_need_table => k_is)
    (case a_Schema_table_names => k_is)
    (case i_Schema_table_names => k_is)
    (case l_Schema_table_names => k_is)
    (case c_Schema_table_names => k_is)
    (case k_Schema_table_names => k_is)
    (case a_Schema_columns_of => k_is)
    (case i_Schema_columns_of => k_is)
    (case l_Schema_columns_of => k_is)
    (case c_Schema_columns_of => k_is)
    (case k_Schema_columns_of => k_is)
    (case a_Schema_kind_of => k_is)
    (case i_Schema_kind_of => k_is)
    (case l_Schema_kind_of => k_is)
    (case c_Schema_kind_of => k_is)
    (case k_Schema_kind_of => k_is)
    (case a_Schema_has_order => k_is)
    (case i_Schema_has_order => k_is)
    (case l_Schema_has_order => k_is)
    (case c_Schema_has_order => k_is)
    (case k_Schema_has_order => k_is)
    (case a_Schema_fits => k_is)
    (case i_Schema_fits => k_is)
    (case l_Schema_fits => k_is)
    (case c_Schema_fits => k_is)
    (case k_Schema_fits => k_is)
    (case a_Schema_told => k_is)
    (case i_Schema_told => k_is)
    (case l_Schema_told => k_is)
    (case c_Schema_told => k_is)
    (case k_Schema_told => k_is)
    (case a_law_cell => k_is)
    (case l_law_cell => k_is)
    (case c_law_cell => k_is)
    (case k_law_cell => k_is)
    (case a_law_draws => k_is)
    (case l_law_draws => k_is)
    (case c_law_draws => k_is)
    (case k_law_draws => k_is)
    (case a_law_names => k_is)
    (case l_law_names => k_is)
    (case c_law_names => k_is)
    (case k_law_names => k_is)
    (case a_law_schema => k_is)
    (case l_law_schema => k_is)
    (case c_law_schema => k_is)
    (case k_law_schema => k_is)
    (case a_law_value => k_is)
    (case l_law_value => k_is)
    (case c_law_value => k_is)
    (case k_law_value => k_is)
    (case a_law_made => k_is)
    (case l_law_made => k_is)
    (case c_law_made => k_is)
    (case k_law_made => k_is)
    (case a_law_told => k_is)
    (case l_law_told => k_is)
    (case c_law_told => k_is)
    (case k_law_told => k_is)
    (case a_law_row => k_is)
    (case l_law_row => k_is)
    (case c_law_row => k_is)
    (case k_law_row => k_is)
    (case a_law_spoilt => k_is)
    (case l_law_spoilt => k_is)
    (case c_law_spoilt => k_is)
    (case k_law_spoilt => k_is)
    (case a_law_fits => k_is)
    (case l_law_fits => k_is)
    (case c_law_fits => k_is)
    (case k_law_fits => k_is)
    (case a_law_rows => k_is)
    (case l_law_rows => k_is)
    (case c_law_rows => k_is)
    (case k_law_rows => k_is)
    (case a_law => k_is)
    (case l_law => k_is)
    (case c_law => k_is)
    (case k_law => k_is)
    (case z_abs => k_is)
    (case z_bool => k_is)
    (case z_enumerate => k_is)
    (case z_int => k_is)
    (case z_isinstance => k_is)
    (case z_len => k_is)
    (case z_list => k_is)
    (case z_range => k_is)
    (case z_str => k_is)
    (case z_tuple => k_is)
    (case z_zip => k_is)
    (case u_LETTERS => k_is)
    (case u_MOST_COLUMNS => k_is)
    (case u_MOST_NUMBER => k_is)
    (case u_MOST_ORDERS => k_is)
    (case u_MOST_SIGNS => k_is)
    (case u_MOST_TABLES => k_is)
